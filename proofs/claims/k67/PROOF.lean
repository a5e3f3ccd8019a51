import PyProof.Rows.All
import Wide.All
import OpenK.AllK
import Wide.FinOn
import HandS.ForMost
import HandS.Iter
import HandS.TupAny
import HandS.Wide
import KE.KEqNest
import HandS.DictEq
import PyProof.ReprRoads
import HandS.RaiseMore
import HandS.DictComp
import HandS.ListItems
import HandS.IsInst
import HandS.SortInts
import HandS.More
import HandS.Small
import HandS.Style
import PyProof.ReprLen
import PySem.Challenge.RW_keptviews_k67_whole_histories_by_an_own
set_option Elab.async false
set_option linter.all false
set_option maxRecDepth 100000
/-! TD: plain trees over the hand layer. D: values as trees; O: live objects; Z: what is frozen. -/
namespace TD
open PySem PySem.Spec PyProof.Rows L2

inductive D where
  | non | bl (b : Bool) | int (i : Int) | str (x : Str) | ty (n : String)
  | tup (ds : List D) | lst (ds : List D) | dic (kvs : List (Key × D)) | dct (kvs : List (List Key × D))
  | ref (a : Addr)

mutual
inductive Rep (Z : Hp) : D → V → Prop
  | non : Rep Z .non .non
  | bl {b} : Rep Z (.bl b) (.bl b)
  | int {i} : Rep Z (.int i) (.int i)
  | str {x} : Rep Z (.str x) (.str x)
  | ty {n} : Rep Z (.ty n) (.ty n)
  | ref {a} : Rep Z (.ref a) (.ref a)
  | tup {p vs ds} : Z p = some (.tup vs) → Reps Z ds vs → Rep Z (.tup ds) (.ref p)
  | lst {p vs ds} : Z p = some (.lst vs) → Reps Z ds vs → Rep Z (.lst ds) (.ref p)
  | dic {p o us kvs} : Z p = some (.frz o (.dK us)) → RepK Z kvs us → Rep Z (.dic kvs) (.ref p)
  | dct {p o us kvs} : Z p = some (.frz o (.dT us)) → RepT Z kvs us → Rep Z (.dct kvs) (.ref p)
inductive Reps (Z : Hp) : List D → List V → Prop
  | nil : Reps Z [] []
  | cons {d v ds vs} : Rep Z d v → Reps Z ds vs → Reps Z (d :: ds) (v :: vs)
inductive RepK (Z : Hp) : List (Key × D) → List (Key × V) → Prop
  | nil : RepK Z [] []
  | cons {k d v ds vs} : Rep Z d v → RepK Z ds vs → RepK Z ((k, d) :: ds) ((k, v) :: vs)
inductive RepT (Z : Hp) : List (List Key × D) → List (List Key × V) → Prop
  | nil : RepT Z [] []
  | cons {k d v ds vs} : Rep Z d v → RepT Z ds vs → RepT Z ((k, d) :: ds) ((k, v) :: vs)
end

mutual
theorem Rep.mono {Z Z' : Hp} (h : Same Z Z') : ∀ {d v}, Rep Z d v → Rep Z' d v
  | _, _, .non => .non
  | _, _, .bl => .bl
  | _, _, .int => .int
  | _, _, .str => .str
  | _, _, .ty => .ty
  | _, _, .ref => .ref
  | _, _, .tup e r => .tup (h _ _ e) (Reps.mono h r)
  | _, _, .lst e r => .lst (h _ _ e) (Reps.mono h r)
  | _, _, .dic e r => .dic (h _ _ e) (RepK.mono h r)
  | _, _, .dct e r => .dct (h _ _ e) (RepT.mono h r)
theorem Reps.mono {Z Z' : Hp} (h : Same Z Z') : ∀ {d v}, Reps Z d v → Reps Z' d v
  | _, _, .nil => .nil
  | _, _, .cons e r => .cons (Rep.mono h e) (Reps.mono h r)
theorem RepK.mono {Z Z' : Hp} (h : Same Z Z') : ∀ {d v}, RepK Z d v → RepK Z' d v
  | _, _, .nil => .nil
  | _, _, .cons e r => .cons (Rep.mono h e) (RepK.mono h r)
theorem RepT.mono {Z Z' : Hp} (h : Same Z Z') : ∀ {d v}, RepT Z d v → RepT Z' d v
  | _, _, .nil => .nil
  | _, _, .cons e r => .cons (Rep.mono h e) (RepT.mono h r)
end

theorem Reps.length {Z : Hp} : ∀ {ds vs}, Reps Z ds vs → ds.length = vs.length
  | _, _, .nil => rfl
  | _, _, .cons _ r => by simp [Reps.length r]
theorem Reps.get {Z : Hp} : ∀ {ds vs} {i : Nat} {d}, Reps Z ds vs → ds[i]? = some d → ∃ v, vs[i]? = some v ∧ Rep Z d v
  | _, _, _, _, .nil, e => by simp at e
  | _, _, 0, _, .cons h _, e => by simp at e; subst e; exact ⟨_, rfl, h⟩
  | _, _, i + 1, _, .cons _ r, e => by
    obtain ⟨v, h1, h2⟩ := Reps.get (i := i) r (by simpa using e)
    exact ⟨v, by simpa using h1, h2⟩
theorem Reps.getV {Z : Hp} : ∀ {ds vs} {i : Nat} {v}, Reps Z ds vs → vs[i]? = some v → ∃ d, ds[i]? = some d ∧ Rep Z d v
  | _, _, _, _, .nil, e => by simp at e
  | _, _, 0, _, .cons h _, e => by simp at e; subst e; exact ⟨_, rfl, h⟩
  | _, _, i + 1, _, .cons _ r, e => by
    obtain ⟨v, h1, h2⟩ := Reps.getV (i := i) r (by simpa using e)
    exact ⟨v, by simpa using h1, h2⟩
theorem Reps.append {Z : Hp} : ∀ {ds vs es us}, Reps Z ds vs → Reps Z es us → Reps Z (ds ++ es) (vs ++ us)
  | _, _, _, _, .nil, h => h
  | _, _, _, _, .cons a r, h => .cons a (Reps.append r h)
theorem Reps.one {Z : Hp} {d v} (h : Rep Z d v) : Reps Z [d] [v] := .cons h .nil
theorem Reps.take {Z : Hp} : ∀ {ds vs} (n : Nat), Reps Z ds vs → Reps Z (ds.take n) (vs.take n)
  | _, _, 0, _ => .nil
  | _, _, _ + 1, .nil => .nil
  | _, _, n + 1, .cons a r => .cons a (Reps.take n r)
theorem Reps.drop {Z : Hp} : ∀ {ds vs} (n : Nat), Reps Z ds vs → Reps Z (ds.drop n) (vs.drop n)
  | _, _, 0, h => h
  | _, _, _ + 1, .nil => .nil
  | _, _, n + 1, .cons _ r => Reps.drop n r
theorem Reps.set {Z : Hp} {d v} (h : Rep Z d v) : ∀ {ds vs} (n : Nat), Reps Z ds vs → Reps Z (ds.set n d) (vs.set n v)
  | _, _, _, .nil => .nil
  | _, _, 0, .cons _ r => .cons h r
  | _, _, n + 1, .cons a r => .cons a (Reps.set h n r)
theorem Reps.eraseIdx {Z : Hp} : ∀ {ds vs} (n : Nat), Reps Z ds vs → Reps Z (ds.eraseIdx n) (vs.eraseIdx n)
  | _, _, _, .nil => .nil
  | _, _, 0, .cons _ r => r
  | _, _, n + 1, .cons a r => .cons a (Reps.eraseIdx n r)
theorem Reps.dropLast {Z : Hp} : ∀ {ds vs}, Reps Z ds vs → Reps Z ds.dropLast vs.dropLast
  | _, _, .nil => .nil
  | _, _, .cons _ .nil => .nil
  | _, _, .cons a (.cons b r) => .cons a (Reps.dropLast (.cons b r))
theorem Reps.reverse {Z : Hp} : ∀ {ds vs}, Reps Z ds vs → Reps Z ds.reverse vs.reverse
  | _, _, .nil => .nil
  | _, _, .cons a r => by
    rw [List.reverse_cons, List.reverse_cons]
    exact (Reps.reverse r).append (.one a)
theorem Reps.ints {Z : Hp} : ∀ {ns : List Int} {vs}, Reps Z (ns.map D.int) vs → vs = ns.map V.int
  | [], _, .nil => rfl
  | _ :: _, _, .cons .int r => by rw [Reps.ints r]; rfl
theorem Reps.of_ints {Z : Hp} : ∀ (ns : List Int), Reps Z (ns.map D.int) (ns.map V.int)
  | [] => .nil
  | _ :: r => .cons .int (Reps.of_ints r)
theorem Reps.strs {Z : Hp} : ∀ {ns : List Str} {vs}, Reps Z (ns.map D.str) vs → vs = ns.map V.str
  | [], _, .nil => rfl
  | _ :: _, _, .cons .str r => by rw [Reps.strs r]; rfl
theorem Reps.of_strs {Z : Hp} : ∀ (ns : List Str), Reps Z (ns.map D.str) (ns.map V.str)
  | [] => .nil
  | _ :: r => .cons .str (Reps.of_strs r)
theorem Reps.bls {Z : Hp} : ∀ {ns : List Bool} {vs}, Reps Z (ns.map D.bl) vs → vs = ns.map V.bl
  | [], _, .nil => rfl
  | _ :: _, _, .cons .bl r => by rw [Reps.bls r]; rfl

/-! ### live objects -/
inductive MO where
  | lst (ds : List D) | dic (kvs : List (Key × D)) | dct (kvs : List (List Key × D)) | ins (C : Addr) (fs : List (Str × D))
  | tape | pin (u : HO) | lkd (od : Obj) (us : List (Key × V)) (kvs : List (Key × D))
abbrev OO := Addr → Option MO
def updO (O : OO) (a : Addr) (m : MO) : OO := fun b => if b = a then some m else O b
def remO (O : OO) (a : Addr) : OO := fun b => if b = a then none else O b
@[simp] theorem updO_same {O : OO} {a m} : updO O a m a = some m := by simp [updO]
theorem updO_ne {O : OO} {a b m} (h : b ≠ a) : updO O a m b = O b := by simp [updO, h]
@[simp] theorem remO_same {O : OO} {a} : remO O a a = none := by simp [remO]
theorem remO_ne {O : OO} {a b} (h : b ≠ a) : remO O a b = O b := by simp [remO, h]
@[simp] theorem updO_updO {O : OO} {a m n} : updO (updO O a m) a n = updO O a n := by funext b; simp only [updO]; split <;> rfl
@[simp] theorem remO_updO {O : OO} {a m} (h : O a = none) : remO (updO O a m) a = O := by
  funext b; simp only [updO, remO]; split
  · rename_i e; rw [e, h]
  · rfl
theorem neO {O : OO} {a b : Addr} {m} (h : O a = some m) (h' : O b = none) : a ≠ b := by intro e; subst e; rw [h] at h'; cases h'
theorem neO' {O : OO} {a b : Addr} {m} (h : O a = some m) (h' : O b = none) : b ≠ a := fun e => neO h h' e.symm

def MO.isPin : MO → Bool := fun _ => false
/-- the fields of an instance -/
def RepF (Z : Hp) : List (Str × D) → List (Str × V) → Prop
  | [], vs => vs = []
  | (f, d) :: r, vs => ∃ v t, vs = (f, v) :: t ∧ Rep Z d v ∧ RepF Z r t
/-- the tape of the draws: the cells (never changed), the place, the great number left, the seed, the count -/
def TapeV (Z : Hp) (vs : List V) : Prop := ∃ (c : Addr) (cells : List Int) (i g s n : Int), vs = [.ref c, .int i, .int g, .int s, .int n] ∧ Z c = some (.lst (cells.map V.int)) ∧
  (∀ x ∈ cells, 0 ≤ x) ∧ 0 ≤ i ∧ 0 ≤ g
def MOk (Z H : Hp) (a : Addr) : MO → Prop
  | .lst ds => ∃ vs, H a = some (.lst vs) ∧ Reps Z ds vs
  | .dic kvs => ∃ us, H a = some (.dK us) ∧ RepK Z kvs us
  | .dct kvs => ∃ us, H a = some (.dT us) ∧ RepT Z kvs us
  | .ins C fs => ∃ dx us, H a = some (.ins C dx us) ∧ RepF Z fs us
  | .tape => ∃ vs, H a = some (.lst vs) ∧ TapeV Z vs
  | .pin u => H a = some u
  | .lkd od us kvs => H a = some (.frz od (.dK us)) ∧ RepK Z kvs us
theorem RepF.mono {Z Z' : Hp} (h : Same Z Z') : ∀ {fs us}, RepF Z fs us → RepF Z' fs us
  | [], _, e => e
  | (f, d) :: r, _, ⟨v, t, e, hr, ht⟩ => ⟨v, t, e, hr.mono h, RepF.mono h ht⟩
theorem MOk.mono {Z Z' H : Hp} {a : Addr} (h : Same Z Z') : ∀ {m}, MOk Z H a m → MOk Z' H a m
  | .lst _, ⟨vs, e, r⟩ => ⟨vs, e, r.mono h⟩
  | .dic _, ⟨us, e, r⟩ => ⟨us, e, r.mono h⟩
  | .dct _, ⟨us, e, r⟩ => ⟨us, e, r.mono h⟩
  | .ins _ _, ⟨dx, us, e, r⟩ => ⟨dx, us, e, r.mono h⟩
  | .tape, ⟨vs, e, c, cells, i, g, s, n, e2, hz, r⟩ => ⟨vs, e, c, cells, i, g, s, n, e2, h _ _ hz, r⟩
  | .pin _, e => e
  | .lkd _ _ _, ⟨e, r⟩ => ⟨e, r.mono h⟩
theorem MOk.at {Z H H' : Hp} {a : Addr} (h : H' a = H a) : ∀ {m}, MOk Z H a m → MOk Z H' a m
  | .lst _, ⟨vs, e, r⟩ => ⟨vs, h.trans e, r⟩
  | .dic _, ⟨us, e, r⟩ => ⟨us, h.trans e, r⟩
  | .dct _, ⟨us, e, r⟩ => ⟨us, h.trans e, r⟩
  | .ins _ _, ⟨dx, us, e, r⟩ => ⟨dx, us, h.trans e, r⟩
  | .tape, ⟨vs, e, r⟩ => ⟨vs, h.trans e, r⟩
  | .pin _, e => h.trans e
  | .lkd _ _ _, ⟨e, r⟩ => ⟨h.trans e, r⟩
theorem MOk.there {Z H : Hp} {a : Addr} : ∀ {m}, MOk Z H a m → ∃ u, H a = some u
  | .lst _, ⟨vs, e, r⟩ => ⟨_, e⟩
  | .dic _, ⟨us, e, r⟩ => ⟨_, e⟩
  | .dct _, ⟨us, e, r⟩ => ⟨_, e⟩
  | .ins _ _, ⟨dx, us, e, r⟩ => ⟨_, e⟩
  | .tape, ⟨vs, e, r⟩ => ⟨_, e⟩
  | .pin _, e => ⟨_, e⟩
  | .lkd _ _ _, ⟨e, r⟩ => ⟨_, e⟩

def isDict : HO → Bool | .dK _ => true | .dT _ => true | _ => false
/-- what is frozen stands in the heap (a dict perhaps locked) -/
def Sub (Z H : Hp) : Prop := ∀ a u, Z a = some u → H a = some u ∨ (isDict u = true ∧ ∃ o, H a = some (.frz o u))
structure RelO (Z H : Hp) (O : OO) : Prop where
  sub : Sub Z H
  own : ∀ a m, O a = some m → MOk Z H a m
  off : ∀ a m, O a = some m → m.isPin = false → Z a = none
theorem Sub.free {Z H : Hp} {p : Addr} (h : Sub Z H) (n : H p = none) : Z p = none := by
  cases e : Z p with
  | none => rfl
  | some u =>
    rcases h p u e with q | ⟨_, o, q⟩
    · rw [n] at q; cases q
    · rw [n] at q; cases q
theorem RelO.free {Z H : Hp} {O : OO} {p : Addr} (h : RelO Z H O) (n : H p = none) : O p = none := by
  cases e : O p with
  | none => rfl
  | some m =>
    obtain ⟨u, q⟩ := (h.own p m e).there
    rw [n] at q; cases q
theorem same_updZ {Z : Hp} {p : Addr} {u : HO} (n : Z p = none) : Same Z (upd Z p u) := fun b x e => by
  rw [upd_ne (ne_of_none e n)]
  exact e
theorem Sub.same {Z H H' : Hp} (h : Sub Z H) (s : Same H H') : Sub Z H' := fun a u e => by
  rcases h a u e with q | ⟨d, o, q⟩
  · exact .inl (s _ _ q)
  · exact .inr ⟨d, o, s _ _ q⟩
/-- the heap grows by something that is not told -/
theorem RelO.grow {Z H H' : Hp} {O : OO} (h : RelO Z H O) (s : Same H H') : RelO Z H' O where
  sub := h.sub.same s
  own := fun a m e => by
    obtain ⟨u, q⟩ := (h.own a m e).there
    exact (h.own a m e).at (by rw [s _ _ q, q])
  off := h.off
/-- a new live object -/
theorem RelO.new {Z H : Hp} {O : OO} {p : Addr} {u : HO} {m : MO} (h : RelO Z H O) (n : H p = none) (ok : MOk Z (upd H p u) p m) : RelO Z (upd H p u) (updO O p m) where
  sub := h.sub.same (same_updZ n)
  own := fun a k e => by
    by_cases ha : a = p
    · subst ha
      rw [updO_same] at e
      cases e
      exact ok
    · rw [updO_ne ha] at e
      exact (h.own a k e).at (upd_ne ha)
  off := fun a k e hk => by
    by_cases ha : a = p
    · subst ha
      exact h.sub.free n
    · rw [updO_ne ha] at e
      exact h.off a k e hk
/-- a new frozen thing -/
theorem RelO.newZ {Z H : Hp} {O : OO} {p : Addr} {u : HO} (h : RelO Z H O) (n : H p = none) : Same Z (upd Z p u) ∧ RelO (upd Z p u) (upd H p u) O := by
  have nz := h.sub.free n
  refine ⟨same_updZ nz, ⟨fun a w e => ?_, fun a m e => ?_, fun a m e hm => ?_⟩⟩
  · by_cases ha : a = p
    · subst ha
      rw [upd_same] at e
      cases e
      exact .inl upd_same
    · rw [upd_ne ha] at e
      rcases h.sub a w e with q | ⟨d, o, q⟩
      · exact .inl (by rw [upd_ne ha]; exact q)
      · exact .inr ⟨d, o, by rw [upd_ne ha]; exact q⟩
  · have ha : a ≠ p := neO e (h.free n)
    exact ((h.own a m e).at (upd_ne ha)).mono (same_updZ nz)
  · have ha : a ≠ p := neO e (h.free n)
    rw [upd_ne ha]
    exact h.off a m e hm
/-- a live object is written -/
theorem RelO.put {Z H : Hp} {O : OO} {p : Addr} {u : HO} {m m' : MO} (h : RelO Z H O) (e : O p = some m) (hp : m.isPin = false) (ok : MOk Z (upd H p u) p m') : RelO Z (upd H p u) (updO O p m') where
  sub := fun a w q => by
    have ha : a ≠ p := fun z => by subst z; rw [h.off _ _ e hp] at q; cases q
    rcases h.sub a w q with r | ⟨d, o, r⟩
    · exact .inl (by rw [upd_ne ha]; exact r)
    · exact .inr ⟨d, o, by rw [upd_ne ha]; exact r⟩
  own := fun a k q => by
    by_cases ha : a = p
    · subst ha
      rw [updO_same] at q
      cases q
      exact ok
    · rw [updO_ne ha] at q
      exact (h.own a k q).at (upd_ne ha)
  off := fun a k q hk => by
    by_cases ha : a = p
    · subst ha
      exact h.off _ _ e hp
    · rw [updO_ne ha] at q
      exact h.off a k q hk
/-- live objects are let go -/
theorem RelO.less {Z H : Hp} {O O' : OO} (h : RelO Z H O) (l : ∀ a m, O' a = some m → O a = some m) : RelO Z H O' where
  sub := h.sub
  own := fun a m e => h.own a m (l a m e)
  off := fun a m e => h.off a m (l a m e)
theorem remO_some {O : OO} {a b : Addr} {m : MO} (h : remO O a b = some m) : b ≠ a ∧ O b = some m := by
  unfold remO at h
  split at h
  · cases h
  · exact ⟨by assumption, h⟩
/-- a live object is frozen -/
theorem RelO.freeze {Z H : Hp} {O : OO} {p : Addr} {u : HO} {m : MO} (h : RelO Z H O) (e : O p = some m) (hm : m.isPin = false) (hu : H p = some u) : Same Z (upd Z p u) ∧ RelO (upd Z p u) H (remO O p) := by
  have nz := h.off _ _ e hm
  refine ⟨same_updZ nz, ⟨fun a w q => ?_, fun a k q => ?_, fun a k q hk => ?_⟩⟩
  · by_cases ha : a = p
    · subst ha
      rw [upd_same] at q
      cases q
      exact .inl hu
    · rw [upd_ne ha] at q
      exact h.sub a w q
  · obtain ⟨ha, q⟩ := remO_some q
    exact (h.own a k q).mono (same_updZ nz)
  · obtain ⟨ha, q⟩ := remO_some q
    rw [upd_ne ha]
    exact h.off a k q hk
theorem RelO.freezeL {Z H : Hp} {O : OO} {p : Addr} {ds : List D} (h : RelO Z H O) (e : O p = some (.lst ds)) : ∃ Z', Same Z Z' ∧ RelO Z' H (remO O p) ∧ Rep Z' (.lst ds) (.ref p) := by
  obtain ⟨vs, hu, r⟩ := h.own _ _ e
  obtain ⟨s, g⟩ := h.freeze e rfl hu
  exact ⟨_, s, g, .lst upd_same (r.mono s)⟩
/-- a live dict is frozen: it is locked for good -/
theorem RelO.freezeLk {Z H : Hp} {O : OO} {p : Addr} {u : HO} {m : MO} (h : RelO Z H O) (e : O p = some m) (hm : m.isPin = false) (o : Obj) : Same Z (upd Z p (.frz o u)) ∧ RelO (upd Z p (.frz o u)) (upd H p (.frz o u)) (remO O p) := by
  have nz := h.off _ _ e hm
  refine ⟨same_updZ nz, ⟨fun a w q => ?_, fun a k q => ?_, fun a k q hk => ?_⟩⟩
  · by_cases ha : a = p
    · subst ha
      rw [upd_same] at q
      cases q
      exact .inl upd_same
    · rw [upd_ne ha] at q
      rcases h.sub a w q with z | ⟨z, o', z'⟩
      · exact .inl (by rw [upd_ne ha]; exact z)
      · exact .inr ⟨z, o', by rw [upd_ne ha]; exact z'⟩
  · obtain ⟨ha, q⟩ := remO_some q
    exact ((h.own a k q).at (upd_ne ha)).mono (same_updZ nz)
  · obtain ⟨ha, q⟩ := remO_some q
    rw [upd_ne ha]
    exact h.off a k q hk
theorem RelO.freezeK {Z H : Hp} {O : OO} {p : Addr} {kvs : List (Key × D)} (h : RelO Z H O) (e : O p = some (.dic kvs)) : ∃ us, H p = some (.dK us) ∧ ∀ o, ∃ Z', Same Z Z' ∧ RelO Z' (upd H p (.frz o (.dK us))) (remO O p) ∧ Rep Z' (.dic kvs) (.ref p) := by
  obtain ⟨us, hu, r⟩ := h.own _ _ e
  refine ⟨us, hu, fun o => ?_⟩
  obtain ⟨s, g⟩ := h.freezeLk (u := .dK us) e rfl o
  exact ⟨_, s, g, .dic upd_same (r.mono s)⟩
theorem RelO.freezeT {Z H : Hp} {O : OO} {p : Addr} {kvs : List (List Key × D)} (h : RelO Z H O) (e : O p = some (.dct kvs)) : ∃ us, H p = some (.dT us) ∧ ∀ o, ∃ Z', Same Z Z' ∧ RelO Z' (upd H p (.frz o (.dT us))) (remO O p) ∧ Rep Z' (.dct kvs) (.ref p) := by
  obtain ⟨us, hu, r⟩ := h.own _ _ e
  refine ⟨us, hu, fun o => ?_⟩
  obtain ⟨s, g⟩ := h.freezeLk (u := .dT us) e rfl o
  exact ⟨_, s, g, .dct upd_same (r.mono s)⟩

/-! ### slots -/
abbrev SD := List (Option D)
structure RelS (Z : Hp) (σ : L2.St) (s : SD) : Prop where
  len : σ.length = s.length
  at' : ∀ (i : Nat) d, s[i]? = some (some d) → ∃ v, σ[i]? = some (some v) ∧ Rep Z d v
theorem RelS.mono {Z Z' : Hp} {σ : L2.St} {s : SD} (r : RelS Z σ s) (h : Same Z Z') : RelS Z' σ s :=
  ⟨r.len, fun i d e => let ⟨v, h1, h2⟩ := r.at' i d e; ⟨v, h1, h2.mono h⟩⟩
theorem RelS.set {Z : Hp} {σ : L2.St} {s : SD} {d : D} {v : V} (r : RelS Z σ s) (i : Nat) (h : Rep Z d v) : RelS Z (σ.set i (some v)) (s.set i (some d)) := by
  refine ⟨by simp [r.len], fun j e q => ?_⟩
  rw [List.getElem?_set] at q ⊢
  by_cases hj : i = j
  · subst hj
    rw [if_pos rfl] at q ⊢
    by_cases hl : i < s.length
    · rw [if_pos hl] at q
      rw [if_pos (by rw [r.len]; exact hl)]
      cases q
      exact ⟨v, rfl, h⟩
    · rw [if_neg hl] at q
      cases q
  · rw [if_neg hj] at q ⊢
    exact r.at' j e q
/-- slots that are told less of -/
theorem RelS.less {Z : Hp} {σ : L2.St} {s s' : SD} (r : RelS Z σ s) (hl : s'.length = s.length) (h : ∀ (i : Nat) d, s'[i]? = some (some d) → s[i]? = some (some d)) : RelS Z σ s' :=
  ⟨r.len.trans hl.symm, fun i d e => r.at' i d (h i d e)⟩
/-- slots of a def: the arguments, the others empty -/
def sstart (N : List Str) (ds : List D) : SD := ds.map some ++ List.replicate (N.length - ds.length) none
theorem RelS.start {Z : Hp} {N : List Str} {ds vs} (r : Reps Z ds vs) : RelS Z (L2.start N vs) (sstart N ds) := by
  have el := r.length
  refine ⟨?_, fun i d e => ?_⟩
  · simp [L2.start, sstart, el]
  · unfold sstart at e
    by_cases hi : i < ds.length
    · rw [List.getElem?_append_left (by simpa using hi), List.getElem?_map] at e
      cases q : ds[i]? with
      | none => rw [q] at e; cases e
      | some d' =>
        rw [q] at e
        obtain ⟨v, h1, h2⟩ := r.get q
        refine ⟨v, ?_, ?_⟩
        · unfold L2.start
          rw [List.getElem?_append_left (by simpa [← el] using hi), List.getElem?_map, h1]
          rfl
        · cases e
          exact h2
    · rw [List.getElem?_append_right (by simpa using hi)] at e
      rw [List.getElem?_replicate] at e
      split at e
      · cases e
      · cases e
end TD

set_option Elab.async false
set_option linter.all false
set_option maxRecDepth 100000
/-! TD: the judgements, expressions -/
namespace TD
open PySem PySem.Spec PyProof.Rows L2

abbrev WE := SD → OO → (D → OO → Prop) → Prop
abbrev WT := SD → OO → (Bool → OO → Prop) → Prop
abbrev WA := SD → OO → (List D → OO → Prop) → Prop
abbrev DOF := D → D → OO → (D → OO → Prop) → Prop
abbrev DUF := D → OO → (D → OO → Prop) → Prop
abbrev DLF := List D → OO → (D → OO → Prop) → Prop

def PostE (Z : Hp) (Q : D → OO → Prop) (R : V → Hp → Prop) : Prop := ∀ v H' Z' d O', Same Z Z' → RelO Z' H' O' → Rep Z' d v → Q d O' → R v H'
def PostT (Z : Hp) (Q : Bool → OO → Prop) (R : Bool → Hp → Prop) : Prop := ∀ b H' Z' O', Same Z Z' → RelO Z' H' O' → Q b O' → R b H'
def PostA (n : Nat) (Z : Hp) (Q : List D → OO → Prop) (R : List V → Hp → Prop) : Prop := ∀ vs H' Z' ds O', ds.length = n → Same Z Z' → RelO Z' H' O' → Reps Z' ds vs → Q ds O' → R vs H'
theorem PostE.mono {Z Z' : Hp} {Q R} (h : PostE Z Q R) (s : Same Z Z') : PostE Z' Q R := fun v H' Z2 d O' s2 => h v H' Z2 d O' (s.trans s2)
theorem PostT.mono {Z Z' : Hp} {Q R} (h : PostT Z Q R) (s : Same Z Z') : PostT Z' Q R := fun v H' Z2 O' s2 => h v H' Z2 O' (s.trans s2)

structure DE (X : Cx) (e : Expr) (W : WE) : Prop where
  ex : ∃ t, PE X e t ∧ ∀ Z σ s H O Q R, RelS Z σ s → RelO Z H O → W s O Q → PostE Z Q R → t σ H R
structure DT (X : Cx) (e : Expr) (W : WT) : Prop where
  ex : ∃ t, PT X e t ∧ ∀ Z σ s H O Q R, RelS Z σ s → RelO Z H O → W s O Q → PostT Z Q R → t σ H R
structure DW (X : Cx) (e : Expr) (W : WT) : Prop where
  ex : ∃ t, PW X e t ∧ ∀ Z σ s H O Q R, RelS Z σ s → RelO Z H O → W s O Q → PostT Z Q R → t σ H R
structure DA (X : Cx) (es : List Expr) (W : WA) : Prop where
  ex : ∃ t, PA X es t ∧ ∀ Z σ s H O Q R, RelS Z σ s → RelO Z H O → W s O Q → PostA es.length Z Q R → t σ H R
structure DOp (X : Cx) (f : Value → Value → Sem Value) (o : DOF) : Prop where
  ex : ∃ r, OpR X f r ∧ ∀ Z H O x y vx vy Q R, RelO Z H O → Rep Z x vx → Rep Z y vy → o x y O Q → PostE Z Q R → r vx vy H R
structure DUn (X : Cx) (f : Value → Sem Value) (o : DUF) : Prop where
  ex : ∃ r, UnR X f r ∧ ∀ Z H O x vx Q R, RelO Z H O → Rep Z x vx → o x O Q → PostE Z Q R → r vx H R
structure DCall (X : Cx) (f : Value) (o : DLF) : Prop where
  ex : ∃ r, CallR X f r ∧ ∀ Z H O ds vs Q R, RelO Z H O → Reps Z ds vs → o ds O Q → PostE Z Q R → r vs H R

/-! ### union of readings -/
theorem pe_union {X : Cx} {e : Expr} {t u : TE} (h : PE X e t) (k : PE X e u) : PE X e (fun σ H Q => t σ H Q ∨ u σ H Q) :=
  ⟨fun pins s σ H Q I q => q.elim (h.run pins s σ H Q I) (k.run pins s σ H Q I)⟩
theorem pi_union {X : Cx} {tg e : Expr} {t u : TI} (h : PI X tg e t) (k : PI X tg e u) : PI X tg e (fun σ H Q => t σ H Q ∨ u σ H Q) :=
  ⟨fun pins s σ H Q I q => q.elim (h.run pins s σ H Q I) (k.run pins s σ H Q I)⟩
theorem ps_union {X : Cx} {st : Stmt} {t u : TS} (h : PS X st t) (k : PS X st u) : PS X st (fun D σ H => t D σ H ∨ u D σ H) :=
  ⟨fun pins s σ H Q I q => q.elim (h.run pins s σ H Q I) (k.run pins s σ H Q I)⟩
theorem DE.or {X : Cx} {e : Expr} {W W' : WE} (h : DE X e W) (k : DE X e W') : DE X e (fun s O Q => W s O Q ∨ W' s O Q) := by
  obtain ⟨t, p, h⟩ := h.ex
  obtain ⟨u, q, k⟩ := k.ex
  exact ⟨_, pe_union p q, fun Z σ s H O Q R rs ro w po => w.elim (fun w => .inl (h Z σ s H O Q R rs ro w po)) fun w => .inr (k Z σ s H O Q R rs ro w po)⟩
theorem DOp.or {X : Cx} {f} {o o' : DOF} (h : DOp X f o) (k : DOp X f o') : DOp X f (fun x y O Q => o x y O Q ∨ o' x y O Q) := by
  obtain ⟨t, p, h⟩ := h.ex
  obtain ⟨u, q, k⟩ := k.ex
  exact ⟨_, OpR.or p q, fun Z H O x y vx vy Q R ro rx ry w po => w.elim (fun w => .inl (h Z H O x y vx vy Q R ro rx ry w po)) fun w => .inr (k Z H O x y vx vy Q R ro rx ry w po)⟩
theorem DOp.imp {X : Cx} {f} {o o' : DOF} (h : DOp X f o) (k : ∀ x y O Q, o' x y O Q → o x y O Q) : DOp X f o' := by
  obtain ⟨t, p, h⟩ := h.ex
  exact ⟨_, p, fun Z H O x y vx vy Q R ro rx ry w po => h Z H O x y vx vy Q R ro rx ry (k _ _ _ _ w) po⟩
theorem DCall.or {X : Cx} {f} {o o' : DLF} (h : DCall X f o) (k : DCall X f o') : DCall X f (fun ds O Q => o ds O Q ∨ o' ds O Q) := by
  obtain ⟨t, p, h⟩ := h.ex
  obtain ⟨u, q, k⟩ := k.ex
  exact ⟨_, CallR.or p q, fun Z H O ds vs Q R ro rx w po => w.elim (fun w => .inl (h Z H O ds vs Q R ro rx w po)) fun w => .inr (k Z H O ds vs Q R ro rx w po)⟩
theorem DCall.imp {X : Cx} {f} {o o' : DLF} (h : DCall X f o) (k : ∀ ds O Q, o' ds O Q → o ds O Q) : DCall X f o' := by
  obtain ⟨t, p, h⟩ := h.ex
  exact ⟨_, p, fun Z H O ds vs Q R ro rx w po => h Z H O ds vs Q R ro rx (k _ _ _ w) po⟩
theorem DE.imp {X : Cx} {e : Expr} {W W' : WE} (h : DE X e W) (k : ∀ s O Q, W' s O Q → W s O Q) : DE X e W' := by
  obtain ⟨t, p, h⟩ := h.ex
  exact ⟨_, p, fun Z σ s H O Q R rs ro w po => h Z σ s H O Q R rs ro (k _ _ _ w) po⟩

/-! ### names and constants -/
def look : SD → Nat → (D → Prop) → Prop
  | [], _, _ => False
  | none :: _, 0, _ => False
  | some d :: _, 0, Q => Q d
  | _ :: r, i + 1, Q => look r i Q
theorem look_ex : ∀ {s : SD} {i : Nat} {Q : D → Prop}, look s i Q → ∃ d, s[i]? = some (some d) ∧ Q d
  | none :: _, 0, _, h => h.elim
  | some d :: _, 0, Q, h => ⟨d, rfl, h⟩
  | none :: r, i + 1, Q, h => by
    obtain ⟨d, h1, h2⟩ := look_ex (s := r) (i := i) h
    exact ⟨d, by simpa using h1, h2⟩
  | some _ :: r, i + 1, Q, h => by
    obtain ⟨d, h1, h2⟩ := look_ex (s := r) (i := i) h
    exact ⟨d, by simpa using h1, h2⟩
def wVar (i : Nat) : WE := fun s O Q => look s i fun d => Q d O
def wC (d : D) : WE := fun _ O Q => Q d O
section
variable {X : Cx} {pos : Pos}
theorem dv (i : Nat) {x : Str} (hN : X.N[i]? = some x := by rfl) (hv : Vis X.env.scope x := by first | exact Or.inl rfl | exact Or.inr (Or.inl rfl) | exact Or.inr (Or.inr rfl)) (hd : (x == ("__debug__" : Str)) = false := by decide)
    (hcd : (x == ("__classdict__" : Str)) = false := by decide) : DE X (.Name x pos) (wVar i) := by
  refine ⟨_, pe_var hN hv hd hcd, fun Z σ s H O Q R rs ro w po => ?_⟩
  obtain ⟨d, e, q⟩ := look_ex w
  obtain ⟨v, h1, h2⟩ := rs.at' i d e
  exact ⟨v, h1, po _ _ _ _ _ (Same.refl _) ro h2 q⟩
theorem dC_of {e : Expr} {v : V} {d : D} (h : PE X e (tC v)) (r : ∀ Z, Rep Z d v) : DE X e (wC d) :=
  ⟨_, h, fun Z σ s H O Q R rs ro w po => po _ _ _ _ _ (Same.refl _) ro (r Z) w⟩
theorem de_int {i j} : DE X (.Constant (.int i) j pos) (wC (.int i)) := dC_of pe_int fun _ => .int
theorem de_bl {b j} : DE X (.Constant (.bool b) j pos) (wC (.bl b)) := dC_of pe_bl fun _ => .bl
theorem de_non {j} : DE X (.Constant .none j pos) (wC .non) := dC_of pe_non fun _ => .non
theorem de_str {x j} : DE X (.Constant (.str x) j pos) (wC (.str x)) := dC_of pe_str fun _ => .str
theorem de_gint {x : Str} {i : Int} (hg : Gl X x) (hm : ∃ t, X.mg x = some (.int i t)) (hd : (x == ("__debug__" : Str)) = false := by decide) : DE X (.Name x pos) (wC (.int i)) := by
  obtain ⟨t, hm⟩ := hm
  exact dC_of (pe_glob (v := .int i) hg hm ⟨t, rfl⟩ hd) fun _ => .int
theorem de_gstr {x z : Str} (hg : Gl X x) (hm : ∃ t, X.mg x = some (.str z t)) (hd : (x == ("__debug__" : Str)) = false := by decide) : DE X (.Name x pos) (wC (.str z)) := by
  obtain ⟨t, hm⟩ := hm
  exact dC_of (pe_glob (v := .str z) hg hm ⟨t, rfl⟩ hd) fun _ => .str
theorem de_gref {x : Str} {a : Addr} (hg : Gl X x) (hm : X.mg x = some (.ref a)) (hd : (x == ("__debug__" : Str)) = false := by decide) : DE X (.Name x pos) (wC (.ref a)) := dC_of (pe_glob (v := .ref a) hg hm rfl hd) fun _ => .ref
theorem de_gty {x : Str} {T : String} (hg : Gl X x) (hm : X.mg x = none) (hv : bootBuiltins x = some (.type T)) (hn : x ≠ "__name__" := by decide) (hd : (x == ("__debug__" : Str)) = false := by decide) : DE X (.Name x pos) (wC (.ty T)) := dC_of (pe_bltn (v := .ty T) hg hm hv rfl hn hd) fun _ => .ty
end

/-! ### operators -/
def wOp (o : DOF) (Wa Wb : WE) : WE := fun s O Q => Wa s O fun x O1 => Wb s O1 fun y O2 => o x y O2 Q
def wUn (o : DUF) (Wa : WE) : WE := fun s O Q => Wa s O fun x O1 => o x O1 Q
def blQ (d : D) (Q : Bool → Prop) : Prop := match d with | .bl b => Q b | _ => False
theorem blQ_ex {d Q} (h : blQ d Q) : ∃ b, d = .bl b ∧ Q b := by cases d <;> first | exact h.elim | exact ⟨_, rfl, h⟩
def wTst (W : WE) : WT := fun s O Q => W s O fun d O1 => blQ d fun b => Q b O1
section
variable {X : Cx} {pos : Pos} {a b c : Expr} {Wa Wb Wc : WE} {o o' : DOF}
theorem de_op {op : Operator} (ho : DOp X (binaryOp op) o) (ha : DE X a Wa) (hb : DE X b Wb) : DE X (.BinOp a op b pos) (wOp o Wa Wb) := by
  obtain ⟨r, p, ho⟩ := ho.ex
  obtain ⟨ta, pa, ha⟩ := ha.ex
  obtain ⟨tb, pb, hb⟩ := hb.ex
  refine ⟨_, pe_op p pa pb, fun Z σ s H O Q R rs ro w po => ?_⟩
  refine ha _ _ _ _ _ _ _ rs ro w fun v H1 Z1 d O1 s1 r1 e1 w1 => ?_
  refine hb _ _ _ _ _ _ _ (rs.mono s1) r1 w1 fun u H2 Z2 e O2 s2 r2 e2 w2 => ?_
  exact ho _ _ _ _ _ _ _ _ _ r2 (e1.mono s2) e2 w2 (po.mono (s1.trans s2))
theorem de_un {op : UnaryOp} {o : DUF} (ho : DUn X (unaryOp op) o) (ha : DE X a Wa) : DE X (.UnaryOp op a pos) (wUn o Wa) := by
  obtain ⟨r, p, ho⟩ := ho.ex
  obtain ⟨ta, pa, ha⟩ := ha.ex
  refine ⟨_, pe_un p pa, fun Z σ s H O Q R rs ro w po => ?_⟩
  refine ha _ _ _ _ _ _ _ rs ro w fun v H1 Z1 d O1 s1 r1 e1 w1 => ?_
  exact ho _ _ _ _ _ _ _ r1 e1 w1 (po.mono s1)
theorem de_cmp {op : CmpOp} (ho : DOp X (compareOp op) o) (ha : DE X a Wa) (hb : DE X b Wb) (hm : behindInMarks op b = false) : DE X (.Compare a [op] [b] pos) (wOp o Wa Wb) := by
  obtain ⟨r, p, ho⟩ := ho.ex
  obtain ⟨ta, pa, ha⟩ := ha.ex
  obtain ⟨tb, pb, hb⟩ := hb.ex
  refine ⟨_, pe_cmpR p pa pb hm, fun Z σ s H O Q R rs ro w po => ?_⟩
  refine ha _ _ _ _ _ _ _ rs ro w fun v H1 Z1 d O1 s1 r1 e1 w1 => ?_
  refine hb _ _ _ _ _ _ _ (rs.mono s1) r1 w1 fun u H2 Z2 e O2 s2 r2 e2 w2 => ?_
  exact ho _ _ _ _ _ _ _ _ _ r2 (e1.mono s2) e2 w2 (po.mono (s1.trans s2))
theorem dt_cmp {op : CmpOp} (ho : DOp X (compareOp op) o) (ha : DE X a Wa) (hb : DE X b Wb) (hm : behindInMarks op b = false) : DT X (.Compare a [op] [b] pos) (wTst (wOp o Wa Wb)) := by
  obtain ⟨r, p, ho⟩ := ho.ex
  obtain ⟨ta, pa, ha⟩ := ha.ex
  obtain ⟨tb, pb, hb⟩ := hb.ex
  refine ⟨_, pt_cmpR p pa pb hm, fun Z σ s H O Q R rs ro w po => ?_⟩
  refine ha _ _ _ _ _ _ _ rs ro w fun v H1 Z1 d O1 s1 r1 e1 w1 => ?_
  refine hb _ _ _ _ _ _ _ (rs.mono s1) r1 w1 fun u H2 Z2 e O2 s2 r2 e2 w2 => ?_
  refine ho _ _ _ _ _ _ _ _ _ r2 (e1.mono s2) e2 w2 fun v3 H3 Z3 d3 O3 s3 r3 e3 w3 => ?_
  obtain ⟨k, rfl, q⟩ := blQ_ex w3
  cases e3
  exact ⟨k, rfl, po _ _ _ _ (s1.trans (s2.trans s3)) r3 q⟩
def wChain (o o' : DOF) (Wa Wb Wc : WE) : WE := fun s O Q => Wa s O fun x O1 => Wb s O1 fun y O2 => o x y O2 fun z O3 => blQ z fun k => if k = true then Wc s O3 fun w O4 => o' y w O4 Q else Q (.bl false) O3
theorem de_chain {op op' : CmpOp} (ho : DOp X (compareOp op) o) (ho' : DOp X (compareOp op') o') (ha : DE X a Wa) (hb : DE X b Wb) (hc : DE X c Wc)
    (hm : lastMarks [op, op'] [b, c] = false := by with_unfolding_all rfl) : DE X (.Compare a [op, op'] [b, c] pos) (wChain o o' Wa Wb Wc) := by
  obtain ⟨r, p, ho⟩ := ho.ex
  obtain ⟨r', p', ho'⟩ := ho'.ex
  obtain ⟨ta, pa, ha⟩ := ha.ex
  obtain ⟨tb, pb, hb⟩ := hb.ex
  obtain ⟨tc, pc, hc⟩ := hc.ex
  refine ⟨_, pe_chain p p' pa pb pc hm, fun Z σ s H O Q R rs ro w po => ?_⟩
  refine ha _ _ _ _ _ _ _ rs ro w fun v H1 Z1 d O1 s1 r1 e1 w1 => ?_
  refine hb _ _ _ _ _ _ _ (rs.mono s1) r1 w1 fun u H2 Z2 e O2 s2 r2 e2 w2 => ?_
  refine ho _ _ _ _ _ _ _ _ _ r2 (e1.mono s2) e2 w2 fun v3 H3 Z3 d3 O3 s3 r3 e3 w3 => ?_
  obtain ⟨k, rfl, q⟩ := blQ_ex w3
  cases e3
  refine ⟨k, rfl, ?_⟩
  cases k with
  | true =>
    rw [if_pos rfl] at q ⊢
    refine hc _ _ _ _ _ _ _ (rs.mono (s1.trans (s2.trans s3))) r3 q fun v4 H4 Z4 d4 O4 s4 r4 e4 w4 => ?_
    exact ho' _ _ _ _ _ _ _ _ _ r4 (e2.mono (s3.trans s4)) e4 w4 (po.mono (s1.trans (s2.trans (s3.trans s4))))
  | false =>
    rw [if_neg Bool.false_ne_true] at q ⊢
    exact po _ _ _ _ _ (s1.trans (s2.trans s3)) r3 .bl q
end

/-! ### bool ops, if -/
def wAnd (Wa : WE) (Wb : WE) : WE := fun s O Q => Wa s O fun d O1 => blQ d fun k => if k = true then Wb s O1 Q else Q (.bl false) O1
def wOr (Wa : WE) (Wb : WE) : WE := fun s O Q => Wa s O fun d O1 => blQ d fun k => if k = true then Q (.bl true) O1 else Wb s O1 Q
def wNot (Wa : WE) : WE := fun s O Q => Wa s O fun d O1 => blQ d fun k => Q (.bl (!k)) O1
def wIf (Wc : WT) (Wa Wb : WE) : WE := fun s O Q => Wc s O fun k O1 => if k = true then Wa s O1 Q else Wb s O1 Q
def tAndW (Wa Wb : WT) : WT := fun s O Q => Wa s O fun k O1 => if k = true then Wb s O1 Q else Q false O1
def tOrW (Wa Wb : WT) : WT := fun s O Q => Wa s O fun k O1 => if k = true then Q true O1 else Wb s O1 Q
def tNotW (Wa : WT) : WT := fun s O Q => Wa s O fun k O1 => Q (!k) O1
section
variable {X : Cx} {pos : Pos} {a b c e : Expr} {rest : List Expr} {Wa Wb Wc : WE} {Va Vb : WT}
theorem de_one {op : BoolOp} (ha : DE X a Wa) : DE X (.BoolOp op [a] pos) Wa := by
  obtain ⟨t, p, h⟩ := ha.ex
  exact ⟨t, pe_one p, h⟩
theorem de_and (ha : DE X a Wa) (hb : DE X (.BoolOp .And (b :: rest) pos) Wb) : DE X (.BoolOp .And (a :: b :: rest) pos) (wAnd Wa Wb) := by
  obtain ⟨t, p, h⟩ := ha.ex
  obtain ⟨u, q, k⟩ := hb.ex
  refine ⟨_, pe_and p q, fun Z σ s H O Q R rs ro w po => h _ _ _ _ _ _ _ rs ro w fun v H1 Z1 d O1 s1 r1 e1 w1 => ?_⟩
  obtain ⟨x, rfl, q⟩ := blQ_ex w1
  cases e1
  refine ⟨x, rfl, ?_⟩
  cases x with
  | true =>
    rw [if_pos rfl] at q ⊢
    exact k _ _ _ _ _ _ _ (rs.mono s1) r1 q (po.mono s1)
  | false =>
    rw [if_neg Bool.false_ne_true] at q ⊢
    exact po _ _ _ _ _ s1 r1 .bl q
theorem de_or (ha : DE X a Wa) (hb : DE X (.BoolOp .Or (b :: rest) pos) Wb) : DE X (.BoolOp .Or (a :: b :: rest) pos) (wOr Wa Wb) := by
  obtain ⟨t, p, h⟩ := ha.ex
  obtain ⟨u, q, k⟩ := hb.ex
  refine ⟨_, pe_or p q, fun Z σ s H O Q R rs ro w po => h _ _ _ _ _ _ _ rs ro w fun v H1 Z1 d O1 s1 r1 e1 w1 => ?_⟩
  obtain ⟨x, rfl, q⟩ := blQ_ex w1
  cases e1
  refine ⟨x, rfl, ?_⟩
  cases x with
  | true =>
    rw [if_pos rfl] at q ⊢
    exact po _ _ _ _ _ s1 r1 .bl q
  | false =>
    rw [if_neg Bool.false_ne_true] at q ⊢
    exact k _ _ _ _ _ _ _ (rs.mono s1) r1 q (po.mono s1)
theorem de_not (ha : DE X a Wa) : DE X (.UnaryOp .Not a pos) (wNot Wa) := by
  obtain ⟨t, p, h⟩ := ha.ex
  refine ⟨_, pe_not p, fun Z σ s H O Q R rs ro w po => h _ _ _ _ _ _ _ rs ro w fun v H1 Z1 d O1 s1 r1 e1 w1 => ?_⟩
  obtain ⟨x, rfl, q⟩ := blQ_ex w1
  cases e1
  exact ⟨x, rfl, po _ _ _ _ _ s1 r1 .bl q⟩
theorem de_if (hc : DT X c Va) (ha : DE X a Wa) (hb : DE X b Wb) : DE X (.IfExp c a b pos) (wIf Va Wa Wb) := by
  obtain ⟨tc, pc, kc⟩ := hc.ex
  obtain ⟨t, p, h⟩ := ha.ex
  obtain ⟨u, q, k⟩ := hb.ex
  refine ⟨_, pe_ifExp pc p q, fun Z σ s H O Q R rs ro w po => kc _ _ _ _ _ _ _ rs ro w fun x H1 Z1 O1 s1 r1 w1 => ?_⟩
  cases x with
  | true =>
    rw [if_pos rfl] at w1 ⊢
    exact h _ _ _ _ _ _ _ (rs.mono s1) r1 w1 (po.mono s1)
  | false =>
    rw [if_neg Bool.false_ne_true] at w1 ⊢
    exact k _ _ _ _ _ _ _ (rs.mono s1) r1 w1 (po.mono s1)
theorem dt_val (h : DE X e Wa) (he : ∀ whole, isTrue e X.env whole = (do let v ← whole; standAt e.pos; holding [v] (truthy v)) := by intro _; rfl) : DT X e (wTst Wa) := by
  obtain ⟨t, p, h⟩ := h.ex
  refine ⟨_, pt_val p he, fun Z σ s H O Q R rs ro w po => h _ _ _ _ _ _ _ rs ro w fun v H1 Z1 d O1 s1 r1 e1 w1 => ?_⟩
  obtain ⟨x, rfl, q⟩ := blQ_ex w1
  cases e1
  exact ⟨x, rfl, po _ _ _ _ s1 r1 q⟩
theorem dt_not (ha : DT X a Va) : DT X (.UnaryOp .Not a pos) (tNotW Va) := by
  obtain ⟨t, p, h⟩ := ha.ex
  exact ⟨_, pt_not p, fun Z σ s H O Q R rs ro w po => h _ _ _ _ _ _ _ rs ro w fun x H1 Z1 O1 s1 r1 w1 => po _ _ _ _ s1 r1 w1⟩
theorem dw_and1 (ha : DT X a Va) : DW X (.BoolOp .And [a] pos) Va := by
  obtain ⟨t, p, h⟩ := ha.ex
  exact ⟨_, pw_and1 p, h⟩
theorem dw_or1 (ha : DT X a Va) : DW X (.BoolOp .Or [a] pos) Va := by
  obtain ⟨t, p, h⟩ := ha.ex
  exact ⟨_, pw_or1 p, h⟩
theorem dw_and (ha : DT X a Va) (hb : DW X (.BoolOp .And (b :: rest) pos) Vb) : DW X (.BoolOp .And (a :: b :: rest) pos) (tAndW Va Vb) := by
  obtain ⟨t, p, h⟩ := ha.ex
  obtain ⟨u, q, k⟩ := hb.ex
  refine ⟨_, pw_and p q, fun Z σ s H O Q R rs ro w po => h _ _ _ _ _ _ _ rs ro w fun x H1 Z1 O1 s1 r1 w1 => ?_⟩
  cases x with
  | true =>
    rw [if_pos rfl] at w1 ⊢
    exact k _ _ _ _ _ _ _ (rs.mono s1) r1 w1 (po.mono s1)
  | false =>
    rw [if_neg Bool.false_ne_true] at w1 ⊢
    exact po _ _ _ _ s1 r1 w1
theorem dw_or (ha : DT X a Va) (hb : DW X (.BoolOp .Or (b :: rest) pos) Vb) : DW X (.BoolOp .Or (a :: b :: rest) pos) (tOrW Va Vb) := by
  obtain ⟨t, p, h⟩ := ha.ex
  obtain ⟨u, q, k⟩ := hb.ex
  refine ⟨_, pw_or p q, fun Z σ s H O Q R rs ro w po => h _ _ _ _ _ _ _ rs ro w fun x H1 Z1 O1 s1 r1 w1 => ?_⟩
  cases x with
  | true =>
    rw [if_pos rfl] at w1 ⊢
    exact po _ _ _ _ s1 r1 w1
  | false =>
    rw [if_neg Bool.false_ne_true] at w1 ⊢
    exact k _ _ _ _ _ _ _ (rs.mono s1) r1 w1 (po.mono s1)
theorem DW.dt (h : DW X e Va) : DT X e Va := by
  obtain ⟨t, p, h⟩ := h.ex
  exact ⟨t, p.pt, h⟩
end

/-! ### argument lists, displays -/
def wNil : WA := fun _ O Q => Q [] O
def wCons (Wa : WE) (Wr : WA) : WA := fun s O Q => Wa s O fun d O1 => Wr s O1 fun ds O2 => Q (d :: ds) O2
def wTup (W : WA) : WE := fun s O Q => W s O fun ds O1 => Q (.tup ds) O1
def wLst (W : WA) : WE := fun s O Q => W s O fun ds O1 => ∀ a, O1 a = none → Q (.ref a) (updO O1 a (.lst ds))
def wNewK : WE := fun _ O Q => ∀ a, O a = none → Q (.ref a) (updO O a (.dic []))
def wNewT : WE := fun _ O Q => ∀ a, O a = none → Q (.ref a) (updO O a (.dct []))
section
variable {X : Cx} {pos : Pos} {e : Expr} {es : List Expr} {Wa : WE} {W : WA}
theorem da_nil : DA X [] wNil := ⟨_, pa_nil, fun Z σ s H O Q R rs ro w po => po _ _ _ _ _ rfl (Same.refl _) ro .nil w⟩
theorem da_cons (ha : DE X e Wa) (hr : DA X es W) (hs : starEach (e :: es) X.env = (false, eval e X.env) :: starEach es X.env := by rfl) : DA X (e :: es) (wCons Wa W) := by
  obtain ⟨t, p, h⟩ := ha.ex
  obtain ⟨u, q, k⟩ := hr.ex
  refine ⟨_, pa_cons p q hs, fun Z σ s H O Q R rs ro w po => ?_⟩
  refine h _ _ _ _ _ _ _ rs ro w fun v H1 Z1 d O1 s1 r1 e1 w1 => ?_
  refine k _ _ _ _ _ _ _ (rs.mono s1) r1 w1 fun vs H2 Z2 ds O2 l2 s2 r2 e2 w2 => ?_
  exact po _ _ _ _ _ (by simp [l2]) (s1.trans s2) r2 (.cons (e1.mono s2) e2) w2
theorem de_tup {x1} (h : DA X es W) (hl : es.length ≤ 1000 := by decide) : DE X (.Tuple es x1 pos) (wTup W) := by
  obtain ⟨t, p, h⟩ := h.ex
  refine ⟨_, pe_tup p, fun Z σ s H O Q R rs ro w po => ?_⟩
  refine h _ _ _ _ _ _ _ rs ro w fun vs H2 Z2 ds O2 l2 s2 r2 e2 w2 => ?_
  refine ⟨?_, fun p hp => ?_⟩
  · rw [← e2.length, l2]
    exact Nat.le_of_lt (small1000 hl)
  · obtain ⟨s3, r3⟩ := r2.newZ (u := .tup vs) hp
    exact po _ _ _ _ _ (s2.trans s3) r3 (.tup upd_same (e2.mono s3)) w2
theorem de_lst (h : DA X es W) (hl : es.length ≤ 1000 := by decide) : DE X (.List es pos) (wLst W) := by
  obtain ⟨t, p, h⟩ := h.ex
  refine ⟨_, pe_lst p, fun Z σ s H O Q R rs ro w po => ?_⟩
  refine h _ _ _ _ _ _ _ rs ro w fun vs H2 Z2 ds O2 l2 s2 r2 e2 w2 => ?_
  refine ⟨?_, fun p hp => ?_⟩
  · rw [← e2.length, l2]
    exact Nat.le_of_lt (small1000 hl)
  · exact po _ _ _ _ _ s2 (r2.new (m := .lst ds) hp ⟨vs, upd_same, e2⟩) .ref (w2 p (r2.free hp))
theorem de_newK : DE X (.Dict [] [] pos) wNewK :=
  ⟨_, pe_dnewK, fun Z σ s H O Q R rs ro w po p hp => po _ _ _ _ _ (Same.refl _) (ro.new (m := .dic []) hp ⟨[], upd_same, .nil⟩) .ref (w p (ro.free hp))⟩
theorem de_newT : DE X (.Dict [] [] pos) wNewT :=
  ⟨_, pe_dnewT, fun Z σ s H O Q R rs ro w po p hp => po _ _ _ _ _ (Same.refl _) (ro.new (m := .dct []) hp ⟨[], upd_same, .nil⟩) .ref (w p (ro.free hp))⟩
/-- a live list or dict, frozen -/
def frzM (a : Addr) (O : OO) (Q : D → OO → Prop) : Option MO → Prop
  | some (.lst ds) => Q (.lst ds) (remO O a)
  | some (.dic kvs) => Q (.dic kvs) (remO O a)
  | some (.dct kvs) => Q (.dct kvs) (remO O a)
  | _ => Q (.ref a) O
def frzD (d : D) (O : OO) (Q : D → OO → Prop) : Prop := match d with
  | .ref a => frzM a O Q (O a)
  | d => Q d O
def wFrz (W : WE) : WE := fun s O Q => W s O fun d O1 => frzD d O1 Q
theorem frz_ok {Z H : Hp} {O : OO} {d : D} {v : V} {Q : D → OO → Prop} (ro : RelO Z H O) (r : Rep Z d v) (w : frzD d O Q) : (∃ Z' d' O', Same Z Z' ∧ RelO Z' H O' ∧ Rep Z' d' v ∧ Q d' O') ∨
    ∃ p u, v = .ref p ∧ H p = some u ∧ Mut (some u) ∧ ∀ o, ∃ Z' d' O', Same Z Z' ∧ RelO Z' (upd H p (.frz o u)) O' ∧ Rep Z' d' v ∧ Q d' O' := by
  have idd : Q d O → ∃ Z' d' O', Same Z Z' ∧ RelO Z' H O' ∧ Rep Z' d' v ∧ Q d' O' := fun q => ⟨Z, d, O, Same.refl _, ro, r, q⟩
  cases d with
  | ref a =>
    cases r
    replace w : frzM a O Q (O a) := w
    cases e : O a with
    | none => rw [e] at w; exact .inl (idd w)
    | some m =>
      rw [e] at w
      cases m with
      | lst ds =>
        obtain ⟨Z', s1, r1, e1⟩ := ro.freezeL e
        exact .inl ⟨_, _, _, s1, r1, e1, w⟩
      | dic kvs =>
        obtain ⟨us, hu, k⟩ := ro.freezeK e
        exact .inr ⟨a, _, rfl, hu, True.intro, fun o => let ⟨Z', s1, r1, e1⟩ := k o; ⟨_, _, _, s1, r1, e1, w⟩⟩
      | dct kvs =>
        obtain ⟨us, hu, k⟩ := ro.freezeT e
        exact .inr ⟨a, _, rfl, hu, True.intro, fun o => let ⟨Z', s1, r1, e1⟩ := k o; ⟨_, _, _, s1, r1, e1, w⟩⟩
      | _ => exact .inl (idd w)
  | _ => exact .inl (idd w)
/-- the value of e, the thing there locked if one likes -/
theorem pe_locked {e : Expr} {td : TE} (he : PE X e td) : PE X e (fun σ H Q => td σ H fun x H1 => Q x H1 ∨ ∃ p u, x = .ref p ∧ H1 p = some u ∧ Mut (some u) ∧ ∀ o, Q x (upd H1 p (.frz o u))) := by
  refine ⟨fun pins s σ H Q I h => thn (he.run pins s σ H _ I h) fun v s1 ⟨x, H1, I1, r1, q⟩ => ?_⟩
  rcases q with q | ⟨p, u, ex, hd, mu, q⟩
  · exact ⟨x, H1, I1, r1, q⟩
  · obtain ⟨od, I2⟩ := I1.lock hd mu
    exact ⟨x, _, I2, r1, q od⟩
theorem de_frz (h : DE X e Wa) : DE X e (wFrz Wa) := by
  obtain ⟨t, p, h⟩ := h.ex
  refine ⟨_, pe_locked p, fun Z σ s H O Q R rs ro w po => ?_⟩
  refine h _ _ _ _ _ _ _ rs ro w fun v H1 Z1 d O1 s1 r1 e1 w1 => ?_
  rcases frz_ok r1 e1 w1 with ⟨Z2, d2, O2, s2, r2, e2, q⟩ | ⟨p, u, ev, hu, mu, k⟩
  · exact .inl (po _ _ _ _ _ (s1.trans s2) r2 e2 q)
  · refine .inr ⟨p, u, ev, hu, mu, fun o => ?_⟩
    obtain ⟨Z2, d2, O2, s2, r2, e2, q⟩ := k o
    exact po _ _ _ _ _ (s1.trans s2) r2 e2 q
end
end TD

set_option Elab.async false
set_option linter.all false
set_option maxRecDepth 100000
/-! TD: a def's promise where no repr is under way (the hand layer's own promise does not tell the guards; repr asks them) -/
namespace TD
open PySem PySem.Spec PyProof.Rows L2

/-- room, and nothing is being shown -/
structure RoomG (k : Nat) (A : Around) : Prop where
  room : Room k A
  calm : A.guards = some []
theorem RoomG.mono {j k A} (r : RoomG k A) (h : j ≤ k) : RoomG j A := ⟨r.room.mono h, r.calm⟩
theorem RoomG.u64 {k A} (r : RoomG k A) : A.units + 64 < cLine := r.room.units
theorem RoomG.u1 {k A} (r : RoomG k A) : A.units + 1 < cLine := by have := r.room.units; omega
theorem RoomG.deeper {k : Nat} {A : Around} (r : RoomG (k + 1) A) (env : Env) : RoomG k (A.deeper env) := ⟨r.room.deeper env, r.calm⟩
theorem guards_make {A : Around} {C : Addr} {us : List Value} {kw : List (Str × Value)} : (A.under (.builtin "type.__call__" ⟨.ref C :: us, kw⟩)).guards = A.guards := by
  simp [Around.under, Code.guards, Code.isGuard, guardIds, pushGuards]
theorem RoomG.make {k : Nat} {A : Around} (r : RoomG (k + 1) A) (C : Addr) (us : List Value) (kw : List (Str × Value)) : RoomG k (A.under (.builtin "type.__call__" ⟨.ref C :: us, kw⟩)) :=
  ⟨r.room.make C us kw, guards_make.trans r.calm⟩

/-- what a def keeps -/
structure FnG (P : Program) (w : World) (K : PySem.W.Frag) (mg : Str → Option Value) (base : Heap) (CX : CXT) (k : Nat) (f : Addr) (fd : FuncData) (ps : List Str) (sp : Sp) : Prop where
  many : ∀ vs H Q E, sp vs H Q E → vs.length = ps.length
  go : ∀ (A : Around) (below : List Env) (s : Shared) (H : Hp) (args : Args) (us : List Value) (vs : List V) (Q : VK) (E : XK), RoomG k A → Env0 P w K mg base A below s H → BindsTo s fd args (ps.zip us) → Vals vs us → sp vs H Q E →
    codeAny (model P w) A (.call (.ref f) args) (CR CX below P w H s Q E) s
theorem FnG.mono {P w K mg base CX j k f fd ps sp} (F : FnG P w K mg base CX j f fd ps sp) (h : j ≤ k) : FnG P w K mg base CX k f fd ps sp :=
  ⟨F.many, fun A b s H args us vs Q E r => F.go A b s H args us vs Q E (r.mono h)⟩

/-- a def of the text keeps what its body keeps -/
theorem fnG_of {CX : CXT} {P : Program} {w : World} {K : PySem.W.Frag} {mg : Str → Option Value} {base : Heap} {k : Nat} {f : Addr} {fd : FuncData} {x qual : Str} {st : Stmt} {N ps : List Str} {sp : Sp}
    (F : Fun K x qual st f fd) (Sc : FnScope N ps (defScope st)) (many : ∀ vs H Q E, sp vs H Q E → vs.length = ps.length)
    (walk : ∀ (cdv : Value) (A : Around) (below : List Env) (s : Shared) (H : Hp) (vs : List V) (Q : VK) (E : XK), RoomG k (A.deeper (envOfC qual (defScope st) s.heap.objs.size f cdv)) → sp vs H Q E →
      ∃ t, PSs (cxOf CX P w K mg base N qual (defScope st) f cdv A below s H E) (defBody st) t ∧ t { nx := fun _ H' => Q .non H', rt := Q } (L2.start N vs) H) : FnG P w K mg base CX (k + 1) f fd ps sp := by
  obtain ⟨oc, od, kV, doc, pm, an, cdv, ct, osl, rfl, lk, hcd⟩ := F.ex
  refine ⟨many, fun A below s H args us vs Q E room e0 bind rel want => ?_⟩
  have inK : K.In s.heap := e0.mod.kin.keeps fun b o e => (e0.bs b o e).1
  have kinds : ∀ y ∈ ps.zip us, (defScope st).names.lookup y.1 = some .local ∨ ((defScope st).names.lookup y.1 = some .cell ∧ ((cellsFrom (s.heap.objs.size + 1) (defScope st).names []).lookup y.1).isSome = true) := by
    rintro ⟨n, v⟩ hy
    refine (Sc.par n (List.of_mem_zip hy).1).imp id fun q => ⟨q, ?_⟩
    exact PySem.W.cellsFrom_some _ _ _ (.inl q)
  refine codeAny_call_function room.room.depth (inK _ _ lk) rfl Sc.co Sc.gen rfl (PySem.W.codeRec_of inK hcd) (bind _ _ _ _ (wpAny_newFunctionEnv_cells Sc.kind kinds fun env he s1 x => ?_))
  subst he
  obtain ⟨t, run, wish⟩ := walk cdv A below s H vs Q E (room.deeper _) want
  have inv : Inv (cxOf CX P w K mg base N qual (defScope st) f cdv A below s H E) [] (L2.start N vs) H s1 := inv_start Sc room.room.hd e0 (many _ _ _ _ want) rel x
  refine ⟨(e0.mod.nolimit.keeps fun b o e => (e0.bs b o e).1).keeps x.toInCall.keep, codeAny_func (wpAny_mono (run.run [] s1 _ H _ inv wish) (fun fl s' got => ?_) fun e s' got => got)⟩
  cases fl with
  | brk => exact got.elim fun _ z => z.elim fun _ z => z.2.elim
  | cont => exact got.elim fun _ z => z.elim fun _ z => z.2.elim
  | next =>
    obtain ⟨σ', H', J, q⟩ := got
    exact ⟨V.non, H', J.os, J.bare, J.base, J.hok, rfl, q⟩
  | ret u =>
    obtain ⟨v, σ', H', J, rv, q⟩ := got
    exact ⟨v, H', J.os, J.bare, J.base, J.hok, rv, q⟩

section
variable {X : Cx} {k : Nat} {f C : Addr} {fd : FuncData} {ps : List Str} {sp : Sp} {x m : Str} {p pos apos : Pos} {e o : Expr} {es : List Expr} {ta : TE} {t : TA} {CX : CXT} {E : XK}
/-- the callee's run, told where it was called -/
theorem goG {pins : List (Addr × Obj)} {σ : L2.St} {H : Hp} {s : Shared} {Q : VK} {us : List Value} {vs : List V} (F : FnG X.prog X.w X.K X.mg X.base CX k f fd ps sp) (r : RoomG k X.A) (b : Binds X.K fd ps []) (out : Passes CX X E)
    (I : Inv X pins σ H s) (rel : Vals vs us) (want : sp vs H Q E) : wpAny (model X.prog X.w) X.A (call (.ref f) us) (EP X pins σ Q) X.xe s := by
  have len : (us ++ []).length = ps.length := by
    rw [List.append_nil, ← rel.length]
    exact F.many _ _ _ _ want
  have bb := b s us I.kIn len
  rw [List.append_nil] at bb
  refine wpAny_call (codeAny_mono (F.go X.A X.stack s H ⟨us, []⟩ us vs Q E r I.env0 bb rel want) fun res s' got => ?_)
  match res, got with
  | .error e, got => exact out pins σ H s e s' I got
  | .ok (.ret u), got => exact I.after got
theorem callG (F : FnG X.prog X.w X.K X.mg X.base CX k f fd ps sp) (r : RoomG k X.A) (hg : Gl X x) (hm : X.mg x = some (.ref f)) (hk : PySem.W.keepIn X.K (.ref f) = true) (b : Binds X.K fd ps []) (out : Passes CX X E)
    (ha : PA X (e :: es) t) (hdb : (x == ("__debug__" : Str)) = false := by decide) (he : starEach (e :: es) X.env = (false, eval e X.env) :: starEach es X.env := by rfl) (hpl : (backTo pos (starEach es X.env)).any (·.1) = false := by rfl) :
    PE X (.Call (.Name x p) (e :: es) [] pos) (fun σ H Q => t σ H fun vs H1 => sp vs H1 Q E) := by
  refine ⟨fun pins s σ H Q I h => wpAny_Call_Name_kw (ld_glob I hg hm ?_ hdb)⟩
  have step := thn (ha.run pos pins s σ H _ I h) (Q' := fun us s1 => X.K.In s1.heap ∧ wpAny (model X.prog X.w) X.A (call (.ref f) us) (EP X pins σ Q) X.xe s1) fun us s1 ⟨vs, H1, I1, rel, q⟩ => ⟨I1.kIn, goG F r b out I1 rel q⟩
  exact PySem.W.callWith_K (h₀ := X.base) I.ok.mod.kin hk step he hpl
theorem callG0 (F : FnG X.prog X.w X.K X.mg X.base CX k f fd ps sp) (r : RoomG k X.A) (hg : Gl X x) (hm : X.mg x = some (.ref f)) (hk : PySem.W.keepIn X.K (.ref f) = true) (b : Binds X.K fd ps []) (out : Passes CX X E)
    (hdb : (x == ("__debug__" : Str)) = false := by decide) : PE X (.Call (.Name x p) [] [] pos) (fun σ H Q => sp [] H Q E) :=
  ⟨fun pins s σ H Q I h => wpAny_Call_Name_kw (ld_glob I hg hm (PySem.W.callWith_K0 I.kIn hk (goG (us := []) F r b out I .nil h)) hdb)⟩
/-- a method of an instance of the class at C -/
def tMethG (C : Addr) (m : Str) (sp : Sp) (E : XK) (ta : TE) (t : TA) : TE := fun σ H Q => ta σ H fun v H1 => ∃ a dx fs, v = .ref a ∧ H1 a = some (.ins C dx fs) ∧ fs.lookup m = none ∧ t σ H1 fun vs H2 => sp (v :: vs) H2 Q E
theorem methG {pl : Sem Bool} (ho : PE X o ta) (c : Cls X.K C) (hm : Meth X.K C m f) (F : FnG X.prog X.w X.K X.mg X.base CX k f fd ps sp) (r : RoomG k X.A) (b : Binds X.K fd ps []) (out : Passes CX X E) (ha : PA X (e :: es) t)
    (he : starEach (e :: es) X.env = (false, eval e X.env) :: starEach es X.env := by rfl) (hpl : (backTo pos (starEach es X.env)).any (·.1) = false := by rfl)
    (hv : eval (.Call (.Attribute o m apos) (e :: es) [] pos) X.env = (do
      let ov ← eval o X.env
      standAt apos.atName
      let (g, first) ← holding [ov] (getMethod ov m pl)
      callWith pos g first (backTo pos (starEach (e :: es) X.env)) (backToKw pos (keywordEach [] X.env))) := by rfl) :
    PE X (.Call (.Attribute o m apos) (e :: es) [] pos) (tMethG C m sp E ta t) := by
  refine ⟨fun pins s σ H Q I h => PySem.W.methodCall_KW (pl := pl) (thn (ho.run pins s σ H _ I h) fun u s1 ⟨v, H1, I1, rv, a, dx, fs, ev, ea, l, q⟩ => ?_) hv⟩
  subst ev
  cases (show u = Value.ref a from rv)
  refine getmeth_ok I1 ea c hm l ?_
  have step := thn (ha.run pos pins s1 σ H1 _ I1 q) (Q' := fun us s2 => X.K.In s2.heap ∧ wpAny (model X.prog X.w) X.A (call (.ref f) (.ref a :: us)) (EP X pins σ Q) X.xe s2) fun us s2 ⟨vs, H2, I2, rel, q2⟩ => ⟨I2.kIn, goG (vs := .ref a :: vs) F r b out I2 (.cons rfl rel) q2⟩
  exact PySem.W.callWith_K (first := [.ref a]) (h₀ := X.base) I.ok.mod.kin hm.kp step he hpl
theorem methG0 {pl : Sem Bool} (ho : PE X o ta) (c : Cls X.K C) (hm : Meth X.K C m f) (F : FnG X.prog X.w X.K X.mg X.base CX k f fd ps sp) (r : RoomG k X.A) (b : Binds X.K fd ps []) (out : Passes CX X E)
    (hv : eval (.Call (.Attribute o m apos) [] [] pos) X.env = (do
      let ov ← eval o X.env
      standAt apos.atName
      let (g, first) ← holding [ov] (getMethod ov m pl)
      callWith pos g first (backTo pos (starEach [] X.env)) (backToKw pos (keywordEach [] X.env))) := by rfl) :
    PE X (.Call (.Attribute o m apos) [] [] pos) (tMethG C m sp E ta tNil) := by
  refine ⟨fun pins s σ H Q I h => PySem.W.methodCall_KW (pl := pl) (thn (ho.run pins s σ H _ I h) fun u s1 ⟨v, H1, I1, rv, a, dx, fs, ev, ea, l, q⟩ => ?_) hv⟩
  subst ev
  cases (show u = Value.ref a from rv)
  exact getmeth_ok I1 ea c hm l (PySem.W.callWith_K0 (first := [.ref a]) I1.kIn hm.kp (goG F r b out I1 (us := [.ref a]) (vs := [.ref a]) (.cons rfl .nil) q))
/-- a new instance, its __init__ run -/
def tMakeG (C : Addr) (sp : Sp) (E : XK) (t : TA) : TE := fun σ H Q => t σ H fun vs H1 => ∀ a dx, H1 a = none → H1 dx = none → dx ≠ a →
  sp (.ref a :: vs) (upd (upd H1 dx (.own a)) a (.ins C dx [])) (fun v H2 => v = .non ∧ Q (.ref a) H2) E
theorem bornG {pins : List (Addr × Obj)} {σ : L2.St} {H : Hp} {s : Shared} {Q : VK} {us : List Value} {vs : List V} (M : Mk X.K C f) (F : FnG X.prog X.w X.K X.mg X.base CX k f fd ps sp) (r : RoomG (k + 1) X.A) (b : Binds X.K fd ps []) (out : Passes CX X E)
    (I : Inv X pins σ H s) (rel : Vals vs us)
    (want : ∀ a dx, H a = none → H dx = none → dx ≠ a → sp (.ref a :: vs) (upd (upd H dx (.own a)) a (.ins C dx [])) (fun v H2 => v = .non ∧ Q (.ref a) H2) E) :
    wpAny (model X.prog X.w) X.A (call (.ref C) us) (EP X pins σ Q) X.xe s := by
  have n0 := I.hok.fresh (Nat.le_refl s.heap.objs.size)
  have n1 := I.hok.fresh (Nat.le_succ s.heap.objs.size)
  have wish := want _ _ n1 n0 (Nat.ne_of_lt (Nat.lt_succ_self _))
  have J := Inv.made (C := C) I
  have rel2 : Vals (V.ref (s.heap.objs.size + 1) :: vs) (Value.ref (s.heap.objs.size + 1) :: us) := .cons rfl rel
  have bb := b _ (Value.ref (s.heap.objs.size + 1) :: us) J.kIn (by rw [List.append_nil, ← rel2.length]; exact F.many _ _ _ _ wish)
  rw [List.append_nil] at bb
  refine wpAny_call (make_map (f := f) I.kIn M.makes M.init (beq_iff_eq.mp M.fn) (codeAny_mono (F.go _ X.stack _ _ _ _ _ _ E (r.make C us []) (J.env0.make C us []) bb rel2 wish) fun res s' got => ?_))
  match res, got with
  | .error e, got => exact out pins σ _ _ e s' J got
  | .ok (.ret u), got =>
    obtain ⟨v, H', J3, rv, ev, q⟩ := J.after got
    subst ev
    exact ⟨rv, V.ref (s.heap.objs.size + 1), H', J3, rfl, q⟩
theorem makeG (M : Mk X.K C f) (F : FnG X.prog X.w X.K X.mg X.base CX k f fd ps sp) (r : RoomG (k + 1) X.A) (hg : Gl X x) (hm : X.mg x = some (.ref C)) (b : Binds X.K fd ps []) (out : Passes CX X E)
    (ha : PA X (e :: es) t) (hdb : (x == ("__debug__" : Str)) = false := by decide) (he : starEach (e :: es) X.env = (false, eval e X.env) :: starEach es X.env := by rfl) (hpl : (backTo pos (starEach es X.env)).any (·.1) = false := by rfl) :
    PE X (.Call (.Name x p) (e :: es) [] pos) (tMakeG C sp E t) := by
  refine ⟨fun pins s σ H Q I h => wpAny_Call_Name_kw (ld_glob I hg hm ?_ hdb)⟩
  have step := thn (ha.run pos pins s σ H _ I h) (Q' := fun us s1 => X.K.In s1.heap ∧ wpAny (model X.prog X.w) X.A (call (.ref C) us) (EP X pins σ Q) X.xe s1) fun us s1 ⟨vs, H1, I1, rel, q⟩ => ⟨I1.kIn, bornG M F r b out I1 rel q⟩
  exact PySem.W.callWith_K (h₀ := X.base) I.ok.mod.kin M.kp step he hpl
theorem makeG0 (M : Mk X.K C f) (F : FnG X.prog X.w X.K X.mg X.base CX k f fd ps sp) (r : RoomG (k + 1) X.A) (hg : Gl X x) (hm : X.mg x = some (.ref C)) (b : Binds X.K fd ps []) (out : Passes CX X E)
    (hdb : (x == ("__debug__" : Str)) = false := by decide) : PE X (.Call (.Name x p) [] [] pos) (tMakeG C sp E tNil) :=
  ⟨fun pins s σ H Q I h => wpAny_Call_Name_kw (ld_glob I hg hm (PySem.W.callWith_K0 I.kIn M.kp (bornG (us := []) M F r b out I .nil h)) hdb)⟩
end
end TD

set_option Elab.async false
set_option linter.all false
set_option maxRecDepth 100000
/-! TD: statements, targets, calls of defs -/
namespace TD
open PySem PySem.Spec PyProof.Rows L2

structure DEnds where
  nx : SD → OO → Prop
  rt : D → OO → Prop
  bk : SD → OO → Prop := fun _ _ => False
  ct : SD → OO → Prop := fun _ _ => False
abbrev WS := DEnds → SD → OO → Prop
def PostN (Z : Hp) (N : SD → OO → Prop) (E : L2.St → Hp → Prop) : Prop := ∀ Z' σ s H O, Same Z Z' → RelS Z' σ s → RelO Z' H O → N s O → E σ H
structure PostS (Z : Hp) (D : DEnds) (E : Ends) : Prop where
  nx : PostN Z D.nx E.nx
  rt : PostE Z D.rt E.rt
  bk : PostN Z D.bk E.bk
  ct : PostN Z D.ct E.ct
theorem PostN.mono {Z Z' N E} (h : PostN Z N E) (s : Same Z Z') : PostN Z' N E := fun Z2 σ sd H O s2 => h Z2 σ sd H O (s.trans s2)
theorem PostS.mono {Z Z' D E} (h : PostS Z D E) (s : Same Z Z') : PostS Z' D E := ⟨h.nx.mono s, h.rt.mono s, h.bk.mono s, h.ct.mono s⟩

structure DS (X : Cx) (st : Stmt) (W : WS) : Prop where
  ex : ∃ t, PS X st t ∧ ∀ Z σ s H O D E, RelS Z σ s → RelO Z H O → W D s O → PostS Z D E → t E σ H
structure DSs (X : Cx) (st : List Stmt) (W : WS) : Prop where
  ex : ∃ t, PSs X st t ∧ ∀ Z σ s H O D E, RelS Z σ s → RelO Z H O → W D s O → PostS Z D E → t E σ H
abbrev WG := D → SD → OO → (SD → OO → Prop) → Prop
abbrev WGs := List D → SD → OO → (SD → OO → Prop) → Prop
structure DG (X : Cx) (tg : Expr) (W : WG) : Prop where
  ex : ∃ g, PG X tg g ∧ ∀ Z σ s H O d v Q R, RelS Z σ s → RelO Z H O → Rep Z d v → W d s O Q → PostN Z Q R → g v σ H R
structure DGs (X : Cx) (tgs : List Expr) (W : WGs) : Prop where
  ex : ∃ g, PGs X tgs g ∧ ∀ Z σ s H O ds vs Q R, RelS Z σ s → RelO Z H O → Reps Z ds vs → W ds s O Q → PostN Z Q R → g vs σ H R

/-! ### targets -/
def wgName (i : Nat) : WG := fun d s O Q => Q (s.set i (some d)) O
def wgNil : WGs := fun ds s O Q => match ds with | [] => Q s O | _ => False
def wgCons (W : WG) (Ws : WGs) : WGs := fun ds s O Q => match ds with | d :: r => W d s O fun s1 O1 => Ws r s1 O1 Q | _ => False
def wgTup (n : Nat) (W : WGs) : WG := fun d s O Q => match d with | .tup ds => ds.length = n ∧ W ds s O Q | _ => False
section
variable {X : Cx} {pos : Pos} {e : Expr} {es : List Expr} {W : WG} {Ws : WGs}
theorem dg_name (i : Nat) {x : Str} (hN : X.N.Nodup) (hi : X.N[i]? = some x := by rfl) (hx : Loc X.env.scope x := by first | exact .inl rfl | exact .inr rfl)
    (hf : X.fn x = true ∨ X.env.scope.names.lookup x = some .local := by first | exact .inl rfl | exact .inr rfl | assumption) : DG X (.Name x pos) (wgName i) :=
  ⟨_, pg_name hN hi hx hf, fun Z σ s H O d v Q R rs ro r w po => po _ _ _ _ _ (Same.refl _) (rs.set i r) ro w⟩
theorem dgs_nil : DGs X [] wgNil := ⟨_, pgs_nil, fun Z σ s H O ds vs Q R rs ro r w po => by
  cases r with
  | nil => exact ⟨rfl, po _ _ _ _ _ (Same.refl _) rs ro w⟩
  | cons _ _ => exact w.elim⟩
theorem dgs_cons (h1 : DG X e W) (h2 : DGs X es Ws) (hs : (assignEach (e :: es) X.env).map (·.2) = assign e X.env :: (assignEach es X.env).map (·.2) := by rfl) : DGs X (e :: es) (wgCons W Ws) := by
  obtain ⟨g, p, h⟩ := h1.ex
  obtain ⟨k, q, j⟩ := h2.ex
  refine ⟨_, pgs_cons p q hs, fun Z σ s H O ds vs Q R rs ro r w po => ?_⟩
  cases r with
  | nil => exact w.elim
  | cons a t =>
    refine ⟨_, _, rfl, h _ _ _ _ _ _ _ _ _ rs ro a w fun Z1 σ1 s1 H1 O1 m1 rs1 ro1 w1 => ?_⟩
    exact j _ _ _ _ _ _ _ _ _ rs1 ro1 (t.mono m1) w1 (po.mono m1)
theorem dg_tup {k n : Nat} (hc : X.calm = true) (h : DGs X es Ws)
    (hn : (assignEach es X.env).length = n := by rfl) (hst : (assignEach es X.env).findIdx? (·.1) = none := by rfl) : DG X (.Tuple es k pos) (wgTup n Ws) := by
  obtain ⟨g, p, h⟩ := h.ex
  refine ⟨_, pg_tup hc p hn hst, fun Z σ s H O d v Q R rs ro r w po => ?_⟩
  cases r with
  | tup e r =>
    obtain ⟨hl, w⟩ := w
    rcases ro.sub _ _ e with q | ⟨q, _⟩
    · exact ⟨_, _, rfl, .inl (.inl q), r.length.symm.trans hl, h _ _ _ _ _ _ _ _ _ rs ro r w po⟩
    · cases q
  | _ => exact w.elim
end

/-! ### statements -/
def wAsg (We : WE) (g : WG) : WS := fun D s O => We s O fun d O1 => g d s O1 D.nx
def wPar (i j : Nat) (W : WA) : WS := fun D s O => W s O fun ds O1 => match ds with | [d, e] => D.nx ((s.set i (some d)).set j (some e)) O1 | _ => False
def wDrop (We : WE) : WS := fun D s O => We s O fun _ O1 => D.nx s O1
def wRet (We : WE) : WS := fun D s O => We s O D.rt
def wRetN : WS := fun D _ O => D.rt .non O
def wIfS (Wc : WT) (a b : WS) : WS := fun D s O => Wc s O fun k O1 => if k = true then a D s O1 else b D s O1
def wSeq (a b : WS) : WS := fun D s O => a { D with nx := b D } s O
def wNext : WS := fun D s O => D.nx s O
def wNever : WS := fun _ _ _ => False
def wBreak : WS := fun D s O => D.bk s O
def wCont : WS := fun D s O => D.ct s O
section
variable {X : Cx} {pos : Pos} {e c : Expr} {st : Stmt} {rest sa sb : List Stmt} {We : WE} {Wc : WT} {W W' : WS} {G : WG}
theorem ds_asg {tg : Expr} (he : DE X e We) (hg : DG X tg G) (hs : swapsWithSole [tg] e pos.line X.env = pure false := by rfl) (hw : swappedStores [tg] e X.env = pure none := by rfl)
    (h1 : (assignEach [tg] X.env).map (·.2) = [assign tg X.env] := by rfl) : DS X (.Assign [tg] e pos) (wAsg We G) := by
  obtain ⟨t, p, h⟩ := he.ex
  obtain ⟨g, q, k⟩ := hg.ex
  refine ⟨_, ps_asg p q hs hw h1, fun Z σ s H O D E rs ro w po => ?_⟩
  refine h _ _ _ _ _ _ _ rs ro w fun v H1 Z1 d O1 s1 r1 e1 w1 => ?_
  exact k _ _ _ _ _ _ _ _ _ (rs.mono s1) r1 e1 w1 (po.nx.mono s1)
theorem ds_set (i : Nat) {x : Str} {pos' : Pos} (hN : X.N.Nodup) (he : DE X e We) (hi : X.N[i]? = some x := by rfl) (hx : Loc X.env.scope x := by first | exact .inl rfl | exact .inr rfl) (hs : swapsWith e (some (.Name x pos')) pos.line X.env = pure false := by rfl)
    (hf : X.fn x = true ∨ X.env.scope.names.lookup x = some .local := by first | exact .inl rfl | exact .inr rfl | assumption) : DS X (.Assign [.Name x pos'] e pos) (wAsg We (wgName i)) := by
  obtain ⟨t, p, h⟩ := he.ex
  refine ⟨_, ps_set hN hi hx p hs hf, fun Z σ s H O D E rs ro w po => ?_⟩
  refine h _ _ _ _ _ _ _ rs ro w fun v H1 Z1 d O1 s1 r1 e1 w1 => ?_
  exact po.nx _ _ _ _ _ s1 ((rs.mono s1).set i e1) r1 w1
theorem ds_par (i j : Nat) {x y : Str} {a b : Expr} {WAr : WA} {px py pt : Pos} {kt k2 pt2} (hc : X.calm = true) (hN : X.N.Nodup) (ha : DA X [a, b] WAr) (hi : X.N[i]? = some x := by rfl) (hj : X.N[j]? = some y := by rfl) (hij : i ≠ j := by decide)
    (hx : X.env.scope.names.lookup x = some .local := by rfl) (hy : X.env.scope.names.lookup y = some .local := by rfl)
    (hw : swappedStores [.Tuple [.Name x px, .Name y py] kt pt] (.Tuple [a, b] k2 pt2) X.env = pure (some [x, y]) := by rfl)
    (hs : swapsWithSole [.Tuple [.Name x px, .Name y py] kt pt] (.Tuple [a, b] k2 pt2) pos.line X.env = pure false := by rfl) :
    DS X (.Assign [.Tuple [.Name x px, .Name y py] kt pt] (.Tuple [a, b] k2 pt2) pos) (wPar i j WAr) := by
  obtain ⟨t, p, h⟩ := ha.ex
  refine ⟨_, ps_par hc hN hi hj hij hx hy p hw hs, fun Z σ s H O D E rs ro w po => ?_⟩
  refine h _ _ _ _ _ _ _ rs ro w fun vs H1 Z1 ds O1 l1 s1 r1 e1 w1 => ?_
  match ds, vs, e1, w1 with
  | [d, e], _, .cons a (.cons b .nil), w1 => exact ⟨_, _, rfl, po.nx _ _ _ _ _ s1 (((rs.mono s1).set i a).set j b) r1 w1⟩
theorem ds_expr (he : DE X e We) (hs : swapsWith e none pos.line X.env = pure false := by rfl) : DS X (.Expr e pos) (wDrop We) := by
  obtain ⟨t, p, h⟩ := he.ex
  refine ⟨_, ps_expr p hs, fun Z σ s H O D E rs ro w po => ?_⟩
  exact h _ _ _ _ _ _ _ rs ro w fun v H1 Z1 d O1 s1 r1 e1 w1 => po.nx _ _ _ _ _ s1 (rs.mono s1) r1 w1
theorem ds_ret (he : DE X e We) : DS X (.Return (some e) pos) (wRet We) := by
  obtain ⟨t, p, h⟩ := he.ex
  exact ⟨_, ps_ret p, fun Z σ s H O D E rs ro w po => h _ _ _ _ _ _ _ rs ro w po.rt⟩
theorem ds_retN : DS X (.Return none pos) wRetN := ⟨_, ps_retN, fun Z σ s H O D E rs ro w po => po.rt _ _ _ _ _ (Same.refl _) ro .non w⟩
theorem ds_if (hc : DT X c Wc) (ha : DSs X sa W) (hb : DSs X sb W') : DS X (.If c sa sb pos) (wIfS Wc W W') := by
  obtain ⟨tc, pc, kc⟩ := hc.ex
  obtain ⟨t, p, h⟩ := ha.ex
  obtain ⟨u, q, k⟩ := hb.ex
  refine ⟨_, ps_if pc p q, fun Z σ s H O D E rs ro w po => kc _ _ _ _ _ _ _ rs ro w fun x H1 Z1 O1 s1 r1 w1 => ?_⟩
  cases x with
  | true =>
    rw [if_pos rfl] at w1 ⊢
    exact h _ _ _ _ _ _ _ (rs.mono s1) r1 w1 (po.mono s1)
  | false =>
    rw [if_neg Bool.false_ne_true] at w1 ⊢
    exact k _ _ _ _ _ _ _ (rs.mono s1) r1 w1 (po.mono s1)
theorem dss_nil : DSs X [] wNext := ⟨_, pss_nil, fun Z σ s H O D E rs ro w po => po.nx _ _ _ _ _ (Same.refl _) rs ro w⟩
theorem dss_cons (h1 : DS X st W) (h2 : DSs X rest W') : DSs X (st :: rest) (wSeq W W') := by
  obtain ⟨t, p, h⟩ := h1.ex
  obtain ⟨u, q, k⟩ := h2.ex
  refine ⟨_, pss_cons p q, fun Z σ s H O D E rs ro w po => ?_⟩
  exact h _ _ _ _ _ _ _ rs ro w ⟨fun Z1 σ1 s1 H1 O1 m1 rs1 ro1 w1 => k _ _ _ _ _ _ _ rs1 ro1 w1 (po.mono m1), po.rt, po.bk, po.ct⟩
theorem dss_one (h1 : DS X st W) : DSs X [st] W := by
  obtain ⟨t, p, h⟩ := h1.ex
  exact ⟨_, pss_one p, h⟩
theorem ds_pass : DS X (.Pass pos) wNext := ⟨_, ps_pass, fun Z σ s H O D E rs ro w po => po.nx _ _ _ _ _ (Same.refl _) rs ro w⟩
theorem ds_break : DS X (.Break pos) wBreak := ⟨_, ps_break, fun Z σ s H O D E rs ro w po => po.bk _ _ _ _ _ (Same.refl _) rs ro w⟩
theorem ds_cont : DS X (.Continue pos) wCont := ⟨_, ps_continue, fun Z σ s H O D E rs ro w po => po.ct _ _ _ _ _ (Same.refl _) rs ro w⟩
theorem ds_never : DS X st wNever := ⟨_, ps_never, fun Z σ s H O D E rs ro w po => w.elim⟩
theorem dss_never : DSs X rest wNever := ⟨_, pss_never, fun Z σ s H O D E rs ro w po => w.elim⟩
end

/-! ### while -/
def whileN (Wc : WT) (B : WS) (D : DEnds) : Nat → SD → OO → Prop
  | 0, _, _ => False
  | n + 1, s, O => Wc s O fun k O1 => if k = true then B { D with nx := whileN Wc B D n, ct := whileN Wc B D n, bk := D.nx } s O1 else D.nx s O1
def wWhile (Wc : WT) (B : WS) : WS := fun D s O => ∃ n, whileN Wc B D n s O
theorem ds_while {X : Cx} {pos : Pos} {c : Expr} {body : List Stmt} {Wc : WT} {B : WS} (hp : PassesOwn (model X.prog X.w) X.A X.env X.xe) (hc : DT X c Wc) (hb : DSs X body B) : DS X (.While c body [] pos) (wWhile Wc B) := by
  obtain ⟨tc, pc, kc⟩ := hc.ex
  obtain ⟨t, p, h⟩ := hb.ex
  refine ⟨_, ps_while hp pc p, fun Z σ s H O D E rs ro w po => ?_⟩
  obtain ⟨n, w⟩ := w
  refine ⟨fun m σ H => ∃ Z' s O, Same Z Z' ∧ RelS Z' σ s ∧ RelO Z' H O ∧ whileN Wc B D m s O, ⟨n, Z, s, O, Same.refl _, rs, ro, w⟩, ?_⟩
  rintro m σ1 H1 ⟨Z1, s1, O1, m1, rs1, ro1, w1⟩
  cases m with
  | zero => exact w1.elim
  | succ m =>
    refine kc _ _ _ _ _ _ _ rs1 ro1 w1 fun x H2 Z2 O2 m2 r2 w2 => ?_
    cases x with
    | true =>
      rw [if_pos rfl] at w2 ⊢
      refine ⟨fun σ' H' => ∃ Z' s O, Same Z Z' ∧ RelS Z' σ' s ∧ RelO Z' H' O ∧ whileN Wc B D m s O, fun σ' H' hN => ⟨m, Nat.lt_succ_self _, hN⟩, ?_⟩
      have pn : PostN Z2 (whileN Wc B D m) (fun σ' H' => ∃ Z' s O, Same Z Z' ∧ RelS Z' σ' s ∧ RelO Z' H' O ∧ whileN Wc B D m s O) :=
        fun Z3 σ3 s3 H3 O3 m3 rs3 ro3 w3 => ⟨Z3, s3, O3, m1.trans (m2.trans m3), rs3, ro3, w3⟩
      exact h _ _ _ _ _ _ _ (rs1.mono m2) r2 w2 ⟨pn, po.rt.mono (m1.trans m2), po.nx.mono (m1.trans m2), pn⟩
    | false =>
      rw [if_neg Bool.false_ne_true] at w2 ⊢
      exact po.nx _ _ _ _ _ (m1.trans m2) (rs1.mono m2) r2 w2

/-! ### calls of defs -/
abbrev SpD := List D → OO → (D → OO → Prop) → Prop
def Lift (S : SpD) : Sp := fun vs H R _ => ∃ Z O ds Q, RelO Z H O ∧ Reps Z ds vs ∧ S ds O Q ∧ PostE Z Q R
abbrev DFn (P : Program) (w : World) (K : PySem.W.Frag) (mg : Str → Option Value) (base : Heap) (k : Nat) (f : Addr) (fd : FuncData) (ps : List Str) (S : SpD) : Prop := FnG P w K mg base CX0 k f fd ps (Lift S)
def wCall (S : SpD) (W : WA) : WE := fun s O Q => W s O fun ds O1 => S ds O1 Q
def wMeth (C : Addr) (m : Str) (S : SpD) (Wo : WE) (W : WA) : WE := fun s O Q => Wo s O fun d O1 => ∃ a fs, d = .ref a ∧ O1 a = some (.ins C fs) ∧ fs.lookup m = none ∧ W s O1 fun ds O2 => S (d :: ds) O2 Q
theorem RepF.lookup {Z : Hp} {f : Str} : ∀ {fs us}, RepF Z fs us → match fs.lookup f with | some d => ∃ v, us.lookup f = some v ∧ Rep Z d v | none => us.lookup f = none
  | [], _, e => by subst e; rfl
  | (g, d) :: r, _, ⟨v, t, e, h, ht⟩ => by
    subst e
    by_cases hb : (f == g) = true
    · simp only [List.lookup, hb]
      exact ⟨v, rfl, h⟩
    · have hb' : (f == g) = false := by simpa using hb
      simp only [List.lookup, hb']
      exact RepF.lookup ht
theorem RepF.lookup_some {Z : Hp} {f : Str} {fs us d} (r : RepF Z fs us) (h : fs.lookup f = some d) : ∃ v, us.lookup f = some v ∧ Rep Z d v := by
  have q := r.lookup (f := f)
  rw [h] at q
  exact q
theorem RepF.lookup_none {Z : Hp} {f : Str} {fs us} (r : RepF Z fs us) (h : fs.lookup f = none) : us.lookup f = none := by
  have q := r.lookup (f := f)
  rw [h] at q
  exact q
section
variable {X : Cx} {pos p apos : Pos} {x m : Str} {e o : Expr} {es : List Expr} {W : WA} {Wo : WE} {S : SpD} {k : Nat} {f C : Addr} {fd : FuncData} {ps : List Str}
theorem de_call (F : DFn X.prog X.w X.K X.mg X.base k f fd ps S) (hr : RoomG k X.A) (hg : Gl X x) (hm : X.mg x = some (.ref f)) (hk : PySem.W.keepIn X.K (.ref f) = true) (hb : Binds X.K fd ps [])
    (ha : DA X (e :: es) W) (hdb : (x == ("__debug__" : Str)) = false := by decide) (he : starEach (e :: es) X.env = (false, eval e X.env) :: starEach es X.env := by rfl) (hpl : (backTo pos (starEach es X.env)).any (·.1) = false := by rfl) :
    DE X (.Call (.Name x p) (e :: es) [] pos) (wCall S W) := by
  obtain ⟨t, q, h⟩ := ha.ex
  refine ⟨_, callG F hr hg hm hk hb pass0 q hdb he hpl, fun Z σ s H O Q R rs ro w po => ?_⟩
  refine h _ _ _ _ _ _ _ rs ro w fun vs H1 Z1 ds O1 l1 s1 r1 e1 w1 => ?_
  exact ⟨Z1, O1, ds, Q, r1, e1, w1, po.mono s1⟩
theorem de_call0 (F : DFn X.prog X.w X.K X.mg X.base k f fd ps S) (hr : RoomG k X.A) (hg : Gl X x) (hm : X.mg x = some (.ref f)) (hk : PySem.W.keepIn X.K (.ref f) = true) (hb : Binds X.K fd ps [])
    (hdb : (x == ("__debug__" : Str)) = false := by decide) : DE X (.Call (.Name x p) [] [] pos) (wCall S wNil) :=
  ⟨_, callG0 F hr hg hm hk hb pass0 hdb, fun Z σ s H O Q R rs ro w po => ⟨Z, O, [], Q, ro, .nil, w, po⟩⟩
theorem de_meth {pl : Sem Bool} (c : Cls X.K C) (hm : Meth X.K C m f) (F : DFn X.prog X.w X.K X.mg X.base k f fd ps S) (hr : RoomG k X.A) (hb : Binds X.K fd ps []) (ho : DE X o Wo) (ha : DA X (e :: es) W)
    (he : starEach (e :: es) X.env = (false, eval e X.env) :: starEach es X.env := by rfl) (hpl : (backTo pos (starEach es X.env)).any (·.1) = false := by rfl)
    (hv : eval (.Call (.Attribute o m apos) (e :: es) [] pos) X.env = (do
      let ov ← eval o X.env
      standAt apos.atName
      let (g, first) ← holding [ov] (getMethod ov m pl)
      callWith pos g first (backTo pos (starEach (e :: es) X.env)) (backToKw pos (keywordEach [] X.env))) := by rfl) : DE X (.Call (.Attribute o m apos) (e :: es) [] pos) (wMeth C m S Wo W) := by
  obtain ⟨to, qo, h0⟩ := ho.ex
  obtain ⟨t, q, h⟩ := ha.ex
  refine ⟨_, methG qo c hm F hr hb pass0 q he hpl hv, fun Z σ s H O Q R rs ro w po => ?_⟩
  refine h0 _ _ _ _ _ _ _ rs ro w fun v H1 Z1 d O1 s1 r1 e1 w1 => ?_
  obtain ⟨a, fs, rfl, hO, hl, w1⟩ := w1
  cases e1
  obtain ⟨dx, us, hH, rf⟩ := r1.own _ _ hO
  refine ⟨a, dx, us, rfl, hH, rf.lookup_none hl, ?_⟩
  refine h _ _ _ _ _ _ _ (rs.mono s1) r1 w1 fun vs H2 Z2 ds O2 l2 s2 r2 e2 w2 => ?_
  exact ⟨Z2, O2, _, Q, r2, .cons .ref e2, w2, po.mono (s1.trans s2)⟩
theorem de_meth0 {pl : Sem Bool} (c : Cls X.K C) (hm : Meth X.K C m f) (F : DFn X.prog X.w X.K X.mg X.base k f fd ps S) (hr : RoomG k X.A) (hb : Binds X.K fd ps []) (ho : DE X o Wo)
    (hv : eval (.Call (.Attribute o m apos) [] [] pos) X.env = (do
      let ov ← eval o X.env
      standAt apos.atName
      let (g, first) ← holding [ov] (getMethod ov m pl)
      callWith pos g first (backTo pos (starEach [] X.env)) (backToKw pos (keywordEach [] X.env))) := by rfl) : DE X (.Call (.Attribute o m apos) [] [] pos) (wMeth C m S Wo wNil) := by
  obtain ⟨to, qo, h0⟩ := ho.ex
  refine ⟨_, methG0 qo c hm F hr hb pass0 hv, fun Z σ s H O Q R rs ro w po => ?_⟩
  refine h0 _ _ _ _ _ _ _ rs ro w fun v H1 Z1 d O1 s1 r1 e1 w1 => ?_
  obtain ⟨a, fs, rfl, hO, hl, w1⟩ := w1
  cases e1
  obtain ⟨dx, us, hH, rf⟩ := r1.own _ _ hO
  exact ⟨a, dx, us, rfl, hH, rf.lookup_none hl, Z1, O1, _, Q, r1, .cons .ref .nil, w1, po.mono s1⟩
theorem made_ok {Z H : Hp} {O : OO} {a dx : Addr} (ro : RelO Z H O) (ha : H a = none) (hd : H dx = none) (hne : dx ≠ a) : RelO Z (upd (upd H dx (.own a)) a (.ins C dx [])) (updO O a (.ins C [])) := by
  have r1 : RelO Z (upd H dx (.own a)) O := ro.grow fun b z q => by rw [upd_ne (ne_of_none q hd)]; exact q
  refine r1.new ?_ ⟨dx, [], upd_same, rfl⟩
  rw [upd_ne (Ne.symm hne)]
  exact ha
/-- C(..): __init__ hands back None -/
def wMake (C : Addr) (S : SpD) (W : WA) : WE := fun s O Q => W s O fun ds O1 => ∀ a, O1 a = none → S (.ref a :: ds) (updO O1 a (.ins C [])) fun d O2 => d = .non ∧ Q (.ref a) O2
theorem de_make (M : Mk X.K C f) (F : DFn X.prog X.w X.K X.mg X.base k f fd ps S) (hr : RoomG (k + 1) X.A) (hg : Gl X x) (hm : X.mg x = some (.ref C)) (hb : Binds X.K fd ps [])
    (ha : DA X (e :: es) W) (hdb : (x == ("__debug__" : Str)) = false := by decide) (he : starEach (e :: es) X.env = (false, eval e X.env) :: starEach es X.env := by rfl) (hpl : (backTo pos (starEach es X.env)).any (·.1) = false := by rfl) :
    DE X (.Call (.Name x p) (e :: es) [] pos) (wMake C S W) := by
  obtain ⟨t, q, h⟩ := ha.ex
  refine ⟨_, makeG M F hr hg hm hb pass0 q hdb he hpl, fun Z σ s H O Q R rs ro w po => ?_⟩
  refine h _ _ _ _ _ _ _ rs ro w fun vs H1 Z1 ds O1 l1 s1 r1 e1 w1 a dx na nd ne => ?_
  refine ⟨Z1, _, _, _, made_ok r1 na nd ne, .cons .ref e1, w1 a (r1.free na), fun v H2 Z2 d O2 s2 r2 e2 w2 => ?_⟩
  obtain ⟨rfl, w2⟩ := w2
  cases e2
  exact ⟨rfl, po _ _ _ _ _ (s1.trans s2) r2 .ref w2⟩
theorem de_make0 (M : Mk X.K C f) (F : DFn X.prog X.w X.K X.mg X.base k f fd ps S) (hr : RoomG (k + 1) X.A) (hg : Gl X x) (hm : X.mg x = some (.ref C)) (hb : Binds X.K fd ps [])
    (hdb : (x == ("__debug__" : Str)) = false := by decide) : DE X (.Call (.Name x p) [] [] pos) (wMake C S wNil) := by
  refine ⟨_, makeG0 M F hr hg hm hb pass0 hdb, fun Z σ s H O Q R rs ro w po a dx na nd ne => ?_⟩
  refine ⟨Z, _, _, _, made_ok ro na nd ne, .cons .ref .nil, w a (ro.free na), fun v H2 Z2 d O2 s2 r2 e2 w2 => ?_⟩
  obtain ⟨rfl, w2⟩ := w2
  cases e2
  exact ⟨rfl, po _ _ _ _ _ s2 r2 .ref w2⟩
end

/-! ### a def -/
/-- fewer live objects are told -/
def Le (O O' : OO) : Prop := ∀ a m, O a = some m → O' a = some m
theorem Le.refl (O : OO) : Le O O := fun _ _ h => h
theorem Le.trans {O P R : OO} (h : Le O P) (k : Le P R) : Le O R := fun a m e => k a m (h a m e)
theorem Le.upd {O O' : OO} {a m} (h : Le O O') (n : O a = none) : Le O (updO O' a m) := fun b u e => by
  rw [updO_ne (neO e n)]
  exact h b u e
theorem Le.rem {O O' : OO} {a} (h : Le O O') (n : O a = none) : Le O (remO O' a) := fun b u e => by
  rw [remO_ne (neO e n)]
  exact h b u e
def retE (Q : D → OO → Prop) : DEnds := { nx := fun _ O' => ∃ O2, Le O2 O' ∧ Q .non O2, rt := fun d O' => ∃ O2, Le O2 O' ∧ Q d O2 }
theorem fn_ok {P : Program} {w : World} {K : PySem.W.Frag} {mg : Str → Option Value} {base : Heap} {x qual : Str} {st : Stmt} {f : Addr} {fd : FuncData} {N ps : List Str} {k : Nat} {S : SpD} (F : Fun K x qual st f fd) (Sc : FnScope N ps (defScope st))
    (len : ∀ ds O Q, S ds O Q → ds.length = ps.length)
    (hbody : ∀ (cdv : Value) (A : Around) (outer : List Env) (s : Shared) (H : Hp) (E : XK), RoomG k (A.deeper (envOfC qual (defScope st) s.heap.objs.size f cdv)) →
      ∃ W, DSs (cxOf CX0 P w K mg base N qual (defScope st) f cdv A outer s H E).nox (defBody st) W ∧ ∀ ds O Q, S ds O Q → W (retE Q) (sstart N ds) O) : DFn P w K mg base (k + 1) f fd ps S := by
  refine fnG_of F Sc (fun vs H R E ⟨Z, O, ds, Q, ro, rs, h, po⟩ => rs.length.symm.trans (len _ _ _ h)) fun cdv A outer s H vs R E hr ⟨Z, O, ds, Q, ro, rs, h, po⟩ => ?_
  obtain ⟨W, d, hw⟩ := hbody cdv A outer s H E hr
  obtain ⟨t, p, k⟩ := d.ex
  refine ⟨t, p.nox, k _ _ _ _ _ _ _ (RelS.start rs) ro (hw _ _ _ h) ⟨?_, ?_, ?_, ?_⟩⟩
  · exact fun Z1 σ1 s1 H1 O1 m1 rs1 ro1 ⟨O2, l, w1⟩ => po _ _ _ _ _ m1 (ro1.less l) .non w1
  · exact fun v1 H1 Z1 d1 O1 m1 ro1 r1 ⟨O2, l, w1⟩ => po _ _ _ _ _ m1 (ro1.less l) r1 w1
  · exact fun Z1 σ1 s1 H1 O1 m1 rs1 ro1 w1 => w1.elim
  · exact fun Z1 σ1 s1 H1 O1 m1 rs1 ro1 w1 => w1.elim
end TD

set_option Elab.async false
set_option linter.all false
set_option maxRecDepth 100000
/-! TD: operators on trees -/
namespace TD
open PySem PySem.Spec PyProof.Rows L2

/-! ### what is read as a list, a dict -/
def asLM : Option MO → Option (List D)
  | some (.lst ds) => some ds
  | _ => none
def asL (d : D) (O : OO) : Option (List D) := match d with
  | .lst ds => some ds
  | .ref a => asLM (O a)
  | _ => none
def asKM : Option MO → Option (List (Key × D))
  | some (.dic kvs) => some kvs
  | some (.lkd _ _ kvs) => some kvs
  | _ => none
def asK (d : D) (O : OO) : Option (List (Key × D)) := match d with
  | .dic kvs => some kvs
  | .ref a => asKM (O a)
  | _ => none
theorem Sub.at {Z H : Hp} {p : Addr} {u : HO} (h : Sub Z H) (e : Z p = some u) (n : isDict u = false) : H p = some u := by
  rcases h p u e with q | ⟨q, _⟩
  · exact q
  · rw [n] at q; cases q
theorem asL_ok {Z H : Hp} {O : OO} {d : D} {v : V} {ds : List D} (ro : RelO Z H O) (r : Rep Z d v) (h : asL d O = some ds) : ∃ p vs, v = .ref p ∧ H p = some (.lst vs) ∧ Reps Z ds vs := by
  cases r with
  | lst e r =>
    cases h
    exact ⟨_, _, rfl, ro.sub.at e rfl, r⟩
  | @ref a =>
    replace h : asLM (O a) = some ds := h
    cases e : O a with
    | none => rw [e] at h; cases h
    | some m =>
      rw [e] at h
      cases m with
      | lst es =>
        cases h
        obtain ⟨vs, hu, r⟩ := ro.own _ _ e
        exact ⟨_, _, rfl, hu, r⟩
      | _ => cases h
  | _ => cases h
theorem tup_ok {Z H : Hp} {O : OO} {v : V} {ds : List D} (ro : RelO Z H O) (r : Rep Z (.tup ds) v) : ∃ p vs, v = .ref p ∧ H p = some (.tup vs) ∧ Reps Z ds vs := by
  cases r with
  | tup e r => exact ⟨_, _, rfl, ro.sub.at e rfl, r⟩
theorem asK_ok {Z H : Hp} {O : OO} {d : D} {v : V} {kvs : List (Key × D)} (ro : RelO Z H O) (r : Rep Z d v) (h : asK d O = some kvs) : ∃ p us, v = .ref p ∧ Rd H p (.dK us) ∧ RepK Z kvs us := by
  cases r with
  | dic e r =>
    cases h
    exact ⟨_, _, rfl, .inr ⟨_, ro.sub.at e rfl⟩, r⟩
  | @ref a =>
    replace h : asKM (O a) = some kvs := h
    cases e : O a with
    | none => rw [e] at h; cases h
    | some m =>
      rw [e] at h
      cases m with
      | dic es =>
        cases h
        obtain ⟨us, hu, r⟩ := ro.own _ _ e
        exact ⟨_, _, rfl, .inl hu, r⟩
      | lkd od us es =>
        cases h
        obtain ⟨hu, r⟩ := ro.own _ _ e
        exact ⟨_, _, rfl, .inr ⟨_, hu⟩, r⟩
      | _ => cases h
  | _ => cases h
/-- the value under a key -/
def valG {κ ν : Type} [DecidableEq κ] (kvs : List (κ × ν)) (k : κ) : Option ν := (kvs.find? fun kv => decide (kv.1 = k)).map (·.2)
def putG {κ ν : Type} [DecidableEq κ] (kvs : List (κ × ν)) (k : κ) (v : ν) : List (κ × ν) :=
  if (kvs.any fun kv => decide (kv.1 = k)) = true then kvs.map (fun kv => if kv.1 = k then (kv.1, v) else kv) else kvs ++ [(k, v)]
def dropG {κ ν : Type} [DecidableEq κ] (kvs : List (κ × ν)) (k : κ) : List (κ × ν) := kvs.filter fun kv => decide (kv.1 ≠ k)
theorem valG_cons {κ ν : Type} [DecidableEq κ] (p : κ × ν) (r : List (κ × ν)) (k : κ) : valG (p :: r) k = if p.1 = k then some p.2 else valG r k := by
  by_cases h : p.1 = k <;> simp [valG, List.find?_cons, h]
theorem RepK.val {Z : Hp} {k : Key} : ∀ {kvs us}, RepK Z kvs us → match valG kvs k with | some d => ∃ v, valV us k = some v ∧ Rep Z d v | none => valV us k = none
  | _, _, .nil => rfl
  | _, _, .cons (k := j) (d := d) (v := v) (ds := ds) (vs := vs) a r => by
    by_cases h : j = k
    · rw [valG_cons, if_pos h, valV_pos h]
      exact ⟨v, rfl, a⟩
    · rw [valG_cons, if_neg h, valV_neg h]
      exact RepK.val r
theorem RepK.keys {Z : Hp} : ∀ {kvs us}, RepK Z kvs us → kvs.map (·.1) = us.map (·.1)
  | _, _, .nil => rfl
  | _, _, .cons a r => by simp [RepK.keys r]
theorem RepK.length {Z : Hp} {kvs us} (r : RepK Z kvs us) : kvs.length = us.length := by
  have := congrArg List.length r.keys
  simpa using this
theorem RepK.any {Z : Hp} (f : Key → Bool) : ∀ {kvs us}, RepK Z kvs us → (kvs.any fun kv => f kv.1) = us.any fun kv => f kv.1
  | _, _, .nil => rfl
  | _, _, .cons a r => by simp only [List.any_cons, RepK.any f r]
theorem RepK.mapSet {Z : Hp} {k : Key} {d : D} {v : V} (h : Rep Z d v) : ∀ {kvs us}, RepK Z kvs us → RepK Z (kvs.map fun kv => if kv.1 = k then (kv.1, d) else kv) (us.map fun kv => if kv.1 = k then (kv.1, v) else kv)
  | _, _, .nil => .nil
  | _, _, .cons (k := j) a r => by
    rw [List.map_cons, List.map_cons]
    by_cases hj : j = k
    · rw [if_pos hj, if_pos hj]
      exact .cons h (RepK.mapSet h r)
    · rw [if_neg hj, if_neg hj]
      exact .cons a (RepK.mapSet h r)
theorem RepK.append {Z : Hp} : ∀ {kvs us lvs ws}, RepK Z kvs us → RepK Z lvs ws → RepK Z (kvs ++ lvs) (us ++ ws)
  | _, _, _, _, .nil, h => h
  | _, _, _, _, .cons a r, h => .cons a (RepK.append r h)
theorem RepK.put {Z : Hp} {k : Key} {d : D} {v : V} (h : Rep Z d v) {kvs us} (r : RepK Z kvs us) : RepK Z (putG kvs k d) (putK us k v) := by
  unfold putG putK
  have e := r.any (fun j => decide (j = k))
  by_cases c : (kvs.any fun kv => decide (kv.1 = k)) = true
  · rw [if_pos c, if_pos (by rw [← e]; exact c)]
    exact r.mapSet h
  · rw [if_neg c, if_neg (by rw [← e]; exact c)]
    exact r.append (.cons h .nil)
theorem RepK.filter {Z : Hp} (f : Key → Bool) : ∀ {kvs us}, RepK Z kvs us → RepK Z (kvs.filter fun kv => f kv.1) (us.filter fun kv => f kv.1)
  | _, _, .nil => .nil
  | _, _, .cons (k := j) (d := d) (v := v) (ds := ds) (vs := vs) a r => by
    rw [List.filter_cons, List.filter_cons]
    by_cases c : f j = true
    · rw [if_pos c, if_pos c]
      exact .cons a (RepK.filter f r)
    · rw [if_neg c, if_neg c]
      exact RepK.filter f r
theorem RepK.drop {Z : Hp} (k : Key) {kvs us} (r : RepK Z kvs us) : RepK Z (dropG kvs k) (dropK us k) := r.filter fun j => decide (j ≠ k)

/-! ### arithmetic -/
def wInt2 (f : Int → Int → Int) (C : Int → Int → Prop) : DOF := fun x y O Q => match x, y with | .int i, .int j => C i j ∧ Q (.int (f i j)) O | _, _ => False
def wCmpI (f : Int → Int → Bool) : DOF := fun x y O Q => match x, y with | .int i, .int j => Q (.bl (f i j)) O | _, _ => False
theorem wInt2_ex {f C x y O Q} (h : wInt2 f C x y O Q) : ∃ i j, x = .int i ∧ y = .int j ∧ C i j ∧ Q (.int (f i j)) O := by
  cases x <;> first | exact h.elim | (cases y <;> first | exact h.elim | exact ⟨_, _, rfl, rfl, h.1, h.2⟩)
theorem wCmpI_ex {f x y O Q} (h : wCmpI f x y O Q) : ∃ i j, x = .int i ∧ y = .int j ∧ Q (.bl (f i j)) O := by
  cases x <;> first | exact h.elim | (cases y <;> first | exact h.elim | exact ⟨_, _, rfl, rfl, h⟩)
section
variable {X : Cx}
theorem dop_int {f : Value → Value → Sem Value} {g C C'} (h : OpR X f (rI C' fun i j => .int (g i j))) (hc : ∀ i j, C i j → C' i j) : DOp X f (wInt2 g C) := by
  refine ⟨_, h, fun Z H O x y vx vy Q R ro rx ry w po => ?_⟩
  obtain ⟨i, j, rfl, rfl, c, q⟩ := wInt2_ex w
  cases rx; cases ry
  exact ⟨i, j, rfl, rfl, hc _ _ c, po _ _ _ _ _ (Same.refl _) ro .int q⟩
theorem dop_int0 {f : Value → Value → Sem Value} {g} (h : OpR X f (rI0 fun i j => .int (g i j))) : DOp X f (wInt2 g fun _ _ => True) := by
  refine ⟨_, h, fun Z H O x y vx vy Q R ro rx ry w po => ?_⟩
  obtain ⟨i, j, rfl, rfl, c, q⟩ := wInt2_ex w
  cases rx; cases ry
  exact ⟨i, j, rfl, rfl, po _ _ _ _ _ (Same.refl _) ro .int q⟩
theorem dop_cmpI {f : Value → Value → Sem Value} {g} (h : OpR X f (rI0 fun i j => .bl (g i j))) : DOp X f (wCmpI g) := by
  refine ⟨_, h, fun Z H O x y vx vy Q R ro rx ry w po => ?_⟩
  obtain ⟨i, j, rfl, rfl, q⟩ := wCmpI_ex w
  cases rx; cases ry
  exact ⟨i, j, rfl, rfl, po _ _ _ _ _ (Same.refl _) ro .bl q⟩
def wSub : DOF := wInt2 (· - ·) fun _ _ => True
def wMul : DOF := wInt2 (· * ·) CMul
def wDiv : DOF := wInt2 (· / ·) fun _ j => 0 < j ∧ j < 1073741824
def wMod : DOF := wInt2 (· % ·) fun _ j => 0 < j
def wPow : DOF := wInt2 (fun i j => i ^ j.toNat) CPow
theorem o_sub : DOp X (binaryOp .Sub) wSub := dop_int0 op_sub
theorem o_mul : DOp X (binaryOp .Mult) wMul := dop_int op_mul fun _ _ h => h
theorem o_div : DOp X (binaryOp .FloorDiv) wDiv := dop_int op_fdiv fun _ _ h => h
theorem o_mod : DOp X (binaryOp .Mod) wMod := dop_int op_mod fun _ _ h => h
theorem o_pow : DOp X (binaryOp .Pow) wPow := dop_int op_pow fun _ _ h => h
def wNeg : DUF := fun x O Q => match x with | .int i => Q (.int (-i)) O | _ => False
theorem o_neg : DUn X (unaryOp .USub) wNeg := by
  refine ⟨_, un_neg, fun Z H O x vx Q R ro rx w po => ?_⟩
  cases rx <;> first | exact w.elim | exact ⟨_, rfl, po _ _ _ _ _ (Same.refl _) ro .int w⟩

/-! ### + -/
def wAddL : DOF := fun x y O Q => ∃ xs ys, asL x O = some xs ∧ asL y O = some ys ∧ xs.length + ys.length ≤ sizeLine ∧ ∀ a, O a = none → Q (.ref a) (updO O a (.lst (xs ++ ys)))
def wAdd : DOF := fun x y O Q => match x, y with
  | .int i, .int j => Q (.int (i + j)) O
  | .str a, .str b => a.length + b.length ≤ sizeLine ∧ Q (.str (a ++ b)) O
  | .tup a, .tup b => a.length + b.length ≤ sizeLine ∧ Q (.tup (a ++ b)) O
  | x, y => wAddL x y O Q
theorem o_addI : DOp X (binaryOp .Add) (wInt2 (· + ·) fun _ _ => True) := dop_int0 op_add
theorem o_addS : DOp X (binaryOp .Add) (fun x y O Q => ∃ a b, x = .str a ∧ y = .str b ∧ a.length + b.length ≤ sizeLine ∧ Q (.str (a ++ b)) O) := by
  refine ⟨_, op_add_str, fun Z H O x y vx vy Q R ro rx ry w po => ?_⟩
  obtain ⟨a, b, rfl, rfl, l, q⟩ := w
  cases rx; cases ry
  exact ⟨a, b, rfl, rfl, l, po _ _ _ _ _ (Same.refl _) ro .str q⟩
theorem o_addT : DOp X (binaryOp .Add) (fun x y O Q => ∃ a b, x = .tup a ∧ y = .tup b ∧ a.length + b.length ≤ sizeLine ∧ Q (.tup (a ++ b)) O) := by
  refine ⟨_, op_catA, fun Z H O x y vx vy Q R ro rx ry w po => ?_⟩
  obtain ⟨a, b, rfl, rfl, l, q⟩ := w
  obtain ⟨p, vs, rfl, hp, r1⟩ := tup_ok ro rx
  obtain ⟨p', us, rfl, hp', r2⟩ := tup_ok ro ry
  refine ⟨p, p', vs, us, rfl, rfl, .inl (.inl hp), .inl (.inl hp'), by rw [← r1.length, ← r2.length]; exact l, fun e => ?_, fun e e2 => ?_, fun e e2 c hc => ?_⟩
  · have : a = [] := List.eq_nil_of_length_eq_zero (by rw [r1.length, e]; rfl)
    subst this
    exact po _ _ _ _ _ (Same.refl _) ro ry q
  · have : b = [] := List.eq_nil_of_length_eq_zero (by rw [r2.length, e2]; rfl)
    subst this
    rw [List.append_nil] at q
    exact po _ _ _ _ _ (Same.refl _) ro rx q
  · obtain ⟨s3, r3⟩ := ro.newZ (u := .tup (vs ++ us)) hc
    exact po _ _ _ _ _ s3 r3 (.tup upd_same ((r1.append r2).mono s3)) q
theorem o_addL : DOp X (binaryOp .Add) wAddL := by
  refine ⟨_, op_cat, fun Z H O x y vx vy Q R ro rx ry w po => ?_⟩
  obtain ⟨xs, ys, ex, ey, l, q⟩ := w
  obtain ⟨p, vs, rfl, hp, r1⟩ := asL_ok ro rx ex
  obtain ⟨p', us, rfl, hp', r2⟩ := asL_ok ro ry ey
  refine ⟨p, p', vs, us, rfl, rfl, hp, hp', by rw [← r1.length, ← r2.length]; exact l, fun c hc => ?_⟩
  exact po _ _ _ _ _ (Same.refl _) (ro.new (m := .lst (xs ++ ys)) hc ⟨_, upd_same, r1.append r2⟩) .ref (q c (ro.free hc))
theorem o_add : DOp X (binaryOp .Add) wAdd := by
  refine (((o_addI.or o_addS).or o_addT).or o_addL).imp fun x y O Q h => ?_
  cases x <;> cases y <;> first
    | exact .inl (.inl (.inl ⟨trivial, h⟩))
    | exact .inl (.inl (.inr ⟨_, _, rfl, rfl, h⟩))
    | exact .inl (.inr ⟨_, _, rfl, rfl, h⟩)
    | exact .inr h

/-! ### order -/
def wLt : DOF := fun x y O Q => match x, y with | .int i, .int j => Q (.bl (decide (i < j))) O | .str a, .str b => Q (.bl (decide (a.cps.toList < b.cps.toList))) O | _, _ => False
def wLe : DOF := fun x y O Q => match x, y with | .int i, .int j => Q (.bl (decide (i ≤ j))) O | .str a, .str b => Q (.bl (!decide (b.cps.toList < a.cps.toList))) O | _, _ => False
def wGt : DOF := fun x y O Q => match x, y with | .int i, .int j => Q (.bl (decide (j < i))) O | .str a, .str b => Q (.bl (decide (b.cps.toList < a.cps.toList))) O | _, _ => False
def wGe : DOF := fun x y O Q => match x, y with | .int i, .int j => Q (.bl (decide (j ≤ i))) O | .str a, .str b => Q (.bl (!decide (a.cps.toList < b.cps.toList))) O | _, _ => False
def wStr2 (f : Str → Str → Bool) : DOF := fun x y O Q => ∃ a b, x = .str a ∧ y = .str b ∧ Q (.bl (f a b)) O
theorem dop_str {f : Value → Value → Sem Value} {g : Str → Str → Bool} (h : OpR X f (fun x y H Q => ∃ i j, x = .str i ∧ y = .str j ∧ Q (.bl (g i j)) H)) : DOp X f (wStr2 g) := by
  refine ⟨_, h, fun Z H O x y vx vy Q R ro rx ry w po => ?_⟩
  obtain ⟨a, b, rfl, rfl, q⟩ := w
  cases rx; cases ry
  exact ⟨a, b, rfl, rfl, po _ _ _ _ _ (Same.refl _) ro .bl q⟩
theorem o_lt : DOp X (compareOp .Lt) wLt := ((dop_cmpI op_lt).or (dop_str op_lt_str)).imp fun x y O Q h => by
  cases x <;> cases y <;> first | exact h.elim | exact .inl h | exact .inr ⟨_, _, rfl, rfl, h⟩
theorem o_le : DOp X (compareOp .LtE) wLe := ((dop_cmpI op_le).or (dop_str op_le_str)).imp fun x y O Q h => by
  cases x <;> cases y <;> first | exact h.elim | exact .inl h | exact .inr ⟨_, _, rfl, rfl, h⟩
theorem o_gt : DOp X (compareOp .Gt) wGt := ((dop_cmpI op_gt).or (dop_str op_gt_str)).imp fun x y O Q h => by
  cases x <;> cases y <;> first | exact h.elim | exact .inl h | exact .inr ⟨_, _, rfl, rfl, h⟩
theorem o_ge : DOp X (compareOp .GtE) wGe := ((dop_cmpI op_ge).or (dop_str op_ge_str)).imp fun x y O Q h => by
  cases x <;> cases y <;> first | exact h.elim | exact .inl h | exact .inr ⟨_, _, rfl, rfl, h⟩
/-! ### is None -/
def isNonD : D → Bool | .non => true | _ => false
def wIsN : DOF := fun x y O Q => match y with | .non => Q (.bl (isNonD x)) O | _ => False
def wNotN : DOF := fun x y O Q => match y with | .non => Q (.bl (!isNonD x)) O | _ => False
theorem Rep.non_iff {Z d v} (r : Rep Z d v) : decide (v = V.non) = isNonD d := by cases r <;> simp [isNonD]
theorem o_isN : DOp X (compareOp .Is) wIsN := by
  refine ⟨_, op_isN, fun Z H O x y vx vy Q R ro rx ry w po => ?_⟩
  cases ry <;> first | exact w.elim | skip
  refine ⟨rfl, ?_⟩
  rw [rx.non_iff]
  exact po _ _ _ _ _ (Same.refl _) ro .bl w
theorem o_notN : DOp X (compareOp .IsNot) wNotN := by
  refine ⟨_, op_notN, fun Z H O x y vx vy Q R ro rx ry w po => ?_⟩
  cases ry <;> first | exact w.elim | skip
  refine ⟨rfl, ?_⟩
  rw [rx.non_iff]
  exact po _ _ _ _ _ (Same.refl _) ro .bl w
end
end TD

set_option Elab.async false
set_option linter.all false
set_option maxRecDepth 100000
/-! TD: == and repr of trees -/
namespace TD
open PySem PySem.Spec PyProof.Rows L2

mutual
def eqvD : D → D → Bool
  | .tup xs, .tup ys => eqvL xs ys
  | .lst xs, .lst ys => eqvL xs ys
  | .dic xs, .dic ys => xs.length == ys.length && eqvK xs ys
  | .int i, .int j => i == j
  | .str a, .str b => a == b
  | .bl a, .bl b => a == b
  | .int i, .bl b => i == (if b then 1 else 0)
  | .bl a, .int j => (if a then 1 else 0) == j
  | .non, .non => true
  | _, _ => false
def eqvL : List D → List D → Bool
  | [], [] => true
  | x :: xs, y :: ys => eqvD x y && eqvL xs ys
  | _, _ => false
def eqvK : List (Key × D) → List (Key × D) → Bool
  | [], _ => true
  | (k, d) :: r, ys => (match valG ys k with | some e => eqvD d e | none => false) && eqvK r ys
end
mutual
/-- trees whose == is told -/
def cmpD : D → D → Bool
  | .tup xs, .tup ys => cmpL xs ys
  | .lst xs, .lst ys => cmpL xs ys
  | .dic xs, .dic ys => cmpK xs ys
  | .dic _, _ => false
  | .dct _, _ => false
  | .ref _, _ => false
  | .ty _, _ => false
  | _, .dic _ => false
  | _, .dct _ => false
  | _, .ref _ => false
  | _, .ty _ => false
  | _, _ => true
def cmpL : List D → List D → Bool
  | x :: xs, y :: ys => cmpD x y && cmpL xs ys
  | _, _ => true
def cmpK : List (Key × D) → List (Key × D) → Bool
  | [], _ => true
  | (k, d) :: r, ys => (match valG ys k with | some e => cmpD d e | none => true) && cmpK r ys
end
mutual
def dpD : D → Nat
  | .tup xs => dpL xs + 1
  | .lst xs => dpL xs + 1
  | .dic xs => dpK xs + 1
  | _ => 0
def dpL : List D → Nat
  | [] => 0
  | x :: xs => max (dpD x) (dpL xs)
def dpK : List (Key × D) → Nat
  | [] => 0
  | (_, d) :: r => max (dpD d) (dpK r)
end

theorem nodup_val {us : List (Key × V)} (h : (us.map (·.1)).Nodup) : ∀ {k v}, (k, v) ∈ us → valV us k = some v := by
  induction us with
  | nil => intro k v hm; cases hm
  | cons p r ih =>
    intro k v hm
    rw [List.map_cons, List.nodup_cons] at h
    rcases List.mem_cons.mp hm with e | hm
    · subst e
      exact valV_pos rfl
    · have hne : ¬ p.1 = k := fun e => h.1 (by rw [e]; exact List.mem_map.mpr ⟨_, hm, rfl⟩)
      rw [valV_neg hne]
      exact ih h.2 hm
/-! two trees of one value -/
mutual
theorem eqv_same {Z : Hp} (nd : ∀ p o us, Z p = some (.frz o (.dK us)) → (us.map (·.1)).Nodup) : ∀ (d e : D) {v}, cmpD d e = true → Rep Z d v → Rep Z e v → eqvD d e = true
  | .tup xs, e, v, c, r, k => by
    cases r with
    | tup z r =>
      cases k with
      | tup z2 k =>
        rw [z] at z2
        cases z2
        exact eqvL_same nd xs _ (by simpa [cmpD] using c) r k
      | lst z2 k => rw [z] at z2; cases z2
      | dic z2 k => rw [z] at z2; cases z2
      | dct z2 k => rw [z] at z2; cases z2
      | ref => simp [cmpD] at c
  | .lst xs, e, v, c, r, k => by
    cases r with
    | lst z r =>
      cases k with
      | lst z2 k =>
        rw [z] at z2
        cases z2
        exact eqvL_same nd xs _ (by simpa [cmpD] using c) r k
      | tup z2 k => rw [z] at z2; cases z2
      | dic z2 k => rw [z] at z2; cases z2
      | dct z2 k => rw [z] at z2; cases z2
      | ref => simp [cmpD] at c
  | .dic xs, e, v, c, r, k => by
    cases r with
    | @dic p _ us _ z r =>
      cases k with
      | dic z2 k =>
        rw [z] at z2
        cases z2
        simp only [eqvD, Bool.and_eq_true, beq_iff_eq]
        exact ⟨r.length.trans k.length.symm, eqvK_same nd xs _ us us (fun kv h => h) (nd _ _ _ z) (by simpa [cmpD] using c) r k⟩
      | tup z2 k => rw [z] at z2; cases z2
      | lst z2 k => rw [z] at z2; cases z2
      | dct z2 k => rw [z] at z2; cases z2
      | ref => simp [cmpD] at c
  | .non, e, v, c, r, k => by cases r; cases k; rfl
  | .bl _, e, v, c, r, k => by cases r; cases k; simp [eqvD]
  | .int _, e, v, c, r, k => by cases r; cases k; simp [eqvD]
  | .str _, e, v, c, r, k => by cases r; cases k; simp [eqvD]
  | .ty _, e, v, c, r, k => by simp [cmpD] at c
  | .ref _, e, v, c, r, k => by simp [cmpD] at c
  | .dct _, e, v, c, r, k => by simp [cmpD] at c
theorem eqvL_same {Z : Hp} (nd : ∀ p o us, Z p = some (.frz o (.dK us)) → (us.map (·.1)).Nodup) : ∀ (ds es : List D) {vs}, cmpL ds es = true → Reps Z ds vs → Reps Z es vs → eqvL ds es = true
  | [], _, _, _, .nil, .nil => rfl
  | x :: xs, es, _, c, r, k => by
    cases r with
    | cons a r =>
      cases k with
      | @cons y _ ys _ b k =>
        have c' : cmpD x y = true ∧ cmpL xs ys = true := by simpa [cmpL] using c
        simp only [eqvL, Bool.and_eq_true]
        exact ⟨eqv_same nd x y c'.1 a b, eqvL_same nd xs ys c'.2 r k⟩
theorem eqvK_same {Z : Hp} (nd : ∀ p o us, Z p = some (.frz o (.dK us)) → (us.map (·.1)).Nodup) : ∀ (ds es : List (Key × D)) (us ws : List (Key × V)), (∀ kv, kv ∈ us → kv ∈ ws) → (ws.map (·.1)).Nodup → cmpK ds es = true → RepK Z ds us → RepK Z es ws → eqvK ds es = true
  | [], _, _, _, _, _, _, .nil, _ => rfl
  | (k, x) :: xs, ys, us, ws, sub, no, c, r, rk => by
    cases r with
    | cons a r =>
      have hv := nodup_val no (sub _ List.mem_cons_self)
      have q := rk.val (k := k)
      cases e : valG ys k with
      | none =>
        rw [e] at q
        rw [hv] at q
        cases q
      | some y =>
        rw [e] at q
        obtain ⟨u, h1, h2⟩ := q
        rw [hv] at h1
        cases h1
        have c' : cmpD x y = true ∧ cmpK xs ys = true := by simpa [cmpK, e] using c
        simp only [eqvK, e, Bool.and_eq_true]
        exact ⟨eqv_same nd x y c'.1 a h2, eqvK_same nd xs ys _ ws (fun kv h => sub kv (List.mem_cons_of_mem _ h)) no c'.2 r rk⟩
end

theorem KV.keys {us : List (Key × V)} {vs : List (Key × Value)} (h : KV us vs) : us.map (·.1) = vs.map (·.1) := by
  unfold KV at h
  induction h with
  | nil => rfl
  | cons h t ih => rw [List.map_cons, List.map_cons, h.1, ih]
theorem range_all_succ (n : Nat) (e : Nat → Bool) : (List.range (n + 1)).all e = (e 0 && (List.range n).all fun j => e (j + 1)) := by
  rw [List.range_succ_eq_map, List.all_cons, List.all_map]
  rfl
section
variable {X : Cx} {pins : List (Addr × Obj)} {σ : L2.St} {H Z : Hp} {s : Shared}
theorem nodup_Z (I : Inv X pins σ H s) (sub : Sub Z H) : ∀ p o us, Z p = some (.frz o (.dK us)) → (us.map (·.1)).Nodup := fun p o us e => by
  have rd : Rd H p (.dK us) := .inr ⟨o, sub.at e rfl⟩
  obtain ⟨_, _, vs, kv, o, es, ep, _, _, _, _, _, nd⟩ := rd.ok I.hok
  have ek := KV.keys kv
  rw [ek]
  exact nd
theorem rd_of (sub : Sub Z H) {p o us} (e : Z p = some (.frz o (.dK us))) : Rd H p (.dK us) := .inr ⟨o, sub.at e rfl⟩
theorem depth_step {n m k : Nat} (h : n + (max m k + 1) < cLine) : n + 1 + m < cLine ∧ n + 1 + k < cLine := by
  have := Nat.le_max_left m k
  have := Nat.le_max_right m k
  omega
/-- the item-wise == of two rows -/
def ItemsEq (P : Program) (w : World) (A : Around) (s : Shared) (us ws : List Value) (n m : Nat) (r : Bool) : Prop :=
  ∃ e : Nat → Bool, (∀ j (h1 : j < us.length) (h2 : j < ws.length), SeqAt.EqIn P w A s us[j] ws[j] (e j)) ∧ ((List.range (min n m)).all e && n == m) = r
theorem ItemsEq.cons {P w A s u us y ys n m b r} (h : SeqAt.EqIn P w A s u y b) (t : ItemsEq P w A s us ys n m r) : ItemsEq P w A s (u :: us) (y :: ys) (n + 1) (m + 1) (b && r) := by
  obtain ⟨e, he, hr⟩ := t
  refine ⟨fun j => match j with | 0 => b | j + 1 => e j, fun j h1 h2 => ?_, ?_⟩
  · cases j with
    | zero => exact h
    | succ j => exact he j (Nat.lt_of_succ_lt_succ h1) (Nat.lt_of_succ_lt_succ h2)
  · have e1 : min (n + 1) (m + 1) = min n m + 1 := by omega
    rw [e1, range_all_succ, ← hr]
    have e2 : (n + 1 == m + 1) = (n == m) := by simp
    rw [e2, Bool.and_assoc]
open SeqAt (EqIn EqAt) in
mutual
theorem eq_run (I : Inv X pins σ H s) (sub : Sub Z H) : ∀ (d e : D) (A : Around) {v u : V} {v' u' : Value}, cmpD d e = true → A.units + dpD d < cLine → Rep Z d v → Rep Z e u → RelV v v' → RelV u u' → EqIn X.prog X.w A s v' u' (eqvD d e)
  | .tup xs, e, A, v, u, v', u', c, hu, r, k, rv, ru => by
    cases r with
    | @tup p vs _ z r =>
      cases (show v' = Value.ref p from rv)
      obtain ⟨us, rl, pl, _⟩ := I.tuple (H := H) (.inl (.inl (sub.at z rfl)))
      have hu0 : A.units < cLine := by simp only [dpD] at hu; omega
      cases k with
      | @tup p2 ws ys z2 k =>
        cases (show u' = Value.ref p2 from ru)
        by_cases hp : p = p2
        · subst hp
          rw [eqv_same (nodup_Z I sub) (.tup xs) (.tup ys) c (.tup z r) (.tup z2 k)]
          exact (EqAt.same _).inModel _ _
        · obtain ⟨us2, rl2, pl2, _⟩ := I.tuple (H := H) (.inl (.inl (sub.at z2 rfl)))
          obtain ⟨f, hf, hr⟩ := eqL_run I sub xs ys A.in1 (by simpa [cmpD] using c) (by simp only [dpD] at hu; show A.units + 1 + _ < _; omega) r k rl rl2
          refine SeqAt.EqIn.of_refs hp fun E Q h => SeqAt.rcIn_tuples pl pl2 hu0 (fun j h1 h2 => hf j (by simpa using h1) (by simpa using h2)) ?_
          rw [List.size_toArray, List.size_toArray, ← rl.length, ← rl2.length, ← r.length, ← k.length, hr]
          exact h
      | @lst p2 ws ys z2 k =>
        cases (show u' = Value.ref p2 from ru)
        obtain ⟨us2, rl2, pl2, _⟩ := I.list (H := H) (.inl (.inl (sub.at z2 rfl)))
        exact (EqAt.tuple_list pl pl2.isList hu0).inModel _ _
      | non => cases ru; exact (EqAt.tuple_none pl hu0).inModel _ _
      | bl => cases ru; exact (EqAt.tuple_bool _ pl hu0).inModel _ _
      | int => obtain ⟨t, rfl⟩ := ru; exact (EqAt.tuple_int _ _ pl hu0).inModel _ _
      | str => obtain ⟨t, rfl⟩ := ru; exact (EqAt.tuple_str _ _ pl hu0).inModel _ _
      | _ => simp [cmpD] at c
  | .lst xs, e, A, v, u, v', u', c, hu, r, k, rv, ru => by
    cases r with
    | @lst p vs _ z r =>
      cases (show v' = Value.ref p from rv)
      obtain ⟨us, rl, pl, _⟩ := I.list (H := H) (.inl (.inl (sub.at z rfl)))
      have hu0 : A.units < cLine := by simp only [dpD] at hu; omega
      cases k with
      | @lst p2 ws ys z2 k =>
        cases (show u' = Value.ref p2 from ru)
        by_cases hp : p = p2
        · subst hp
          rw [eqv_same (nodup_Z I sub) (.lst xs) (.lst ys) c (.lst z r) (.lst z2 k)]
          exact (EqAt.same _).inModel _ _
        · obtain ⟨us2, rl2, pl2, _⟩ := I.list (H := H) (.inl (.inl (sub.at z2 rfl)))
          obtain ⟨f, hf, hr⟩ := eqL_run I sub xs ys A.in1 (by simpa [cmpD] using c) (by simp only [dpD] at hu; show A.units + 1 + _ < _; omega) r k rl rl2
          show EqIn _ _ _ _ _ _ (eqvL xs ys)
          by_cases hl : xs.length = ys.length
          · have hsz : us.toArray.size = us2.toArray.size := by rw [List.size_toArray, List.size_toArray, ← rl.length, ← rl2.length, ← r.length, ← k.length, hl]
            refine SeqAt.EqIn.of_refs hp fun E Q h => SeqAt.rcIn_lists pl.isList pl2.isList hsz hu0 (fun j h1 h2 => hf j (by simpa using h1) (by simpa using h2)) ?_
            rw [← hr] at h
            rw [List.size_toArray, ← rl.length, ← r.length]
            rw [hl, Nat.min_self, beq_self_eq_true, Bool.and_true] at h
            rw [hl]
            exact h
          · have hsz : (us.toArray.size != us2.toArray.size) = true := by
              rw [List.size_toArray, List.size_toArray, ← rl.length, ← rl2.length, ← r.length, ← k.length]
              simpa using hl
            have e0 : eqvL xs ys = false := by
              rw [← hr, beq_eq_false_iff_ne.mpr hl, Bool.and_false]
            rw [e0]
            exact (EqAt.of_refs hp (SeqAt.RcAt.lists_lengths pl.isList pl2.isList hsz hu0)).inModel _ _
      | @tup p2 ws ys z2 k =>
        cases (show u' = Value.ref p2 from ru)
        obtain ⟨us2, rl2, pl2, _⟩ := I.tuple (H := H) (.inl (.inl (sub.at z2 rfl)))
        exact (EqAt.list_tuple pl.isList pl2 hu0).inModel _ _
      | non => cases ru; exact (EqAt.list_none pl.isList hu0).inModel _ _
      | bl => cases ru; exact (EqAt.list_bool _ pl.isList hu0).inModel _ _
      | int => obtain ⟨t, rfl⟩ := ru; exact (EqAt.list_int _ _ pl.isList hu0).inModel _ _
      | str => obtain ⟨t, rfl⟩ := ru; exact (EqAt.list_str _ _ pl.isList hu0).inModel _ _
      | _ => simp [cmpD] at c
  | .dic xs, e, A, v, u, v', u', c, hu, r, k, rv, ru => by
    cases r with
    | @dic p _ vs _ z r =>
      cases (show v' = Value.ref p from rv)
      have hu0 : A.units < cLine := by simp only [dpD] at hu; omega
      cases k with
      | @dic p2 _ ws ys z2 k =>
        cases (show u' = Value.ref p2 from ru)
        by_cases hp : p = p2
        · subst hp
          rw [eqv_same (nodup_Z I sub) (.dic xs) (.dic ys) c (.dic z r) (.dic z2 k)]
          exact (EqAt.same _).inModel _ _
        · obtain ⟨_, s1, va, ra, da⟩ := dk_rd I.hok (rd_of sub z)
          obtain ⟨_, s2, vb, rb, db⟩ := dk_rd I.hok (rd_of sub z2)
          have hits := eqK_run I sub xs ys A.in1 (by simpa [cmpD] using c) (by simp only [dpD] at hu; show A.units + 1 + _ < _; omega) r k ra rb
          refine SeqAt.EqIn.of_refs hp fun E Q h => PySem.W.keq_eqIn s1 s2 da db hu0 (fun _ => hits) ?_
          rw [← ra.length, ← rb.length, ← r.length, ← k.length]
          exact h
      | _ => simp [cmpD] at c
  | .non, e, A, v, u, v', u', c, hu, r, k, rv, ru => by
    cases r
    cases (show v' = Value.none from rv)
    have hu0 : A.units < cLine := by simp only [dpD] at hu; omega
    cases k with
    | non => cases ru; exact (EqAt.same _).inModel _ _
    | bl => cases ru; exact (EqAt.none_bool _).inModel _ _
    | int => obtain ⟨t, rfl⟩ := ru; exact (EqAt.none_int _ _).inModel _ _
    | str => obtain ⟨t, rfl⟩ := ru; exact (EqAt.none_str _ _).inModel _ _
    | @tup p2 ws ys z2 k =>
      cases (show u' = Value.ref p2 from ru)
      obtain ⟨us2, rl2, pl2, _⟩ := I.tuple (H := H) (.inl (.inl (sub.at z2 rfl)))
      exact (EqAt.none_tuple pl2 hu0).inModel _ _
    | @lst p2 ws ys z2 k =>
      cases (show u' = Value.ref p2 from ru)
      obtain ⟨us2, rl2, pl2, _⟩ := I.list (H := H) (.inl (.inl (sub.at z2 rfl)))
      exact (EqAt.none_list pl2.isList hu0).inModel _ _
    | _ => simp [cmpD] at c
  | .bl a, e, A, v, u, v', u', c, hu, r, k, rv, ru => by
    cases r
    cases (show v' = Value.bool a from rv)
    have hu0 : A.units < cLine := by simp only [dpD] at hu; omega
    cases k with
    | non => cases ru; exact (EqAt.bool_none _).inModel _ _
    | bl => cases ru; exact (EqAt.bool_bool _ _).inModel _ _
    | int => obtain ⟨t, rfl⟩ := ru; exact (EqAt.bool_int _ _ _).inModel _ _
    | str => obtain ⟨t, rfl⟩ := ru; exact (EqAt.bool_str _ _ _).inModel _ _
    | @tup p2 ws ys z2 k =>
      cases (show u' = Value.ref p2 from ru)
      obtain ⟨us2, rl2, pl2, _⟩ := I.tuple (H := H) (.inl (.inl (sub.at z2 rfl)))
      exact (EqAt.bool_tuple _ pl2 hu0).inModel _ _
    | @lst p2 ws ys z2 k =>
      cases (show u' = Value.ref p2 from ru)
      obtain ⟨us2, rl2, pl2, _⟩ := I.list (H := H) (.inl (.inl (sub.at z2 rfl)))
      exact (EqAt.bool_list _ pl2.isList hu0).inModel _ _
    | _ => simp [cmpD] at c
  | .int a, e, A, v, u, v', u', c, hu, r, k, rv, ru => by
    cases r
    obtain ⟨ta, rfl⟩ := (show ∃ t, v' = Value.int a t from rv)
    have hu0 : A.units < cLine := by simp only [dpD] at hu; omega
    cases k with
    | non => cases ru; exact (EqAt.int_none _ _).inModel _ _
    | bl => cases ru; exact (EqAt.int_bool _ _ _).inModel _ _
    | int => obtain ⟨t, rfl⟩ := ru; exact (EqAt.int_int _ _ _ _).inModel _ _
    | str => obtain ⟨t, rfl⟩ := ru; exact (EqAt.int_str _ _ _ _).inModel _ _
    | @tup p2 ws ys z2 k =>
      cases (show u' = Value.ref p2 from ru)
      obtain ⟨us2, rl2, pl2, _⟩ := I.tuple (H := H) (.inl (.inl (sub.at z2 rfl)))
      exact (EqAt.int_tuple _ _ pl2 hu0).inModel _ _
    | @lst p2 ws ys z2 k =>
      cases (show u' = Value.ref p2 from ru)
      obtain ⟨us2, rl2, pl2, _⟩ := I.list (H := H) (.inl (.inl (sub.at z2 rfl)))
      exact (EqAt.int_list _ _ pl2.isList hu0).inModel _ _
    | _ => simp [cmpD] at c
  | .str a, e, A, v, u, v', u', c, hu, r, k, rv, ru => by
    cases r
    obtain ⟨ta, rfl⟩ := (show ∃ t, v' = Value.str a t from rv)
    have hu0 : A.units < cLine := by simp only [dpD] at hu; omega
    cases k with
    | non => cases ru; exact (EqAt.str_none _ _).inModel _ _
    | bl => cases ru; exact (EqAt.str_bool _ _ _).inModel _ _
    | int => obtain ⟨t, rfl⟩ := ru; exact (EqAt.str_int _ _ _ _).inModel _ _
    | str => obtain ⟨t, rfl⟩ := ru; exact (EqAt.str_str _ _ _ _).inModel _ _
    | @tup p2 ws ys z2 k =>
      cases (show u' = Value.ref p2 from ru)
      obtain ⟨us2, rl2, pl2, _⟩ := I.tuple (H := H) (.inl (.inl (sub.at z2 rfl)))
      exact (EqAt.str_tuple _ _ pl2 hu0).inModel _ _
    | @lst p2 ws ys z2 k =>
      cases (show u' = Value.ref p2 from ru)
      obtain ⟨us2, rl2, pl2, _⟩ := I.list (H := H) (.inl (.inl (sub.at z2 rfl)))
      exact (EqAt.str_list _ _ pl2.isList hu0).inModel _ _
    | _ => simp [cmpD] at c
  | .ty _, _, _, _, _, _, _, c, _, _, _, _, _ => by simp [cmpD] at c
  | .ref _, _, _, _, _, _, _, c, _, _, _, _, _ => by simp [cmpD] at c
  | .dct _, _, _, _, _, _, _, c, _, _, _, _, _ => by simp [cmpD] at c
theorem eqL_run (I : Inv X pins σ H s) (sub : Sub Z H) : ∀ (ds es : List D) (A : Around) {vs us : List V} {vs' us' : List Value}, cmpL ds es = true → A.units + dpL ds < cLine → Reps Z ds vs → Reps Z es us → Vals vs vs' → Vals us us' → ItemsEq X.prog X.w A s vs' us' ds.length es.length (eqvL ds es)
  | [], es, A, vs, us, vs', us', c, hu, r, k, rv, ru => by
    cases r
    cases rv
    refine ⟨fun _ => true, fun j h1 h2 => absurd h1 (Nat.not_lt_zero j), ?_⟩
    cases es <;> simp [eqvL]
  | x :: xs, es, A, vs, us, vs', us', c, hu, r, k, rv, ru => by
    cases es with
    | nil =>
      cases k
      cases ru
      exact ⟨fun _ => true, fun j h1 h2 => absurd h2 (Nat.not_lt_zero j), by simp [eqvL]⟩
    | cons y ys =>
      have c' : cmpD x y = true ∧ cmpL xs ys = true := by simpa [cmpL] using c
      cases r with
      | cons a r =>
        cases k with
        | cons b k =>
          cases rv with
          | cons va rv =>
            cases ru with
            | cons vb ru =>
              have hd : A.units + dpD x < cLine ∧ A.units + dpL xs < cLine := by
                simp only [dpL] at hu
                have := Nat.le_max_left (dpD x) (dpL xs)
                have := Nat.le_max_right (dpD x) (dpL xs)
                omega
              exact ItemsEq.cons (eq_run I sub x y A c'.1 hd.1 a b va vb) (eqL_run I sub xs ys A c'.2 hd.2 r k rv ru)
theorem eqK_run (I : Inv X pins σ H s) (sub : Sub Z H) : ∀ (ds es : List (Key × D)) (A : Around) {vs us : List (Key × V)} {vs' us' : List (Key × Value)}, cmpK ds es = true → A.units + dpK ds < cLine → RepK Z ds vs → RepK Z es us → KV vs vs' → KV us us' → PySem.W.KeqHitsIn X.prog X.w A s us' vs' (eqvK ds es)
  | [], es, A, vs, us, vs', us', c, hu, r, k, rv, ru => by
    cases r
    cases rv
    exact .nil
  | (kx, x) :: xs, es, A, vs, us, vs', us', c, hu, r, k, rv, ru => by
    cases r with
    | cons a r =>
      cases rv with
      | @cons _ q _ qs va rv =>
        obtain ⟨kq, vq⟩ := q
        obtain ⟨ek, va⟩ := va
        cases (show kx = kq from ek)
        have hv := ru.val kx
        have hd : A.units + dpD x < cLine ∧ A.units + dpK xs < cLine := by
          simp only [dpK] at hu
          have := Nat.le_max_left (dpD x) (dpK xs)
          have := Nat.le_max_right (dpD x) (dpK xs)
          omega
        have q := k.val (k := kx)
        cases e : valG es kx with
        | none =>
          rw [e] at q
          rw [q] at hv
          simp only [eqvK, e, Bool.false_and]
          refine .miss ?_
          cases z : valueAt us' kx with
          | none => rfl
          | some _ => rw [z] at hv; exact hv.elim
        | some y =>
          rw [e] at q
          obtain ⟨u, h1, h2⟩ := q
          rw [h1] at hv
          have c' : cmpD x y = true ∧ cmpK xs es = true := by simpa [cmpK, e] using c
          simp only [eqvK, e]
          cases z : valueAt us' kx with
          | none => rw [z] at hv; exact hv.elim
          | some u' =>
            rw [z] at hv
            exact .hit z (eq_run I sub x y A c'.1 hd.1 a h2 va hv) (eqK_run I sub xs es A c'.2 hd.2 r k rv ru)
end
end
end TD

set_option Elab.async false
set_option linter.all false
set_option maxRecDepth 100000
/-! TD: ==, != and repr as operators -/
namespace TD
open PySem PySem.Spec PyProof.Rows L2
section
variable {X : Cx} {pins : List (Addr × Obj)} {σ : L2.St} {H Z : Hp} {s : Shared}
theorem rc_run (I : Inv X pins σ H s) (sub : Sub Z H) : ∀ (d e : D) (A : Around) {v u : V} {v' u' : Value}, cmpD d e = true → A.units + dpD d < cLine → Rep Z d v → Rep Z e u → RelV v v' → RelV u u' → ∀ (E Q : Value → Shared → Prop), Q (.bool (eqvD d e)) s → wpAny (model X.prog X.w) A (richCompare .Eq v' u') Q E s
  | .tup xs, e, A, v, u, v', u', c, hu, r, k, rv, ru => fun E Q h => by
    cases r with
    | @tup p vs _ z r =>
      cases (show v' = Value.ref p from rv)
      obtain ⟨us, rl, pl, _⟩ := I.tuple (H := H) (.inl (.inl (sub.at z rfl)))
      have hu0 : A.units < cLine := by simp only [dpD] at hu; omega
      cases k with
      | @tup p2 ws ys z2 k =>
        cases (show u' = Value.ref p2 from ru)
        obtain ⟨us2, rl2, pl2, _⟩ := I.tuple (H := H) (.inl (.inl (sub.at z2 rfl)))
        obtain ⟨f, hf, hr⟩ := eqL_run I sub xs ys A.in1 (by simpa [cmpD] using c) (by simp only [dpD] at hu; show A.units + 1 + _ < _; omega) r k rl rl2
        refine SeqAt.rcIn_tuples pl pl2 hu0 (fun j h1 h2 => hf j (by simpa using h1) (by simpa using h2)) ?_
        rw [List.size_toArray, List.size_toArray, ← rl.length, ← rl2.length, ← r.length, ← k.length, hr]
        exact h
      | @lst p2 ws ys z2 k =>
        cases (show u' = Value.ref p2 from ru)
        obtain ⟨us2, rl2, pl2, _⟩ := I.list (H := H) (.inl (.inl (sub.at z2 rfl)))
        exact (SeqAt.RcAt.tuple_list pl pl2.isList hu0) _ _ E Q h
      | non => cases ru; exact (SeqAt.RcAt.tuple_none pl hu0) _ _ E Q h
      | bl => cases ru; exact (SeqAt.RcAt.tuple_bool _ pl hu0) _ _ E Q h
      | int => obtain ⟨t, rfl⟩ := ru; exact (SeqAt.RcAt.tuple_int _ _ pl hu0) _ _ E Q h
      | str => obtain ⟨t, rfl⟩ := ru; exact (SeqAt.RcAt.tuple_str _ _ pl hu0) _ _ E Q h
      | _ => simp [cmpD] at c
  | .lst xs, e, A, v, u, v', u', c, hu, r, k, rv, ru => fun E Q h => by
    cases r with
    | @lst p vs _ z r =>
      cases (show v' = Value.ref p from rv)
      obtain ⟨us, rl, pl, _⟩ := I.list (H := H) (.inl (.inl (sub.at z rfl)))
      have hu0 : A.units < cLine := by simp only [dpD] at hu; omega
      cases k with
      | @lst p2 ws ys z2 k =>
        cases (show u' = Value.ref p2 from ru)
        obtain ⟨us2, rl2, pl2, _⟩ := I.list (H := H) (.inl (.inl (sub.at z2 rfl)))
        obtain ⟨f, hf, hr⟩ := eqL_run I sub xs ys A.in1 (by simpa [cmpD] using c) (by simp only [dpD] at hu; show A.units + 1 + _ < _; omega) r k rl rl2
        replace h : Q (.bool (eqvL xs ys)) s := h
        by_cases hl : xs.length = ys.length
        · have hsz : us.toArray.size = us2.toArray.size := by rw [List.size_toArray, List.size_toArray, ← rl.length, ← rl2.length, ← r.length, ← k.length, hl]
          refine SeqAt.rcIn_lists pl.isList pl2.isList hsz hu0 (fun j h1 h2 => hf j (by simpa using h1) (by simpa using h2)) ?_
          rw [← hr] at h
          rw [List.size_toArray, ← rl.length, ← r.length]
          rw [hl, Nat.min_self, beq_self_eq_true, Bool.and_true] at h
          rw [hl]
          exact h
        · have hsz : (us.toArray.size != us2.toArray.size) = true := by
            rw [List.size_toArray, List.size_toArray, ← rl.length, ← rl2.length, ← r.length, ← k.length]
            simpa using hl
          have e0 : eqvL xs ys = false := by
            rw [← hr, beq_eq_false_iff_ne.mpr hl, Bool.and_false]
          rw [e0] at h
          exact SeqAt.RcAt.lists_lengths pl.isList pl2.isList hsz hu0 _ _ E Q h
      | @tup p2 ws ys z2 k =>
        cases (show u' = Value.ref p2 from ru)
        obtain ⟨us2, rl2, pl2, _⟩ := I.tuple (H := H) (.inl (.inl (sub.at z2 rfl)))
        exact (SeqAt.RcAt.list_tuple pl.isList pl2 hu0) _ _ E Q h
      | non => cases ru; exact (SeqAt.RcAt.list_none pl.isList hu0) _ _ E Q h
      | bl => cases ru; exact (SeqAt.RcAt.list_bool _ pl.isList hu0) _ _ E Q h
      | int => obtain ⟨t, rfl⟩ := ru; exact (SeqAt.RcAt.list_int _ _ pl.isList hu0) _ _ E Q h
      | str => obtain ⟨t, rfl⟩ := ru; exact (SeqAt.RcAt.list_str _ _ pl.isList hu0) _ _ E Q h
      | _ => simp [cmpD] at c
  | .dic xs, e, A, v, u, v', u', c, hu, r, k, rv, ru => fun E Q h => by
    cases r with
    | @dic p _ vs _ z r =>
      cases (show v' = Value.ref p from rv)
      have hu0 : A.units < cLine := by simp only [dpD] at hu; omega
      cases k with
      | @dic p2 _ ws ys z2 k =>
        cases (show u' = Value.ref p2 from ru)
        obtain ⟨_, s1, va, ra, da⟩ := dk_rd I.hok (rd_of sub z)
        obtain ⟨_, s2, vb, rb, db⟩ := dk_rd I.hok (rd_of sub z2)
        have hits := eqK_run I sub xs ys A.in1 (by simpa [cmpD] using c) (by simp only [dpD] at hu; show A.units + 1 + _ < _; omega) r k ra rb
        refine PySem.W.keq_eqIn s1 s2 da db hu0 (fun _ => hits) ?_
        rw [← ra.length, ← rb.length, ← r.length, ← k.length]
        exact h
      | _ => simp [cmpD] at c
  | .non, e, A, v, u, v', u', c, hu, r, k, rv, ru => fun E Q h => by
    cases r
    cases (show v' = Value.none from rv)
    have hu0 : A.units < cLine := by simp only [dpD] at hu; omega
    cases k with
    | non => cases ru; exact (SeqAt.RcAt.none_none) _ _ E Q h
    | bl => cases ru; exact (SeqAt.RcAt.none_bool _) _ _ E Q h
    | int => obtain ⟨t, rfl⟩ := ru; exact (SeqAt.RcAt.none_int _ _) _ _ E Q h
    | str => obtain ⟨t, rfl⟩ := ru; exact (SeqAt.RcAt.none_str _ _) _ _ E Q h
    | @tup p2 ws ys z2 k =>
      cases (show u' = Value.ref p2 from ru)
      obtain ⟨us2, rl2, pl2, _⟩ := I.tuple (H := H) (.inl (.inl (sub.at z2 rfl)))
      exact (SeqAt.RcAt.none_tuple pl2 hu0) _ _ E Q h
    | @lst p2 ws ys z2 k =>
      cases (show u' = Value.ref p2 from ru)
      obtain ⟨us2, rl2, pl2, _⟩ := I.list (H := H) (.inl (.inl (sub.at z2 rfl)))
      exact (SeqAt.RcAt.none_list pl2.isList hu0) _ _ E Q h
    | _ => simp [cmpD] at c
  | .bl a, e, A, v, u, v', u', c, hu, r, k, rv, ru => fun E Q h => by
    cases r
    cases (show v' = Value.bool a from rv)
    have hu0 : A.units < cLine := by simp only [dpD] at hu; omega
    cases k with
    | non => cases ru; exact (SeqAt.RcAt.bool_none _) _ _ E Q h
    | bl => cases ru; exact (SeqAt.RcAt.bool_bool _ _) _ _ E Q h
    | int => obtain ⟨t, rfl⟩ := ru; exact (SeqAt.RcAt.bool_int _ _ _) _ _ E Q h
    | str => obtain ⟨t, rfl⟩ := ru; exact (SeqAt.RcAt.bool_str _ _ _) _ _ E Q h
    | @tup p2 ws ys z2 k =>
      cases (show u' = Value.ref p2 from ru)
      obtain ⟨us2, rl2, pl2, _⟩ := I.tuple (H := H) (.inl (.inl (sub.at z2 rfl)))
      exact (SeqAt.RcAt.bool_tuple _ pl2 hu0) _ _ E Q h
    | @lst p2 ws ys z2 k =>
      cases (show u' = Value.ref p2 from ru)
      obtain ⟨us2, rl2, pl2, _⟩ := I.list (H := H) (.inl (.inl (sub.at z2 rfl)))
      exact (SeqAt.RcAt.bool_list _ pl2.isList hu0) _ _ E Q h
    | _ => simp [cmpD] at c
  | .int a, e, A, v, u, v', u', c, hu, r, k, rv, ru => fun E Q h => by
    cases r
    obtain ⟨ta, rfl⟩ := (show ∃ t, v' = Value.int a t from rv)
    have hu0 : A.units < cLine := by simp only [dpD] at hu; omega
    cases k with
    | non => cases ru; exact (SeqAt.RcAt.int_none _ _) _ _ E Q h
    | bl => cases ru; exact (SeqAt.RcAt.int_bool _ _ _) _ _ E Q h
    | int => obtain ⟨t, rfl⟩ := ru; exact (SeqAt.RcAt.int_int _ _ _ _) _ _ E Q h
    | str => obtain ⟨t, rfl⟩ := ru; exact (SeqAt.RcAt.int_str _ _ _ _) _ _ E Q h
    | @tup p2 ws ys z2 k =>
      cases (show u' = Value.ref p2 from ru)
      obtain ⟨us2, rl2, pl2, _⟩ := I.tuple (H := H) (.inl (.inl (sub.at z2 rfl)))
      exact (SeqAt.RcAt.int_tuple _ _ pl2 hu0) _ _ E Q h
    | @lst p2 ws ys z2 k =>
      cases (show u' = Value.ref p2 from ru)
      obtain ⟨us2, rl2, pl2, _⟩ := I.list (H := H) (.inl (.inl (sub.at z2 rfl)))
      exact (SeqAt.RcAt.int_list _ _ pl2.isList hu0) _ _ E Q h
    | _ => simp [cmpD] at c
  | .str a, e, A, v, u, v', u', c, hu, r, k, rv, ru => fun E Q h => by
    cases r
    obtain ⟨ta, rfl⟩ := (show ∃ t, v' = Value.str a t from rv)
    have hu0 : A.units < cLine := by simp only [dpD] at hu; omega
    cases k with
    | non => cases ru; exact (SeqAt.RcAt.str_none _ _) _ _ E Q h
    | bl => cases ru; exact (SeqAt.RcAt.str_bool _ _ _) _ _ E Q h
    | int => obtain ⟨t, rfl⟩ := ru; exact (SeqAt.RcAt.str_int _ _ _ _) _ _ E Q h
    | str => obtain ⟨t, rfl⟩ := ru; exact (SeqAt.RcAt.str_str _ _ _ _) _ _ E Q h
    | @tup p2 ws ys z2 k =>
      cases (show u' = Value.ref p2 from ru)
      obtain ⟨us2, rl2, pl2, _⟩ := I.tuple (H := H) (.inl (.inl (sub.at z2 rfl)))
      exact (SeqAt.RcAt.str_tuple _ _ pl2 hu0) _ _ E Q h
    | @lst p2 ws ys z2 k =>
      cases (show u' = Value.ref p2 from ru)
      obtain ⟨us2, rl2, pl2, _⟩ := I.list (H := H) (.inl (.inl (sub.at z2 rfl)))
      exact (SeqAt.RcAt.str_list _ _ pl2.isList hu0) _ _ E Q h
    | _ => simp [cmpD] at c
  | .ty _, _, _, _, _, _, _, c, _, _, _, _, _ => fun _ _ _ => by simp [cmpD] at c
  | .ref _, _, _, _, _, _, _, c, _, _, _, _, _ => fun _ _ _ => by simp [cmpD] at c
  | .dct _, _, _, _, _, _, _, c, _, _, _, _, _ => fun _ _ _ => by simp [cmpD] at c

def rEqT : R2 := fun x y H Q => ∃ Z d e, Sub Z H ∧ Rep Z d x ∧ Rep Z e y ∧ cmpD d e = true ∧ dpD d ≤ 60 ∧ Q (.bl (eqvD d e)) H
theorem op_eqT (hu : X.A.units + 64 < cLine) : OpR X (compareOp .Eq) rEqT := by
  intro pins s σ H x y v u Q I rx ry h
  obtain ⟨Z, d, e, sub, r1, r2, c, hd, q⟩ := h
  exact rc_run I sub d e X.A c (by omega) r1 r2 rx ry _ _ ⟨.bl _, H, I, rfl, q⟩
def wEq : DOF := fun x y O Q => cmpD x y = true ∧ dpD x ≤ 60 ∧ Q (.bl (eqvD x y)) O
theorem o_eq (hu : X.A.units + 64 < cLine) : DOp X (compareOp .Eq) wEq := by
  refine ⟨_, op_eqT hu, fun Z H O x y vx vy Q R ro rx ry w po => ?_⟩
  obtain ⟨c, hd, q⟩ := w
  exact ⟨Z, x, y, ro.sub, rx, ry, c, hd, po _ _ _ _ _ (Same.refl _) ro .bl q⟩
def neK : D → D → Bool
  | .tup _, .tup _ => false
  | .lst _, .lst _ => false
  | _, _ => true
theorem ne_dicts {P : Program} {w : World} {K : Type} [DecidableEq K] {knd : KeyKind P w K} {A : Around} {E : Value → Shared → Prop} {a b : Addr} {ka kb : List (K × Value)} {r : Bool} {Q : Value → Shared → Prop} (ha : (a == sysModules) = false) (hb : (b == sysModules) = false)
    (da : s.heap.DictOf knd a ka) (db : s.heap.DictOf knd b kb) (hu : A.units < cLine) (hits : ka.length = kb.length → PySem.W.KeqHitsIn P w A.in1 s kb ka r) (h : Q (.bool (!(ka.length == kb.length && r))) s) :
    wpAny (model P w) A (richCompare .NotEq (.ref a) (.ref b)) Q E s := by
  refine wpAny_richCompare_same_room (op := .NotEq) da.typeIs db.typeIs PySem.F.slot_dict_ne (wpAny_call_entry PySem.F.slot_dict_ne da.typeIs PySem.F.entry_dict_ne ?_ (PySem.F.args_dict_ne_2 _ _)) hu
  show wpAny _ _ (Builtin.Dict.dictSlotArgs "__ne__" ⟨[.ref a, .ref b], []⟩ >>= _) _ _ s
  unfold Builtin.Dict.dictSlotArgs
  refine wpAny_bind (wpAny_bind (wpAny_notOrdered_dict da.typeIs (wpAny_pure (wpAny_bind (wpAny_isInstance (T := "dict") db.typeIs PySem.F.sub_dict_dict ?_)))))
  simp only [Bool.not_true, Bool.false_eq_true, if_false]
  refine wpAny_bind (wpAny_pure ?_)
  refine wpAny_bind (wpAny_pure ?_)
  refine wpAny_bind (PySem.W.keq_samePairsIn ha hb da db hits ?_)
  refine wpAny_pure ⟨_, rfl, ?_, ?_⟩
  · exact fun x => nomatch x
  · simpa using h
theorem ne_run (I : Inv X pins σ H s) (sub : Sub Z H) : ∀ (d e : D) (A : Around) {v u : V} {v' u' : Value}, cmpD d e = true → A.units + dpD d < cLine → neK d e = true → Rep Z d v → Rep Z e u → RelV v v' → RelV u u' → ∀ (E Q : Value → Shared → Prop), Q (.bool (!eqvD d e)) s → wpAny (model X.prog X.w) A (richCompare .NotEq v' u') Q E s
  | .tup xs, e, A, v, u, v', u', c, hu, ne, r, k, rv, ru => fun E Q h => by
    cases r with
    | @tup p vs _ z r =>
      cases (show v' = Value.ref p from rv)
      obtain ⟨us, rl, pl, _⟩ := I.tuple (H := H) (.inl (.inl (sub.at z rfl)))
      have hu0 : A.units < cLine := by simp only [dpD] at hu; omega
      cases k with
      | @tup p2 ws ys z2 k =>
        cases (show u' = Value.ref p2 from ru)
        simp [neK] at ne
      | @lst p2 ws ys z2 k =>
        cases (show u' = Value.ref p2 from ru)
        obtain ⟨us2, rl2, pl2, _⟩ := I.list (H := H) (.inl (.inl (sub.at z2 rfl)))
        exact (SeqAt.RcNeAt.tuple_list pl pl2.isList hu0) _ _ E Q h
      | non => cases ru; exact (SeqAt.RcNeAt.tuple_none pl hu0) _ _ E Q h
      | bl => cases ru; exact (SeqAt.RcNeAt.tuple_bool _ pl hu0) _ _ E Q h
      | int => obtain ⟨t, rfl⟩ := ru; exact (SeqAt.RcNeAt.tuple_int _ _ pl hu0) _ _ E Q h
      | str => obtain ⟨t, rfl⟩ := ru; exact (SeqAt.RcNeAt.tuple_str _ _ pl hu0) _ _ E Q h
      | _ => simp [cmpD] at c
  | .lst xs, e, A, v, u, v', u', c, hu, ne, r, k, rv, ru => fun E Q h => by
    cases r with
    | @lst p vs _ z r =>
      cases (show v' = Value.ref p from rv)
      obtain ⟨us, rl, pl, _⟩ := I.list (H := H) (.inl (.inl (sub.at z rfl)))
      have hu0 : A.units < cLine := by simp only [dpD] at hu; omega
      cases k with
      | @lst p2 ws ys z2 k =>
        cases (show u' = Value.ref p2 from ru)
        simp [neK] at ne
      | @tup p2 ws ys z2 k =>
        cases (show u' = Value.ref p2 from ru)
        obtain ⟨us2, rl2, pl2, _⟩ := I.tuple (H := H) (.inl (.inl (sub.at z2 rfl)))
        exact (SeqAt.RcNeAt.list_tuple pl.isList pl2 hu0) _ _ E Q h
      | non => cases ru; exact (SeqAt.RcNeAt.list_none pl.isList hu0) _ _ E Q h
      | bl => cases ru; exact (SeqAt.RcNeAt.list_bool _ pl.isList hu0) _ _ E Q h
      | int => obtain ⟨t, rfl⟩ := ru; exact (SeqAt.RcNeAt.list_int _ _ pl.isList hu0) _ _ E Q h
      | str => obtain ⟨t, rfl⟩ := ru; exact (SeqAt.RcNeAt.list_str _ _ pl.isList hu0) _ _ E Q h
      | _ => simp [cmpD] at c
  | .dic xs, e, A, v, u, v', u', c, hu, ne, r, k, rv, ru => fun E Q h => by
    cases r with
    | @dic p _ vs _ z r =>
      cases (show v' = Value.ref p from rv)
      have hu0 : A.units < cLine := by simp only [dpD] at hu; omega
      cases k with
      | @dic p2 _ ws ys z2 k =>
        cases (show u' = Value.ref p2 from ru)
        obtain ⟨_, s1, va, ra, da⟩ := dk_rd I.hok (rd_of sub z)
        obtain ⟨_, s2, vb, rb, db⟩ := dk_rd I.hok (rd_of sub z2)
        have hits := eqK_run I sub xs ys A.in1 (by simpa [cmpD] using c) (by simp only [dpD] at hu; show A.units + 1 + _ < _; omega) r k ra rb
        refine ne_dicts s1 s2 da db hu0 (fun _ => hits) ?_
        rw [← ra.length, ← rb.length, ← r.length, ← k.length]
        exact h
      | _ => simp [cmpD] at c
  | .non, e, A, v, u, v', u', c, hu, ne, r, k, rv, ru => fun E Q h => by
    cases r
    cases (show v' = Value.none from rv)
    have hu0 : A.units < cLine := by simp only [dpD] at hu; omega
    cases k with
    | non => cases ru; exact (SeqAt.RcNeAt.none_none) _ _ E Q h
    | bl => cases ru; exact (SeqAt.RcNeAt.none_bool _) _ _ E Q h
    | int => obtain ⟨t, rfl⟩ := ru; exact (SeqAt.RcNeAt.none_int _ _) _ _ E Q h
    | str => obtain ⟨t, rfl⟩ := ru; exact (SeqAt.RcNeAt.none_str _ _) _ _ E Q h
    | @tup p2 ws ys z2 k =>
      cases (show u' = Value.ref p2 from ru)
      obtain ⟨us2, rl2, pl2, _⟩ := I.tuple (H := H) (.inl (.inl (sub.at z2 rfl)))
      exact (SeqAt.RcNeAt.none_tuple pl2 hu0) _ _ E Q h
    | @lst p2 ws ys z2 k =>
      cases (show u' = Value.ref p2 from ru)
      obtain ⟨us2, rl2, pl2, _⟩ := I.list (H := H) (.inl (.inl (sub.at z2 rfl)))
      exact (SeqAt.RcNeAt.none_list pl2.isList hu0) _ _ E Q h
    | _ => simp [cmpD] at c
  | .bl a, e, A, v, u, v', u', c, hu, ne, r, k, rv, ru => fun E Q h => by
    cases r
    cases (show v' = Value.bool a from rv)
    have hu0 : A.units < cLine := by simp only [dpD] at hu; omega
    cases k with
    | non => cases ru; exact (SeqAt.RcNeAt.bool_none _) _ _ E Q h
    | bl => cases ru; exact (SeqAt.RcNeAt.bool_bool _ _) _ _ E Q h
    | int => obtain ⟨t, rfl⟩ := ru; exact (SeqAt.RcNeAt.bool_int _ _ _) _ _ E Q h
    | str => obtain ⟨t, rfl⟩ := ru; exact (SeqAt.RcNeAt.bool_str _ _ _) _ _ E Q h
    | @tup p2 ws ys z2 k =>
      cases (show u' = Value.ref p2 from ru)
      obtain ⟨us2, rl2, pl2, _⟩ := I.tuple (H := H) (.inl (.inl (sub.at z2 rfl)))
      exact (SeqAt.RcNeAt.bool_tuple _ pl2 hu0) _ _ E Q h
    | @lst p2 ws ys z2 k =>
      cases (show u' = Value.ref p2 from ru)
      obtain ⟨us2, rl2, pl2, _⟩ := I.list (H := H) (.inl (.inl (sub.at z2 rfl)))
      exact (SeqAt.RcNeAt.bool_list _ pl2.isList hu0) _ _ E Q h
    | _ => simp [cmpD] at c
  | .int a, e, A, v, u, v', u', c, hu, ne, r, k, rv, ru => fun E Q h => by
    cases r
    obtain ⟨ta, rfl⟩ := (show ∃ t, v' = Value.int a t from rv)
    have hu0 : A.units < cLine := by simp only [dpD] at hu; omega
    cases k with
    | non => cases ru; exact (SeqAt.RcNeAt.int_none _ _) _ _ E Q h
    | bl => cases ru; exact (SeqAt.RcNeAt.int_bool _ _ _) _ _ E Q h
    | int => obtain ⟨t, rfl⟩ := ru; exact (SeqAt.RcNeAt.int_int _ _ _ _) _ _ E Q h
    | str => obtain ⟨t, rfl⟩ := ru; exact (SeqAt.RcNeAt.int_str _ _ _ _) _ _ E Q h
    | @tup p2 ws ys z2 k =>
      cases (show u' = Value.ref p2 from ru)
      obtain ⟨us2, rl2, pl2, _⟩ := I.tuple (H := H) (.inl (.inl (sub.at z2 rfl)))
      exact (SeqAt.RcNeAt.int_tuple _ _ pl2 hu0) _ _ E Q h
    | @lst p2 ws ys z2 k =>
      cases (show u' = Value.ref p2 from ru)
      obtain ⟨us2, rl2, pl2, _⟩ := I.list (H := H) (.inl (.inl (sub.at z2 rfl)))
      exact (SeqAt.RcNeAt.int_list _ _ pl2.isList hu0) _ _ E Q h
    | _ => simp [cmpD] at c
  | .str a, e, A, v, u, v', u', c, hu, ne, r, k, rv, ru => fun E Q h => by
    cases r
    obtain ⟨ta, rfl⟩ := (show ∃ t, v' = Value.str a t from rv)
    have hu0 : A.units < cLine := by simp only [dpD] at hu; omega
    cases k with
    | non => cases ru; exact (SeqAt.RcNeAt.str_none _ _) _ _ E Q h
    | bl => cases ru; exact (SeqAt.RcNeAt.str_bool _ _ _) _ _ E Q h
    | int => obtain ⟨t, rfl⟩ := ru; exact (SeqAt.RcNeAt.str_int _ _ _ _) _ _ E Q h
    | str => obtain ⟨t, rfl⟩ := ru; exact (SeqAt.RcNeAt.str_str _ _ _ _) _ _ E Q h
    | @tup p2 ws ys z2 k =>
      cases (show u' = Value.ref p2 from ru)
      obtain ⟨us2, rl2, pl2, _⟩ := I.tuple (H := H) (.inl (.inl (sub.at z2 rfl)))
      exact (SeqAt.RcNeAt.str_tuple _ _ pl2 hu0) _ _ E Q h
    | @lst p2 ws ys z2 k =>
      cases (show u' = Value.ref p2 from ru)
      obtain ⟨us2, rl2, pl2, _⟩ := I.list (H := H) (.inl (.inl (sub.at z2 rfl)))
      exact (SeqAt.RcNeAt.str_list _ _ pl2.isList hu0) _ _ E Q h
    | _ => simp [cmpD] at c
  | .ty _, _, _, _, _, _, _, c, _, _, _, _, _, _ => fun _ _ _ => by simp [cmpD] at c
  | .ref _, _, _, _, _, _, _, c, _, _, _, _, _, _ => fun _ _ _ => by simp [cmpD] at c
  | .dct _, _, _, _, _, _, _, c, _, _, _, _, _, _ => fun _ _ _ => by simp [cmpD] at c


def rNeT : R2 := fun x y H Q => ∃ Z d e, Sub Z H ∧ Rep Z d x ∧ Rep Z e y ∧ cmpD d e = true ∧ neK d e = true ∧ dpD d ≤ 60 ∧ Q (.bl (!eqvD d e)) H
theorem op_neT (hu : X.A.units + 64 < cLine) : OpR X (compareOp .NotEq) rNeT := by
  intro pins s σ H x y v u Q I rx ry h
  obtain ⟨Z, d, e, sub, r1, r2, c, n, hd, q⟩ := h
  exact ne_run I sub d e X.A c (by omega) n r1 r2 rx ry _ _ ⟨.bl _, H, I, rfl, q⟩
def wNe : DOF := fun x y O Q => cmpD x y = true ∧ neK x y = true ∧ dpD x ≤ 60 ∧ Q (.bl (!eqvD x y)) O
theorem o_ne (hu : X.A.units + 64 < cLine) : DOp X (compareOp .NotEq) wNe := by
  refine ⟨_, op_neT hu, fun Z H O x y vx vy Q R ro rx ry w po => ?_⟩
  obtain ⟨c, n, hd, q⟩ := w
  exact ⟨Z, x, y, ro.sub, rx, ry, c, n, hd, po _ _ _ _ _ (Same.refl _) ro .bl q⟩
end
end TD

set_option Elab.async false
set_option linter.all false
set_option maxRecDepth 100000
/-! TD: repr of trees -/
namespace TD
open PySem PySem.Spec PyProof.Rows L2

def keyPy : Key → PyData
  | .inl i => .int i
  | .inr x => .str x
mutual
def toPy : D → PyData
  | .bl b => .bool b
  | .int i => .int i
  | .str x => .str x
  | .tup ds => .tuple (toPyL ds)
  | .lst ds => .list (toPyL ds)
  | .dic kvs => .dict (toPyK kvs)
  | _ => .none
def toPyL : List D → List PyData
  | [] => []
  | d :: r => toPy d :: toPyL r
def toPyK : List (Key × D) → List (PyData × PyData)
  | [] => []
  | (k, d) :: r => (keyPy k, toPy d) :: toPyK r
end
mutual
/-- trees that are data -/
def datD : D → Bool
  | .tup ds => datL ds
  | .lst ds => datL ds
  | .dic kvs => datK kvs
  | .ref _ => false
  | .ty _ => false
  | .dct _ => false
  | _ => true
def datL : List D → Bool
  | [] => true
  | d :: r => datD d && datL r
def datK : List (Key × D) → Bool
  | [] => true
  | (_, d) :: r => datD d && datK r
end
theorem toPyK_fst : ∀ kvs, (toPyK kvs).map (·.1) = kvs.map fun kv => keyPy kv.1
  | [] => rfl
  | (k, d) :: r => by simp [toPyK, toPyK_fst r]
theorem toPyK_snd : ∀ kvs, (toPyK kvs).map (·.2) = toPyL (kvs.map (·.2))
  | [] => rfl
  | (k, d) :: r => by simp [toPyK, toPyL, toPyK_snd r]
theorem datK_snd : ∀ kvs, datK kvs = datL (kvs.map (·.2))
  | [] => rfl
  | (k, d) :: r => by simp [datK, datL, datK_snd r]
/-- no list or dict on the way is sys.modules -/
def Safe (as : List Addr) : Prop := sysModules ∉ as
theorem Safe.app {as bs} (a : Safe as) (b : Safe bs) : Safe (as ++ bs) := fun h => (List.mem_append.mp h).elim a b
theorem Safe.cons {a : Addr} {as} (h : a ≠ sysModules) (b : Safe as) : Safe (a :: as) := fun m => (List.mem_cons.mp m).elim (fun e => h e.symm) b
theorem keys_read {P : Program} {w : World} {h : Heap} : ∀ {es : List DictEntry} {vs : List (Key × Value)}, Pairs (mixKind P w) es vs → ∃ as, Safe as ∧ ReadsAll h (es.map (·.key)) (vs.map fun kv => keyPy kv.1) as
  | _, _, .nil => ⟨[], (fun h => nomatch h), .nil⟩
  | _, _, .cons (kv := kv) hk _ t => by
    obtain ⟨as, sa, ra⟩ := keys_read (h := h) t
    rcases keyIs_shape hk with ⟨i, t, e1, e2⟩ | ⟨x, t, e1, e2⟩
    · refine ⟨[] ++ as, sa, .cons ?_ ra⟩
      simp only [e1, e2]
      exact .int _ _
    · refine ⟨[] ++ as, sa, .cons ?_ ra⟩
      simp only [e1, e2]
      exact .str _ _
theorem vals_eq {P : Program} {w : World} : ∀ {es : List DictEntry} {vs : List (Key × Value)}, Pairs (mixKind P w) es vs → es.map (·.val) = vs.map (·.2)
  | _, _, .nil => rfl
  | _, _, .cons hk hv t => by simp [hv, vals_eq t]
theorem RepK.snd {Z : Hp} : ∀ {kvs us}, RepK Z kvs us → Reps Z (kvs.map (·.2)) (us.map (·.2))
  | _, _, .nil => .nil
  | _, _, .cons a r => .cons a (RepK.snd r)
theorem KV.snd {us : List (Key × V)} {vs : List (Key × Value)} (h : KV us vs) : Vals (us.map (·.2)) (vs.map (·.2)) := by
  unfold KV at h
  induction h with
  | nil => exact .nil
  | cons h t ih => exact .cons h.2 ih
section
variable {X : Cx} {pins : List (Addr × Obj)} {σ : L2.St} {H Z : Hp} {s : Shared} {b : Bool}
mutual
theorem reads_run (I : Inv X pins σ H s) (sub : Sub Z H) (big : b = true → ∀ p xs, H p = some (.lst xs) → p ≠ sysModules) : ∀ (d : D) {v : V} {v' : Value}, datD d = true → Rep Z d v → RelV v v' → ∃ as, (b = true → Safe as) ∧ Reads s.heap v' (toPy d) as
  | .tup xs, v, v', c, r, rv => by
    cases r with
    | @tup p vs _ z r =>
      cases (show v' = Value.ref p from rv)
      obtain ⟨us, rl, pl, _⟩ := I.tuple (H := H) (.inl (.inl (sub.at z rfl)))
      obtain ⟨as, sa, ra⟩ := readsL_run I sub big xs (by simpa [datD] using c) r rl
      obtain ⟨o, ho, hc, n, hd⟩ := pl
      exact ⟨as, sa, .tuple ho hc hd (by simpa using ra)⟩
  | .lst xs, v, v', c, r, rv => by
    cases r with
    | @lst p vs _ z r =>
      cases (show v' = Value.ref p from rv)
      have hH := sub.at z rfl
      obtain ⟨us, rl, pl, _⟩ := I.list (H := H) (.inl (.inl hH))
      obtain ⟨as, sa, ra⟩ := readsL_run I sub big xs (by simpa [datD] using c) r rl
      obtain ⟨o, ho, hc, n, hd⟩ := pl.isList
      exact ⟨p :: as, fun hb => (sa hb).cons (big hb _ _ hH), .list ho hc hd (by simpa using ra)⟩
  | .dic xs, v, v', c, r, rv => by
    cases r with
    | @dic p _ vs _ z r =>
      cases (show v' = Value.ref p from rv)
      obtain ⟨_, s1, va, ra, o, es, ep, ho, hx, hd, hk, hp, _⟩ := dk_rd I.hok (rd_of sub z)
      obtain ⟨as, sa, ka⟩ := keys_read (h := s.heap) hp
      obtain ⟨bs, sb, kb⟩ := readsK_run I sub big xs (by simpa [datD] using c) r ra
      have e1 : (va.map fun kv => keyPy kv.1) = (toPyK xs).map (·.1) := by
        rw [toPyK_fst]
        have q := congrArg (List.map keyPy) ((KV.keys ra).symm.trans r.keys.symm)
        simpa [List.map_map, Function.comp_def] using q
      refine ⟨p :: as ++ bs, fun hb => (sa.cons (fun e => by simp [e] at s1)).app (sb hb), .dict ho hx.1 hd ?_ ?_⟩
      · rw [← e1]; exact ka
      · rw [vals_eq hp]; exact kb
  | .non, v, v', c, r, rv => by cases r; cases rv; exact ⟨[], (fun _ h => nomatch h), .none⟩
  | .bl _, v, v', c, r, rv => by cases r; cases rv; exact ⟨[], (fun _ h => nomatch h), .bool _⟩
  | .int i, v, v', c, r, rv => by cases r; obtain ⟨t, rfl⟩ := rv; exact ⟨[], (fun _ h => nomatch h), .int i t⟩
  | .str x, v, v', c, r, rv => by cases r; obtain ⟨t, rfl⟩ := rv; exact ⟨[], (fun _ h => nomatch h), .str x t⟩
  | .ty _, _, _, c, _, _ => by simp [datD] at c
  | .ref _, _, _, c, _, _ => by simp [datD] at c
  | .dct _, _, _, c, _, _ => by simp [datD] at c
theorem readsL_run (I : Inv X pins σ H s) (sub : Sub Z H) (big : b = true → ∀ p xs, H p = some (.lst xs) → p ≠ sysModules) : ∀ (ds : List D) {vs : List V} {vs' : List Value}, datL ds = true → Reps Z ds vs → Vals vs vs' → ∃ as, (b = true → Safe as) ∧ ReadsAll s.heap vs' (toPyL ds) as
  | [], vs, vs', c, r, rv => by
    cases r
    cases rv
    exact ⟨[], (fun _ h => nomatch h), .nil⟩
  | x :: xs, vs, vs', c, r, rv => by
    cases r with
    | cons a r =>
      cases rv with
      | cons va rv =>
        have c' : datD x = true ∧ datL xs = true := by simpa [datL] using c
        obtain ⟨as, sa, ra⟩ := reads_run I sub big x c'.1 a va
        obtain ⟨bs, sb, rb⟩ := readsL_run I sub big xs c'.2 r rv
        exact ⟨as ++ bs, fun hb => (sa hb).app (sb hb), .cons ra rb⟩
theorem readsK_run (I : Inv X pins σ H s) (sub : Sub Z H) (big : b = true → ∀ p xs, H p = some (.lst xs) → p ≠ sysModules) : ∀ (ds : List (Key × D)) {vs : List (Key × V)} {vs' : List (Key × Value)}, datK ds = true → RepK Z ds vs → KV vs vs' → ∃ as, (b = true → Safe as) ∧ ReadsAll s.heap (vs'.map (·.2)) ((toPyK ds).map (·.2)) as
  | [], vs, vs', c, r, rv => by
    cases r
    cases rv
    exact ⟨[], (fun _ h => nomatch h), .nil⟩
  | (k, x) :: xs, vs, vs', c, r, rv => by
    cases r with
    | cons a r =>
      cases rv with
      | cons va rv =>
        have c' : datD x = true ∧ datK xs = true := by simpa [datK] using c
        obtain ⟨as, sa, ra⟩ := reads_run I sub big x c'.1 a va.2
        obtain ⟨bs, sb, rb⟩ := readsK_run I sub big xs c'.2 r rv
        exact ⟨as ++ bs, fun hb => (sa hb).app (sb hb), .cons ra rb⟩
end
end

/-! ### repr(x) -/
def reprD (d : D) : Str := (toPy d).shown
def showD (d : D) : Bool := (toPy d).showable
section
variable {X : Cx}
def refD : D → Bool | .tup _ => true | .lst _ => true | .dic _ => true | _ => false
def rReprT : List V → Hp → VK → Prop := fun xs H Q => ∃ Z d v, xs = [v] ∧ Sub Z H ∧ Rep Z d v ∧ refD d = true ∧ (toPy d).hasDict = false ∧ datD d = true ∧ showD d = true ∧ (toPy d).depth ≤ 60 ∧ (reprD d).length ≤ sizeLine ∧ Q (.str (reprD d)) H
theorem cr_reprT (hg : X.A.guards = some []) (hu : X.A.units + 64 < cLine) : CallR X (.builtin "repr") rReprT := by
  intro pins s σ H xs us Q I rv h
  obtain ⟨Z, d, v, rfl, sub, r, rf, nd, dt, sh, dp, sz, q⟩ := h
  obtain ⟨v', rfl, rv1⟩ := vals1 rv
  obtain ⟨as, _, rd⟩ := reads_run (b := false) I sub (fun h => by cases h) d dt r rv1
  obtain ⟨a, rfl⟩ : ∃ a, v' = .ref a := by
    cases r with
    | tup => exact ⟨_, rv1⟩
    | lst => exact ⟨_, rv1⟩
    | dic => exact ⟨_, rv1⟩
    | _ => simp [refD] at rf
  refine repr_of_reads' rd sh (PyData.noDict_hsm nd) hg (by omega) (fun _ _ e => e) (fun h' u tk hk => ?_) sz
  exact ⟨.str _, H, I.kept hk, ⟨_, rfl⟩, q⟩
def wRepr1 (d : D) (O : OO) (Q : D → OO → Prop) : Prop := match d with
  | .int i => i.natAbs.log2 < 1920 ∧ Q (.str (toString i)) O
  | d => refD d = true ∧ (toPy d).hasDict = false ∧ datD d = true ∧ showD d = true ∧ (toPy d).depth ≤ 60 ∧ (reprD d).length ≤ sizeLine ∧ Q (.str (reprD d)) O
def wRepr : DLF := fun ds O Q => match ds with
  | [d] => wRepr1 d O Q
  | _ => False
theorem c_repr (hg : X.A.guards = some []) (hu : X.A.units + 64 < cLine) : DCall X (.builtin "repr") wRepr := by
  refine ⟨_, CallR.or SkE.call_repr_int (cr_reprT hg hu), fun Z H O ds vs Q R ro r w po => ?_⟩
  match ds, vs, r, w with
  | [], _, .nil, w => exact w.elim
  | d :: e :: l, _, _, w => exact w.elim
  | [d], _, .cons (v := v) r .nil, w =>
    by_cases hi : ∃ i, d = .int i
    · obtain ⟨i, rfl⟩ := hi
      cases r
      exact .inl ⟨i, rfl, w.1, po _ _ _ _ _ (Same.refl _) ro .str w.2⟩
    · have w' : refD d = true ∧ (toPy d).hasDict = false ∧ datD d = true ∧ showD d = true ∧ (toPy d).depth ≤ 60 ∧ (reprD d).length ≤ sizeLine ∧ Q (.str (reprD d)) O := by
        cases d <;> first | exact w | exact absurd ⟨_, rfl⟩ hi
      obtain ⟨h1, h0, h2, h3, h4, h5, q⟩ := w'
      exact .inr ⟨Z, d, v, rfl, ro.sub, r, h1, h0, h2, h3, h4, h5, po _ _ _ _ _ (Same.refl _) ro .str q⟩
end
end TD

set_option Elab.async false
set_option linter.all false
set_option maxRecDepth 100000
/-! TD: subscripts, dicts, in, slices -/
namespace TD
open PySem PySem.Spec PyProof.Rows L2

def keyD : D → Option Key
  | .int i => some (.inl i)
  | .str x => some (.inr x)
  | _ => none
theorem keyD_ok {Z d v k} (r : Rep Z d v) (h : keyD d = some k) : v = kV k := by
  cases r <;> first | (cases h; rfl) | cases h
def keyE : Key → D
  | .inl i => .int i
  | .inr x => .str x
@[simp] theorem keyD_keyE (k : Key) : keyD (keyE k) = some k := by cases k <;> rfl
def asSM : Option MO → Option (List D)
  | some (.lst ds) => some ds
  | _ => none
/-- a list or tuple -/
def asS (d : D) (O : OO) : Option (List D) := match d with
  | .lst ds => some ds
  | .tup ds => some ds
  | .ref a => asLM (O a)
  | _ => none
theorem asS_ok {Z H : Hp} {O : OO} {d : D} {v : V} {ds : List D} (K : PySem.W.Frag) (ro : RelO Z H O) (r : Rep Z d v) (h : asS d O = some ds) : ∃ p vs, v = .ref p ∧ (SqL K H p vs ∨ SqT K H p vs) ∧ Reps Z ds vs := by
  by_cases ht : ∃ es, d = .tup es
  · obtain ⟨es, rfl⟩ := ht
    cases h
    obtain ⟨p, vs, rfl, hp, r⟩ := tup_ok ro r
    exact ⟨p, vs, rfl, .inr (.inl (.inl hp)), r⟩
  · have h' : asL d O = some ds := by
      cases d <;> first | exact h | exact absurd ⟨_, rfl⟩ ht
    obtain ⟨p, vs, rfl, hp, r⟩ := asL_ok ro r h'
    exact ⟨p, vs, rfl, .inl (.inl (.inl hp)), r⟩
theorem atI_rep {Z : Hp} {ds : List D} {vs : List V} {i : Int} {d : D} (r : Reps Z ds vs) (h : atI ds i = some d) : ∃ v, atI vs i = some v ∧ Rep Z d v := by
  unfold atI at h ⊢
  rw [← r.length]
  cases e : ixN ds.length i with
  | none => rw [e] at h; cases h
  | some j =>
    rw [e] at h
    exact r.get h

theorem RepK.val_some {Z : Hp} {kvs us} {k : Key} {d : D} (r : RepK Z kvs us) (h : valG kvs k = some d) : ∃ v, valV us k = some v ∧ Rep Z d v := by
  have q := r.val (k := k)
  rw [h] at q
  exact q
theorem RepK.val_none {Z : Hp} {kvs us} {k : Key} (r : RepK Z kvs us) (h : valG kvs k = none) : valV us k = none := by
  have q := r.val (k := k)
  rw [h] at q
  exact q
/-! ### a[i] -/
def ixL (ds : List D) (k : D) (Q : D → Prop) : Prop := match k with | .int i => ∃ d, atI ds i = some d ∧ Q d | _ => False
def ixK (kvs : List (Key × D)) (k : D) (Q : D → Prop) : Prop := match keyD k with | some k => ∃ d, valG kvs k = some d ∧ Q d | none => False
def ixM (k : D) (Q : D → Prop) : Option MO → Prop
  | some (.lst ds) => ixL ds k Q
  | some (.dic kvs) => ixK kvs k Q
  | some (.lkd _ _ kvs) => ixK kvs k Q
  | _ => False
def ixS (z : Str) (k : D) (Q : D → Prop) : Prop := match k with | .int i => z.length ≤ sizeLine ∧ ∃ c, atI z.cps.toList i = some c ∧ Q (.str ⟨#[c]⟩) | _ => False
def wIx : DOF := fun x k O Q => match x with
  | .tup ds => ixL ds k fun d => Q d O
  | .lst ds => ixL ds k fun d => Q d O
  | .dic kvs => ixK kvs k fun d => Q d O
  | .str z => ixS z k fun d => Q d O
  | .ref a => ixM k (fun d => Q d O) (O a)
  | _ => False
theorem wIx_cases {x k O Q} (h : wIx x k O Q) : (∃ ds i d, asS x O = some ds ∧ k = .int i ∧ atI ds i = some d ∧ Q d O) ∨ (∃ kvs k' d, asK x O = some kvs ∧ keyD k = some k' ∧ valG kvs k' = some d ∧ Q d O) ∨
    (∃ z i c, x = .str z ∧ k = .int i ∧ z.length ≤ sizeLine ∧ atI z.cps.toList i = some c ∧ Q (.str ⟨#[c]⟩) O) := by
  have hl : ∀ ds, ixL ds k (fun d => Q d O) → asS x O = some ds → (∃ ds i d, asS x O = some ds ∧ k = .int i ∧ atI ds i = some d ∧ Q d O) := fun ds h e => by
    cases k <;> first | exact h.elim | (obtain ⟨d, h1, h2⟩ := h; exact ⟨ds, _, d, e, rfl, h1, h2⟩)
  have hk : ∀ kvs, ixK kvs k (fun d => Q d O) → asK x O = some kvs → (∃ kvs k' d, asK x O = some kvs ∧ keyD k = some k' ∧ valG kvs k' = some d ∧ Q d O) := fun kvs h e => by
    unfold ixK at h
    cases ek : keyD k with
    | none => rw [ek] at h; exact h.elim
    | some k' =>
      rw [ek] at h
      obtain ⟨d, h1, h2⟩ := h
      exact ⟨kvs, k', d, e, rfl, h1, h2⟩
  cases x with
  | tup ds => exact .inl (hl ds h rfl)
  | lst ds => exact .inl (hl ds h rfl)
  | dic kvs => exact .inr (.inl (hk kvs h rfl))
  | str z =>
    replace h : ixS z k (fun d => Q d O) := h
    cases k <;> first | exact h.elim | (obtain ⟨hz, c, h1, h2⟩ := h; exact .inr (.inr ⟨z, _, c, rfl, rfl, hz, h1, h2⟩))
  | ref a =>
    replace h : ixM k (fun d => Q d O) (O a) := h
    cases e : O a with
    | none => rw [e] at h; exact h.elim
    | some m =>
      rw [e] at h
      cases m with
      | lst ds => exact .inl (hl ds h (by show asLM (O a) = _; rw [e]; rfl))
      | dic kvs => exact .inr (.inl (hk kvs h (by show asKM (O a) = _; rw [e]; rfl)))
      | lkd _ _ kvs => exact .inr (.inl (hk kvs h (by show asKM (O a) = _; rw [e]; rfl)))
      | _ => exact h.elim
  | _ => exact h.elim

/-- a[y] of a dict by values -/
theorem ix_dict {X : Cx} (hu : X.A.units + 1 < cLine) : IxR X (fun x y H Q => ∃ a v, x = .ref a ∧ DGet H a y (some v) ∧ Q v H) := by
  intro value slice pins s σ H x y v u Q I rx ry h hs
  obtain ⟨a, r, rfl, g, q⟩ := h
  obtain rfl : v = Value.ref a := rx
  exact tail_any (dict_typeIs I g) PySem.F.slot_dict_getitem.lookup (d_getItem hu I g ry fun w' s' I' rw' => ⟨r, H, I', rw', q⟩) hs
theorem dget_of {Z H : Hp} {O : OO} {x y : D} {vx vy : V} {kvs : List (Key × D)} {k : Key} (ro : RelO Z H O) (rx : Rep Z x vx) (ry : Rep Z y vy) (hx : asK x O = some kvs) (hk : keyD y = some k) :
    ∃ a us, vx = .ref a ∧ Rd H a (.dK us) ∧ RepK Z kvs us ∧ DGet H a vy (valV us k) := by
  obtain ⟨p, us, rfl, hp, r⟩ := asK_ok ro rx hx
  exact ⟨p, us, rfl, hp, r, .inl ⟨us, k, hp, keyD_ok ry hk, rfl⟩⟩
section
variable {X : Cx} {pos : Pos} {a b : Expr} {Wa Wb : WE}
theorem de_ix (hu : X.A.units + 1 < cLine) (ha : DE X a Wa) (hb : DE X b Wb) (hs : PlainIx b := by exact fun _ _ => rfl) : DE X (.Subscript a b pos) (wOp wIx Wa Wb) := by
  obtain ⟨ta, pa, ha⟩ := ha.ex
  obtain ⟨tb, pb, hb⟩ := hb.ex
  refine ⟨_, pe_ix (ix_seq.or (ix_dict hu)) pa pb hs, fun Z σ s H O Q R rs ro w po => ?_⟩
  refine ha _ _ _ _ _ _ _ rs ro w fun v H1 Z1 d O1 s1 r1 e1 w1 => ?_
  refine hb _ _ _ _ _ _ _ (rs.mono s1) r1 w1 fun u H2 Z2 e O2 s2 r2 e2 w2 => ?_
  have po2 := po.mono (s1.trans s2)
  rcases wIx_cases w2 with ⟨ds, i, x, hd, rfl, hi, q⟩ | ⟨kvs, k, x, hd, hk, hv, q⟩ | ⟨z, i, c, rfl, rfl, hz, hc, q⟩
  · obtain ⟨p, vs, rfl, hp, r⟩ := asS_ok X.K r2 (e1.mono s2) hd
    obtain ⟨w, hw, rw'⟩ := atI_rep r hi
    cases e2
    have fin := po2 _ _ _ _ _ (Same.refl _) r2 rw' q
    rcases hp with hp | hp
    · exact .inl (.inl ⟨p, vs, i, w, rfl, rfl, hp, hw, fin⟩)
    · exact .inl (.inr (.inl ⟨p, vs, i, w, rfl, rfl, hp, hw, fin⟩))
  · obtain ⟨p, us, rfl, hp, r, g⟩ := dget_of r2 (e1.mono s2) e2 hd hk
    obtain ⟨w, hw, rw'⟩ := r.val_some hv
    rw [hw] at g
    exact .inr ⟨p, w, rfl, g, po2 _ _ _ _ _ (Same.refl _) r2 rw' q⟩
  · cases e2
    have e1' := e1.mono s2
    cases e1'
    exact .inl (.inr (.inr ⟨z, i, c, rfl, rfl, hz, hc, po2 _ _ _ _ _ (Same.refl _) r2 .str q⟩))
end

/-! ### in -/
theorem op_in_dict {X : Cx} (hu : X.A.units + 1 < cLine) : OpR X (compareOp .In) (fun y x H Q => ∃ a o, x = .ref a ∧ DGet H a y o ∧ Q (.bl o.isSome) H) := by
  intro pins s σ H y x u v Q I ry rx h
  obtain ⟨a, o, rfl, g, q⟩ := h
  obtain rfl : v = Value.ref a := rx
  exact d_in hu I g ry fun s3 I3 => ⟨.bl o.isSome, H, I3, rfl, q⟩
theorem op_notIn_dict {X : Cx} (hu : X.A.units + 1 < cLine) : OpR X (compareOp .NotIn) (fun y x H Q => ∃ a o, x = .ref a ∧ DGet H a y o ∧ Q (.bl (!o.isSome)) H) := by
  intro pins s σ H y x u v Q I ry rx h
  obtain ⟨a, o, rfl, g, q⟩ := h
  obtain rfl : v = Value.ref a := rx
  exact d_notIn hu I g ry fun s3 I3 => ⟨.bl (!o.isSome), H, I3, rfl, q⟩
def flatD : D → Bool
  | .non => true
  | .bl _ => true
  | .int _ => true
  | .str _ => true
  | _ => false
def eqF : D → D → Bool
  | .non, .non => true
  | .bl a, .bl b => a == b
  | .bl a, .int b => (if a then 1 else 0) == b
  | .int a, .bl b => a == (if b then 1 else 0)
  | .int a, .int b => a == b
  | .str a, .str b => a == b
  | _, _ => false
theorem flat_rep {Z d v} (r : Rep Z d v) (h : flatD d = true) : flatV v = true := by cases r <;> first | rfl | cases h
theorem eqF_rep {Z d v d' v'} (r : Rep Z d v) (r' : Rep Z d' v') (h : flatD d = true) (h' : flatD d' = true) : eqV v v' = eqF d d' := by
  cases r <;> (try cases h) <;> cases r' <;> (try cases h') <;> rfl
theorem flats_rep {Z} : ∀ {ds vs}, Reps Z ds vs → ds.all flatD = true → vs.all flatV = true
  | _, _, .nil, _ => rfl
  | _, _, .cons a r, h => by
    rw [List.all_cons, Bool.and_eq_true] at h ⊢
    exact ⟨flat_rep a h.1, flats_rep r h.2⟩
theorem inV_rep {Z d v} (r : Rep Z d v) (h : flatD d = true) : ∀ {ds vs}, Reps Z ds vs → ds.all flatD = true → inV v vs = ds.any fun y => eqF y d
  | _, _, .nil, _ => rfl
  | _, _, .cons a t, hs => by
    rw [List.all_cons, Bool.and_eq_true] at hs
    have ih := inV_rep r h t hs.2
    unfold inV at ih ⊢
    rw [List.any_cons, List.any_cons, ih, eqF_rep a r hs.1 h]
/-- what `in` asks: keys of a dict, or flat items -/
def inK (kvs : List (Key × D)) (y : D) (Q : Bool → Prop) : Prop := match keyD y with | some k => Q (valG kvs k).isSome | none => False
def inL (ds : List D) (y : D) (Q : Bool → Prop) : Prop := flatD y = true ∧ ds.all flatD = true ∧ Q (ds.any fun z => eqF z y)
def inM (y : D) (Q : Bool → Prop) : Option MO → Prop
  | some (.lst ds) => inL ds y Q
  | some (.dic kvs) => inK kvs y Q
  | some (.lkd _ _ kvs) => inK kvs y Q
  | _ => False
def inD (y x : D) (O : OO) (Q : Bool → Prop) : Prop := match x with
  | .tup ds => inL ds y Q
  | .lst ds => inL ds y Q
  | .dic kvs => inK kvs y Q
  | .ref a => inM y Q (O a)
  | _ => False
def wIn : DOF := fun y x O Q => inD y x O fun b => Q (.bl b) O
def wNotIn : DOF := fun y x O Q => inD y x O fun b => Q (.bl (!b)) O
theorem inD_cases {y x O Q} (h : inD y x O Q) : (∃ ds, asS x O = some ds ∧ inL ds y Q) ∨ ∃ kvs k, asK x O = some kvs ∧ keyD y = some k ∧ Q (valG kvs k).isSome := by
  have hk : ∀ kvs, inK kvs y Q → asK x O = some kvs → ∃ kvs k, asK x O = some kvs ∧ keyD y = some k ∧ Q (valG kvs k).isSome := fun kvs h e => by
    unfold inK at h
    cases ek : keyD y with
    | none => rw [ek] at h; exact h.elim
    | some k =>
      rw [ek] at h
      exact ⟨kvs, k, e, rfl, h⟩
  cases x with
  | tup ds => exact .inl ⟨ds, rfl, h⟩
  | lst ds => exact .inl ⟨ds, rfl, h⟩
  | dic kvs => exact .inr (hk kvs h rfl)
  | ref a =>
    replace h : inM y Q (O a) := h
    cases e : O a with
    | none => rw [e] at h; exact h.elim
    | some m =>
      rw [e] at h
      cases m with
      | lst ds => exact .inl ⟨ds, by show asLM (O a) = _; rw [e]; rfl, h⟩
      | dic kvs => exact .inr (hk kvs h (by show asKM (O a) = _; rw [e]; rfl))
      | lkd _ _ kvs => exact .inr (hk kvs h (by show asKM (O a) = _; rw [e]; rfl))
      | _ => exact h.elim
  | _ => exact h.elim
theorem RepK.isSome {Z kvs us} (r : RepK Z kvs us) (k : Key) : (valV us k).isSome = (valG kvs k).isSome := by
  cases e : valG kvs k with
  | some d =>
    obtain ⟨v, h, _⟩ := r.val_some e
    rw [h]; rfl
  | none => rw [r.val_none e]; rfl
section
variable {X : Cx}
theorem o_in (hu : X.A.units + 1 < cLine) : DOp X (compareOp .In) wIn := by
  refine ⟨_, op_in_seq.or (op_in_dict hu), fun Z H O y x vy vx Q R ro ry rx w po => ?_⟩
  rcases inD_cases w with ⟨ds, hd, fy, fs, q⟩ | ⟨kvs, k, hd, hk, q⟩
  · obtain ⟨p, vs, rfl, hp, r⟩ := asS_ok X.K ro rx hd
    refine .inl ⟨p, vs, rfl, hp, flat_rep ry fy, flats_rep r fs, ?_⟩
    rw [if_neg Bool.false_ne_true, inV_rep ry fy r fs]
    exact po _ _ _ _ _ (Same.refl _) ro .bl q
  · obtain ⟨p, us, rfl, hp, r, g⟩ := dget_of ro rx ry hd hk
    refine .inr ⟨p, _, rfl, g, ?_⟩
    rw [r.isSome]
    exact po _ _ _ _ _ (Same.refl _) ro .bl q
theorem o_notIn (hu : X.A.units + 1 < cLine) : DOp X (compareOp .NotIn) wNotIn := by
  refine ⟨_, op_notIn_seq.or (op_notIn_dict hu), fun Z H O y x vy vx Q R ro ry rx w po => ?_⟩
  rcases inD_cases w with ⟨ds, hd, fy, fs, q⟩ | ⟨kvs, k, hd, hk, q⟩
  · obtain ⟨p, vs, rfl, hp, r⟩ := asS_ok X.K ro rx hd
    refine .inl ⟨p, vs, rfl, hp, flat_rep ry fy, flats_rep r fs, ?_⟩
    rw [if_pos rfl, inV_rep ry fy r fs]
    exact po _ _ _ _ _ (Same.refl _) ro .bl q
  · obtain ⟨p, us, rfl, hp, r, g⟩ := dget_of ro rx ry hd hk
    refine .inr ⟨p, _, rfl, g, ?_⟩
    rw [r.isSome]
    exact po _ _ _ _ _ (Same.refl _) ro .bl q
end
end TD

set_option Elab.async false
set_option linter.all false
set_option maxRecDepth 100000
/-! TD: built-ins that are called -/
namespace TD
open PySem PySem.Spec PyProof.Rows L2

def wCB (o : DLF) (W : WA) : WE := fun s O Q => W s O fun ds O1 => o ds O1 Q
section
variable {X : Cx} {pos p : Pos} {x : Str} {e : Expr} {es : List Expr} {W : WA} {o : DLF}
theorem de_cb {id : String} (h : DCall X (.builtin id) o) (hg : Gl X x) (hm : X.mg x = none) (hv : bootBuiltins x = some (.builtin id)) (ha : DA X (e :: es) W) (hn : x ≠ "__name__" := by decide) (hdb : (x == ("__debug__" : Str)) = false := by decide)
    (he : starEach (e :: es) X.env = (false, eval e X.env) :: starEach es X.env := by rfl) (hpl : (backTo pos (starEach es X.env)).any (·.1) = false := by rfl) : DE X (.Call (.Name x p) (e :: es) [] pos) (wCB o W) := by
  obtain ⟨r, q, h⟩ := h.ex
  obtain ⟨t, pa, ha⟩ := ha.ex
  refine ⟨_, pe_callB q hg hm hv pa hn hdb he hpl, fun Z σ s H O Q R rs ro w po => ?_⟩
  exact ha _ _ _ _ _ _ _ rs ro w fun vs H1 Z1 ds O1 l1 s1 r1 e1 w1 => h _ _ _ _ _ _ _ r1 e1 w1 (po.mono s1)
theorem de_ct {T : String} (h : DCall X (.type T) o) (hg : Gl X x) (hm : X.mg x = none) (hv : bootBuiltins x = some (.type T)) (ha : DA X (e :: es) W) (hn : x ≠ "__name__" := by decide) (hdb : (x == ("__debug__" : Str)) = false := by decide)
    (he : starEach (e :: es) X.env = (false, eval e X.env) :: starEach es X.env := by rfl) (hpl : (backTo pos (starEach es X.env)).any (·.1) = false := by rfl) : DE X (.Call (.Name x p) (e :: es) [] pos) (wCB o W) := by
  obtain ⟨r, q, h⟩ := h.ex
  obtain ⟨t, pa, ha⟩ := ha.ex
  refine ⟨_, pe_callTy q hg hm hv pa hn hdb he hpl, fun Z σ s H O Q R rs ro w po => ?_⟩
  exact ha _ _ _ _ _ _ _ rs ro w fun vs H1 Z1 ds O1 l1 s1 r1 e1 w1 => h _ _ _ _ _ _ _ r1 e1 w1 (po.mono s1)
end

def w1 (f : DUF) : DLF := fun ds O Q => match ds with | [d] => f d O Q | _ => False
def w2 (f : DOF) : DLF := fun ds O Q => match ds with | [d, e] => f d e O Q | _ => False
/-! ### len -/
def lenM (Q : Nat → Prop) : Option MO → Prop
  | some (.lst ds) => Q ds.length
  | some (.dic kvs) => Q kvs.length
  | some (.lkd _ _ kvs) => Q kvs.length
  | _ => False
def lenD (d : D) (O : OO) (Q : Nat → Prop) : Prop := match d with
  | .str y => y.length ≤ sizeLine ∧ Q y.length
  | .tup ds => Q ds.length
  | .lst ds => Q ds.length
  | .dic kvs => Q kvs.length
  | .ref a => lenM Q (O a)
  | _ => False
def wLen : DLF := w1 fun d O Q => lenD d O fun n => Q (.int n) O
theorem lenD_cases {d O Q} (h : lenD d O Q) : (∃ y, d = .str y ∧ y.length ≤ sizeLine ∧ Q y.length) ∨ (∃ ds, asS d O = some ds ∧ Q ds.length) ∨ ∃ kvs, asK d O = some kvs ∧ Q kvs.length := by
  cases d with
  | str y => exact .inl ⟨y, rfl, h⟩
  | tup ds => exact .inr (.inl ⟨ds, rfl, h⟩)
  | lst ds => exact .inr (.inl ⟨ds, rfl, h⟩)
  | dic kvs => exact .inr (.inr ⟨kvs, rfl, h⟩)
  | ref a =>
    replace h : lenM Q (O a) := h
    cases e : O a with
    | none => rw [e] at h; exact h.elim
    | some m =>
      rw [e] at h
      cases m with
      | lst ds => exact .inr (.inl ⟨ds, by show asLM (O a) = _; rw [e]; rfl, h⟩)
      | dic kvs => exact .inr (.inr ⟨kvs, by show asKM (O a) = _; rw [e]; rfl, h⟩)
      | lkd _ _ kvs => exact .inr (.inr ⟨kvs, by show asKM (O a) = _; rw [e]; rfl, h⟩)
      | _ => exact h.elim
  | _ => exact h.elim
theorem RepK.len {Z : Hp} : ∀ {kvs us}, RepK Z kvs us → kvs.length = us.length
  | _, _, .nil => rfl
  | _, _, .cons _ r => by simp [RepK.len r]
theorem call_lenRd {X : Cx} : CallR X (.builtin "len") (fun xs H Q => ∃ a kvs, xs = [V.ref a] ∧ Rd H a (.dK kvs) ∧ Q (.int kvs.length) H) := by
  intro pins s σ H xs us Q I r h
  obtain ⟨a, kvs, rfl, e, q⟩ := h
  obtain ⟨u, rfl, ru⟩ := vals1 r
  obtain rfl : u = Value.ref a := ru
  exact d_len I e fun t s' I' => ⟨.int kvs.length, H, I', ⟨t, rfl⟩, q⟩
theorem one_ex {ds : List D} {O Q} {f : DUF} (h : w1 f ds O Q) : ∃ d, ds = [d] ∧ f d O Q := by
  match ds, h with
  | [d], h => exact ⟨d, rfl, h⟩
theorem two_ex {ds : List D} {O Q} {f : DOF} (h : w2 f ds O Q) : ∃ d e, ds = [d, e] ∧ f d e O Q := by
  match ds, h with
  | [d, e], h => exact ⟨d, e, rfl, h⟩
theorem Reps.one_ex {Z d vs} (r : Reps Z [d] vs) : ∃ v, vs = [v] ∧ Rep Z d v := by
  cases r with
  | cons a r => cases r; exact ⟨_, rfl, a⟩
theorem Reps.two_ex {Z d e vs} (r : Reps Z [d, e] vs) : ∃ v w, vs = [v, w] ∧ Rep Z d v ∧ Rep Z e w := by
  cases r with
  | cons a r =>
    obtain ⟨w, rfl, b⟩ := Reps.one_ex r
    exact ⟨_, _, rfl, a, b⟩
section
variable {X : Cx}
theorem c_len : DCall X (.builtin "len") wLen := by
  refine ⟨_, CallR.or call_len call_lenRd, fun Z H O ds vs Q R ro rr w po => ?_⟩
  obtain ⟨d, rfl, w⟩ := one_ex w
  obtain ⟨v, rfl, r⟩ := rr.one_ex
  rcases lenD_cases (Q := fun n => Q (.int n) O) w with ⟨y, rfl, hl, q⟩ | ⟨es, he, q⟩ | ⟨kvs, hk, q⟩
  · cases r
    exact .inl ⟨_, _, rfl, ⟨hl, rfl⟩, po _ _ _ _ _ (Same.refl _) ro .int q⟩
  · obtain ⟨p, ws, rfl, hp, r1⟩ := asS_ok X.K ro r he
    refine .inl ⟨_, ws.length, rfl, ?_, ?_⟩
    · exact hp.elim (fun h => .inl ⟨_, h, rfl⟩) fun h => .inr ⟨_, h, rfl⟩
    · rw [← r1.length]
      exact po _ _ _ _ _ (Same.refl _) ro .int q
  · obtain ⟨p, us, rfl, hp, r1⟩ := asK_ok ro r hk
    refine .inr ⟨_, us, rfl, hp, ?_⟩
    rw [← r1.len]
    exact po _ _ _ _ _ (Same.refl _) ro .int q

/-! ### int, abs, bool -/
def wInt1 : DLF := fun ds O Q => match ds with | [.int i] => Q (.int i) O | [.bl b] => Q (.int (if b then 1 else 0)) O | _ => False
theorem c_int : DCall X (.type "int") wInt1 := by
  refine ⟨_, call_int1, fun Z H O ds vs Q R ro rr w po => ?_⟩
  match ds, w with
  | [.int i], w =>
    obtain ⟨v, rfl, r⟩ := rr.one_ex
    cases r
    exact .inl ⟨_, rfl, po _ _ _ _ _ (Same.refl _) ro .int w⟩
  | [.bl b], w =>
    obtain ⟨v, rfl, r⟩ := rr.one_ex
    cases r
    exact .inr ⟨_, rfl, po _ _ _ _ _ (Same.refl _) ro .int w⟩
def wAbs : DLF := fun ds O Q => match ds with | [.int i] => Q (.int (if i < 0 then -i else i)) O | _ => False
theorem c_abs : DCall X (.builtin "abs") wAbs := by
  refine ⟨_, call_abs, fun Z H O ds vs Q R ro rr w po => ?_⟩
  match ds, w with
  | [.int i], w =>
    obtain ⟨v, rfl, r⟩ := rr.one_ex
    cases r
    exact ⟨_, rfl, po _ _ _ _ _ (Same.refl _) ro .int w⟩

/-! ### isinstance -/
def tyL : List String := ["NoneType", "bool", "int", "str", "list", "tuple", "dict"]
def isaB (t c : String) : Bool := t == c || (t == "bool" && c == "int")
theorem isa_ok (K : PySem.W.Frag) : ∀ t ∈ tyL, ∀ c ∈ ["bool", "int", "str", "list", "tuple", "dict"], PySem.W.kitOne K (.type t) (.type c) = some (isaB t c) := by
  intro t ht c hc
  simp only [tyL, List.mem_cons, List.mem_nil_iff, or_false] at ht hc
  rcases ht with rfl | rfl | rfl | rfl | rfl | rfl | rfl <;> rcases hc with rfl | rfl | rfl | rfl | rfl | rfl <;> rfl
def tyM : Option MO → Option String
  | some (.lst _) => some "list"
  | some (.dic _) => some "dict"
  | some (.dct _) => some "dict"
  | some (.lkd _ _ _) => some "dict"
  | _ => none
def tyD (d : D) (O : OO) : Option String := match d with
  | .non => some "NoneType"
  | .bl _ => some "bool"
  | .int _ => some "int"
  | .str _ => some "str"
  | .tup _ => some "tuple"
  | .lst _ => some "list"
  | .dic _ => some "dict"
  | .ref a => tyM (O a)
  | _ => none
theorem tyD_ok {Z H : Hp} {O : OO} {d : D} {v : V} {t : String} {K : PySem.W.Frag} (ro : RelO Z H O) (r : Rep Z d v) (h : tyD d O = some t) : TyX K H v (.type t) ∧ t ∈ tyL := by
  cases r with
  | non => cases h; exact ⟨.base .non, by decide⟩
  | bl => cases h; exact ⟨.base (.bl _), by decide⟩
  | int => cases h; exact ⟨.base (.int _), by decide⟩
  | str => cases h; exact ⟨.base (.str _), by decide⟩
  | tup e r => cases h; exact ⟨.base (.tup (ro.sub.at e rfl)), by decide⟩
  | lst e r => cases h; exact ⟨.base (.lst (ro.sub.at e rfl)), by decide⟩
  | dic e r =>
    cases h
    exact ⟨.fDict (ro.sub.at e rfl), by decide⟩
  | @ref a =>
    replace h : tyM (O a) = some t := h
    cases e : O a with
    | none => rw [e] at h; cases h
    | some m =>
      rw [e] at h
      have q := ro.own _ _ e
      cases m with
      | lst ds => cases h; obtain ⟨vs, q, _⟩ := q; exact ⟨.base (.lst q), by decide⟩
      | dic ds => cases h; obtain ⟨vs, q, _⟩ := q; exact ⟨.base (.dK q), by decide⟩
      | dct ds => cases h; obtain ⟨vs, q, _⟩ := q; exact ⟨.base (.dT q), by decide⟩
      | lkd _ _ ds => cases h; obtain ⟨q, _⟩ := q; exact ⟨.fDict q, by decide⟩
      | _ => cases h
  | _ => cases h
def isaQ (t : Option String) (c : String) (Q : Bool → Prop) : Prop := match t with | some t => c ∈ ["bool", "int", "str", "list", "tuple", "dict"] ∧ Q (isaB t c) | none => False
def wIsi : DLF := fun ds O Q => match ds with | [x, .ty c] => isaQ (tyD x O) c fun b => Q (.bl b) O | _ => False
theorem c_isi : DCall X (.builtin "isinstance") wIsi := by
  refine ⟨_, call_isi, fun Z H O ds vs Q R ro rr w po => ?_⟩
  match ds, w with
  | [x, .ty c], w =>
    obtain ⟨v, u, rfl, rx, rc⟩ := rr.two_ex
    cases rc
    replace w : isaQ (tyD x O) c fun b => Q (.bl b) O := w
    cases e : tyD x O with
    | none => rw [e] at w; exact w.elim
    | some t =>
      rw [e] at w
      obtain ⟨ht, hm⟩ := tyD_ok (K := X.K) ro rx e
      exact ⟨_, _, _, _, _, rfl, .ty _, ht, isa_ok X.K t hm c w.1, po _ _ _ _ _ (Same.refl _) ro .bl w.2⟩

/-! ### list, tuple, dict -/
def wList : DLF := w1 fun d O Q => ∃ es, asS d O = some es ∧ ∀ a, O a = none → Q (.ref a) (updO O a (.lst es))
theorem c_list : DCall X (.type "list") wList := by
  refine ⟨_, call_list_of, fun Z H O ds vs Q R ro rr w po => ?_⟩
  obtain ⟨d, rfl, es, he, q⟩ := one_ex w
  obtain ⟨v, rfl, r⟩ := rr.one_ex
  obtain ⟨p, ws, rfl, hp, r1⟩ := asS_ok X.K ro r he
  exact ⟨p, ws, rfl, hp, fun l hl => po _ _ _ _ _ (Same.refl _) (ro.new (m := .lst es) hl ⟨ws, upd_same, r1⟩) .ref (q l (ro.free hl))⟩
/-- tuple(x): the result is told as a tuple -/
def wTuple : DLF := w1 fun d O Q => ∃ es, asS d O = some es ∧ Q (.tup es) O
theorem c_tuple : DCall X (.type "tuple") wTuple := by
  refine ⟨_, call_tuple_of, fun Z H O ds vs Q R ro rr w po => ?_⟩
  obtain ⟨d, rfl, es, he, q⟩ := one_ex w
  obtain ⟨v, rfl, r⟩ := rr.one_ex
  by_cases ht : ∃ fs, d = .tup fs
  · obtain ⟨fs, rfl⟩ := ht
    cases he
    obtain ⟨p, ws, rfl, hp, r1⟩ := tup_ok ro r
    exact ⟨p, ws, rfl, .inr ⟨.inl (.inl hp), po _ _ _ _ _ (Same.refl _) ro r q⟩⟩
  · have he' : asL d O = some es := by cases d <;> first | exact he | exact absurd ⟨_, rfl⟩ ht
    obtain ⟨p, ws, rfl, hp, r1⟩ := asL_ok ro r he'
    refine ⟨p, ws, rfl, .inl ⟨.inl (.inl hp), fun l hl => ?_⟩⟩
    obtain ⟨s3, r3⟩ := ro.newZ (u := .tup ws) hl
    exact po _ _ _ _ _ s3 r3 (.tup upd_same (r1.mono s3)) q
/-- dict(d): a copy -/
theorem call_dict_copy {X : Cx} : CallR X (.type "dict") (fun xs H Q => ∃ a kvs, xs = [V.ref a] ∧ Rd H a (.dK kvs) ∧ ∀ p, H p = none → Q (.ref p) (upd H p (.dK kvs))) := by
  intro pins s σ H xs us Q I r h
  obtain ⟨a, kvs, rfl, e, q⟩ := h
  obtain ⟨u, rfl, ru⟩ := vals1 r
  obtain rfl : u = Value.ref a := ru
  exact d_copyOf I e fun p s' hp I' => ⟨.ref p, _, I', rfl, q p hp⟩
def wDict : DLF := w1 fun d O Q => ∃ kvs, asK d O = some kvs ∧ ∀ a, O a = none → Q (.ref a) (updO O a (.dic kvs))
theorem c_dict : DCall X (.type "dict") wDict := by
  refine ⟨_, call_dict_copy, fun Z H O ds vs Q R ro rr w po => ?_⟩
  obtain ⟨d, rfl, es, he, q⟩ := one_ex w
  obtain ⟨v, rfl, r⟩ := rr.one_ex
  obtain ⟨p, us, rfl, hp, r1⟩ := asK_ok ro r he
  exact ⟨p, us, rfl, hp, fun l hl => po _ _ _ _ _ (Same.refl _) (ro.new (m := .dic es) hl ⟨us, upd_same, r1⟩) .ref (q l (ro.free hl))⟩

/-! ### all, any, sum -/
def asB : List D → Option (List Bool)
  | [] => some []
  | .bl b :: r => (asB r).map (b :: ·)
  | _ :: _ => none
theorem asB_ok : ∀ {ds bs}, asB ds = some bs → ds = bs.map D.bl
  | [], _, h => by cases h; rfl
  | .bl b :: r, bs, h => by
    obtain ⟨c, hc, rfl⟩ := Option.map_eq_some_iff.mp h
    rw [asB_ok hc]; rfl
  | .non :: _, _, h => nomatch h
  | .int _ :: _, _, h => nomatch h
  | .str _ :: _, _, h => nomatch h
  | .ty _ :: _, _, h => nomatch h
  | .tup _ :: _, _, h => nomatch h
  | .lst _ :: _, _, h => nomatch h
  | .dic _ :: _, _, h => nomatch h
  | .dct _ :: _, _, h => nomatch h
  | .ref _ :: _, _, h => nomatch h
def wAll : DLF := w1 fun d O Q => ∃ es bs, asL d O = some es ∧ asB es = some bs ∧ Q (.bl (bs.all id)) O
def wAny : DLF := w1 fun d O Q => ∃ es bs, asL d O = some es ∧ asB es = some bs ∧ Q (.bl (bs.any id)) O
theorem c_all (hc : X.calm = true) : DCall X (.builtin "all") wAll := by
  refine ⟨_, cr_all hc, fun Z H O ds vs Q R ro rr w po => ?_⟩
  obtain ⟨d, rfl, es, bs, he, hb, q⟩ := one_ex w
  obtain ⟨v, rfl, r⟩ := rr.one_ex
  obtain ⟨p, ws, rfl, hp, r1⟩ := asL_ok ro r he
  rw [asB_ok hb] at r1
  rw [r1.bls] at hp
  exact ⟨p, bs, rfl, .inl (.inl hp), po _ _ _ _ _ (Same.refl _) ro .bl q⟩
theorem c_any (hc : X.calm = true) : DCall X (.builtin "any") wAny := by
  refine ⟨_, cr_any hc, fun Z H O ds vs Q R ro rr w po => ?_⟩
  obtain ⟨d, rfl, es, bs, he, hb, q⟩ := one_ex w
  obtain ⟨v, rfl, r⟩ := rr.one_ex
  obtain ⟨p, ws, rfl, hp, r1⟩ := asL_ok ro r he
  rw [asB_ok hb] at r1
  rw [r1.bls] at hp
  exact ⟨p, bs, rfl, .inl (.inl hp), po _ _ _ _ _ (Same.refl _) ro .bl q⟩
def asI : List D → Option (List Int)
  | [] => some []
  | .int b :: r => (asI r).map (b :: ·)
  | _ :: _ => none
theorem asI_ok : ∀ {ds bs}, asI ds = some bs → ds = bs.map D.int
  | [], _, h => by cases h; rfl
  | .int b :: r, bs, h => by
    obtain ⟨c, hc, rfl⟩ := Option.map_eq_some_iff.mp h
    rw [asI_ok hc]; rfl
  | .non :: _, _, h => nomatch h
  | .bl _ :: _, _, h => nomatch h
  | .str _ :: _, _, h => nomatch h
  | .ty _ :: _, _, h => nomatch h
  | .tup _ :: _, _, h => nomatch h
  | .lst _ :: _, _, h => nomatch h
  | .dic _ :: _, _, h => nomatch h
  | .dct _ :: _, _, h => nomatch h
  | .ref _ :: _, _, h => nomatch h
@[simp] theorem asI_map (ns : List Int) : asI (ns.map D.int) = some ns := by
  induction ns with
  | nil => rfl
  | cons a r ih => simp [asI, ih]
@[simp] theorem asB_map (ns : List Bool) : asB (ns.map D.bl) = some ns := by
  induction ns with
  | nil => rfl
  | cons a r ih => simp [asB, ih]
def wSum : DLF := w1 fun d O Q => ∃ es bs, asL d O = some es ∧ asI es = some bs ∧ Q (.int bs.sum) O
theorem c_sum (hc : X.calm = true) : DCall X (.builtin "sum") wSum := by
  refine ⟨_, cr_sum hc, fun Z H O ds vs Q R ro rr w po => ?_⟩
  obtain ⟨d, rfl, es, bs, he, hb, q⟩ := one_ex w
  obtain ⟨v, rfl, r⟩ := rr.one_ex
  obtain ⟨p, ws, rfl, hp, r1⟩ := asL_ok ro r he
  rw [asI_ok hb] at r1
  rw [r1.ints] at hp
  exact ⟨p, bs, rfl, .inl (.inl hp), po _ _ _ _ _ (Same.refl _) ro .int q⟩

end
/-! ### sorted -/
def ins1 {α : Type} (le : α → α → Bool) (a : α) : List α → List α
  | [] => [a]
  | b :: r => if le a b = true then a :: b :: r else b :: ins1 le a r
def isort {α : Type} (le : α → α → Bool) : List α → List α
  | [] => []
  | a :: r => ins1 le a (isort le r)
theorem ins1_perm {α : Type} (le : α → α → Bool) (a : α) : ∀ r, (ins1 le a r).Perm (a :: r)
  | [] => .refl _
  | b :: r => by
    unfold ins1
    split
    · exact .refl _
    · exact ((ins1_perm le a r).cons b).trans (.swap ..)
theorem isort_perm {α : Type} (le : α → α → Bool) : ∀ r, (isort le r).Perm r
  | [] => .refl _
  | a :: r => (ins1_perm le a _).trans ((isort_perm le r).cons a)
theorem ins1_pw {α : Type} {le : α → α → Bool} (tot : ∀ a b, le a b = true ∨ le b a = true) (tr : ∀ a b c, le a b = true → le b c = true → le a c = true) (a : α) : ∀ r, r.Pairwise (fun a b => le a b = true) → (ins1 le a r).Pairwise (fun a b => le a b = true)
  | [], _ => by simp [ins1]
  | b :: r, h => by
    unfold ins1
    have h1 := List.pairwise_cons.mp h
    split
    · rename_i q
      refine List.pairwise_cons.mpr ⟨fun c hc => ?_, h⟩
      rcases List.mem_cons.mp hc with rfl | hc
      · exact q
      · exact tr _ _ _ q (h1.1 c hc)
    · rename_i q
      refine List.pairwise_cons.mpr ⟨fun c hc => ?_, ins1_pw tot tr a r h1.2⟩
      rcases List.mem_cons.mp ((ins1_perm le a r).mem_iff.mp hc) with rfl | hc
      · exact (tot c b).resolve_left q
      · exact h1.1 c hc
theorem isort_pw {α : Type} {le : α → α → Bool} (tot : ∀ a b, le a b = true ∨ le b a = true) (tr : ∀ a b c, le a b = true → le b c = true → le a c = true) : ∀ r, (isort le r).Pairwise (fun a b => le a b = true)
  | [] => .nil
  | a :: r => ins1_pw tot tr a _ (isort_pw tot tr r)
theorem isort_eq {α : Type} {le : α → α → Bool} (tot : ∀ a b, le a b = true ∨ le b a = true) (tr : ∀ a b c, le a b = true → le b c = true → le a c = true) (anti : ∀ a b, le a b = true → le b a = true → a = b) {ms ns : List α} (hp : ms.Perm ns)
    (hs : ms.Pairwise (fun a b => le a b = true)) : ms = isort le ns :=
  List.Perm.eq_of_pairwise (le := fun a b => le a b = true) (fun a b _ _ h h' => anti a b h h') hs (isort_pw tot tr ns) (hp.trans (isort_perm le ns).symm)
theorem isort_congr {α : Type} {le : α → α → Bool} (tot : ∀ a b, le a b = true ∨ le b a = true) (tr : ∀ a b c, le a b = true → le b c = true → le a c = true) (anti : ∀ a b, le a b = true → le b a = true → a = b) {ms ns : List α} (hp : ms.Perm ns) : isort le ms = isort le ns :=
  isort_eq tot tr anti ((isort_perm le ms).trans hp) (isort_pw tot tr ms)
def leI (a b : Int) : Bool := decide (a ≤ b)
theorem leI_tot (a b : Int) : leI a b = true ∨ leI b a = true := by unfold leI; rcases Int.le_total a b with h | h <;> simp [h]
theorem leI_tr (a b c : Int) : leI a b = true → leI b c = true → leI a c = true := by unfold leI; simp only [decide_eq_true_eq]; omega
theorem leI_anti (a b : Int) : leI a b = true → leI b a = true → a = b := by unfold leI; simp only [decide_eq_true_eq]; omega
theorem ltCps_irr : ∀ a, ltCps a a = false
  | [] => rfl
  | a :: r => by simp [ltCps, ltCps_irr r]
theorem ltCps_tri : ∀ a b, ltCps a b = true ∨ ltCps b a = true ∨ a = b
  | [], [] => .inr (.inr rfl)
  | [], _ :: _ => .inl rfl
  | _ :: _, [] => .inr (.inl rfl)
  | a :: r, b :: t => by
    rcases Nat.lt_trichotomy a b with h | h | h
    · exact .inl (by simp [ltCps, h])
    · subst h
      rcases ltCps_tri r t with q | q | q
      · exact .inl (by simp [ltCps, q])
      · exact .inr (.inl (by simp [ltCps, q]))
      · exact .inr (.inr (by rw [q]))
    · exact .inr (.inl (by simp [ltCps, h]))
theorem ltCps_tr : ∀ a b c, ltCps a b = true → ltCps b c = true → ltCps a c = true
  | [], [], _, h, _ => by cases h
  | [], _ :: _, [], _, h => by cases h
  | [], _ :: _, _ :: _, _, _ => rfl
  | _ :: _, [], _, h, _ => by cases h
  | _ :: _, _ :: _, [], _, h => by cases h
  | a :: r, b :: t, c :: u, h, h' => by
    simp only [ltCps, Bool.or_eq_true, decide_eq_true_eq, Bool.and_eq_true, beq_iff_eq] at h h' ⊢
    rcases h with h | ⟨rfl, h⟩
    · rcases h' with h' | ⟨rfl, h'⟩
      · exact .inl (by omega)
      · exact .inl h
    · rcases h' with h' | ⟨rfl, h'⟩
      · exact .inl h'
      · exact .inr ⟨rfl, ltCps_tr r t u h h'⟩
def leS (a b : Str) : Bool := !ltCps b.cps.toList a.cps.toList
theorem Str_ext {a b : Str} (h : a.cps.toList = b.cps.toList) : a = b := by
  cases a; cases b
  simp only at h
  rw [Array.toList_inj.mp h]
theorem leS_tot (a b : Str) : leS a b = true ∨ leS b a = true := by
  unfold leS
  rcases ltCps_tri b.cps.toList a.cps.toList with h | h | h
  · right
    cases q : ltCps a.cps.toList b.cps.toList with
    | false => rfl
    | true => have := ltCps_tr _ _ _ h q; rw [ltCps_irr] at this; cases this
  · left
    cases q : ltCps b.cps.toList a.cps.toList with
    | false => rfl
    | true => have := ltCps_tr _ _ _ h q; rw [ltCps_irr] at this; cases this
  · left; rw [h, ltCps_irr]; rfl
theorem leS_anti (a b : Str) (h : leS a b = true) (h' : leS b a = true) : a = b := by
  unfold leS at h h'
  rcases ltCps_tri b.cps.toList a.cps.toList with q | q | q
  · rw [q] at h; cases h
  · rw [q] at h'; cases h'
  · exact (Str_ext q).symm
theorem leS_tr (a b c : Str) (h : leS a b = true) (h' : leS b c = true) : leS a c = true := by
  unfold leS at *
  cases q : ltCps c.cps.toList a.cps.toList with
  | false => rfl
  | true =>
    rcases ltCps_tri b.cps.toList a.cps.toList with z | z | z
    · rw [z] at h; cases h
    · have := ltCps_tr _ _ _ q z
      rw [this] at h'; cases h'
    · rw [← z] at q
      rw [q] at h'; cases h'
theorem sortedS_pw : ∀ (l : List Str), sortedS l = true → l.Pairwise (fun a b => leS a b = true) := by
  have go : ∀ (r : List Str) (p : Str), risingS p r = true → (p :: r).Pairwise (fun a b => leS a b = true) := fun r => by
    induction r with
    | nil => intro p _; exact List.pairwise_singleton ..
    | cons x r ih =>
      intro p h
      replace h : (!ltCps x.cps.toList p.cps.toList && risingS x r) = true := h
      rw [Bool.and_eq_true] at h
      have q := ih x h.2
      refine List.pairwise_cons.mpr ⟨fun c hc => ?_, q⟩
      rcases List.mem_cons.mp hc with rfl | hc
      · exact h.1
      · exact leS_tr _ _ _ h.1 ((List.pairwise_cons.mp q).1 c hc)
  intro l h
  cases l with
  | nil => exact .nil
  | cons x r => exact go r x h
def sortI (ns : List Int) : List Int := isort leI ns
def sortS (ns : List Str) : List Str := isort leS ns
theorem sortI_of {ms ns : List Int} (hp : ms.Perm ns) (hs : ms.Pairwise (· ≤ ·)) : ms = sortI ns := isort_eq leI_tot leI_tr leI_anti hp (hs.imp fun h => by simpa [leI] using h)
theorem sortS_of {ms ns : List Str} (hp : ms.Perm ns) (hs : sortedS ms = true) : ms = sortS ns := isort_eq leS_tot leS_tr leS_anti hp (sortedS_pw ms hs)
theorem sortI_perm {ms ns : List Int} (hp : ms.Perm ns) : sortI ms = sortI ns := isort_congr leI_tot leI_tr leI_anti hp
theorem sortS_perm {ms ns : List Str} (hp : ms.Perm ns) : sortS ms = sortS ns := isort_congr leS_tot leS_tr leS_anti hp
def asT : List D → Option (List Str)
  | [] => some []
  | .str b :: r => (asT r).map (b :: ·)
  | _ :: _ => none
theorem asT_ok : ∀ {ds bs}, asT ds = some bs → ds = bs.map D.str
  | [], _, h => by cases h; rfl
  | .str b :: r, bs, h => by
    obtain ⟨c, hc, rfl⟩ := Option.map_eq_some_iff.mp h
    rw [asT_ok hc]; rfl
  | .non :: _, _, h => nomatch h
  | .bl _ :: _, _, h => nomatch h
  | .int _ :: _, _, h => nomatch h
  | .ty _ :: _, _, h => nomatch h
  | .tup _ :: _, _, h => nomatch h
  | .lst _ :: _, _, h => nomatch h
  | .dic _ :: _, _, h => nomatch h
  | .dct _ :: _, _, h => nomatch h
  | .ref _ :: _, _, h => nomatch h
@[simp] theorem asT_map (ns : List Str) : asT (ns.map D.str) = some ns := by
  induction ns with
  | nil => rfl
  | cons a r ih => simp [asT, ih]
/-- keys that are all ints, or all texts -/
def keysI : List Key → Option (List Int)
  | [] => some []
  | .inl i :: r => (keysI r).map (i :: ·)
  | .inr _ :: _ => none
def keysS : List Key → Option (List Str)
  | [] => some []
  | .inr i :: r => (keysS r).map (i :: ·)
  | .inl _ :: _ => none
theorem keysI_ok : ∀ {ks is}, keysI ks = some is → ks = is.map Sum.inl
  | [], _, h => by cases h; rfl
  | .inl i :: r, is, h => by
    obtain ⟨c, hc, rfl⟩ := Option.map_eq_some_iff.mp h
    rw [keysI_ok hc]; rfl
  | .inr _ :: _, _, h => nomatch h
theorem keysS_ok : ∀ {ks is}, keysS ks = some is → ks = is.map Sum.inr
  | [], _, h => by cases h; rfl
  | .inr i :: r, is, h => by
    obtain ⟨c, hc, rfl⟩ := Option.map_eq_some_iff.mp h
    rw [keysS_ok hc]; rfl
  | .inl _ :: _, _, h => nomatch h
@[simp] theorem keysI_map (ns : List Int) : keysI (ns.map Sum.inl) = some ns := by
  induction ns with
  | nil => rfl
  | cons a r ih => simp [keysI, ih]
@[simp] theorem keysS_map (ns : List Str) : keysS (ns.map Sum.inr) = some ns := by
  induction ns with
  | nil => rfl
  | cons a r ih => simp [keysS, ih]
/-- sorted(x): a list of ints, of texts (fewer than 64), a dict of such keys (fewer than 64) -/
def wSorted : DLF := w1 fun d O Q =>
  (∃ es ns, asL d O = some es ∧ asI es = some ns ∧ ∀ a, O a = none → Q (.ref a) (updO O a (.lst ((sortI ns).map D.int)))) ∨
  (∃ es ns, asL d O = some es ∧ asT es = some ns ∧ ns.length < 64 ∧ ∀ a, O a = none → Q (.ref a) (updO O a (.lst ((sortS ns).map D.str)))) ∨
  (∃ kvs ns, asK d O = some kvs ∧ keysI (kvs.map (·.1)) = some ns ∧ ns.length < 64 ∧ ∀ a, O a = none → Q (.ref a) (updO O a (.lst ((sortI ns).map D.int)))) ∨
  (∃ kvs ns, asK d O = some kvs ∧ keysS (kvs.map (·.1)) = some ns ∧ ns.length < 64 ∧ ∀ a, O a = none → Q (.ref a) (updO O a (.lst ((sortS ns).map D.str))))
theorem RepK.keys' {Z : Hp} : ∀ {kvs us}, RepK Z kvs us → kvs.map (·.1) = us.map (·.1)
  | _, _, .nil => rfl
  | _, _, .cons _ r => by simp [RepK.keys' r]
theorem c_sorted {X : Cx} (hc : X.calm = true) : DCall X (.builtin "sorted") wSorted := by
  refine ⟨_, (CallR.or cr_sortedI cr_sortedS).or (CallR.or (call_sortedDI hc) (call_sortedD hc)), fun Z H O ds vs Q R ro rr w po => ?_⟩
  obtain ⟨d, rfl, w⟩ := one_ex w
  obtain ⟨v, rfl, r⟩ := rr.one_ex
  rcases w with ⟨es, ns, he, hn, q⟩ | ⟨es, ns, he, hn, hl, q⟩ | ⟨kvs, ns, he, hn, hl, q⟩ | ⟨kvs, ns, he, hn, hl, q⟩
  · obtain ⟨p, ws, rfl, hp, r1⟩ := asL_ok ro r he
    rw [asI_ok hn] at r1
    rw [r1.ints] at hp
    refine .inl (.inl ⟨p, ns, rfl, .inl (.inl hp), fun ms b hm hs hb => ?_⟩)
    rw [sortI_of hm hs]
    exact po _ _ _ _ _ (Same.refl _) (ro.new (m := .lst _) hb ⟨_, upd_same, Reps.of_ints _⟩) .ref (q b (ro.free hb))
  · obtain ⟨p, ws, rfl, hp, r1⟩ := asL_ok ro r he
    rw [asT_ok hn] at r1
    rw [r1.strs] at hp
    refine .inl (.inr ⟨p, ns, rfl, .inl (.inl hp), hl, fun ms b hm hs hb => ?_⟩)
    rw [sortS_of hm hs]
    exact po _ _ _ _ _ (Same.refl _) (ro.new (m := .lst _) hb ⟨_, upd_same, Reps.of_strs _⟩) .ref (q b (ro.free hb))
  · obtain ⟨p, us, rfl, hp, r1⟩ := asK_ok ro r he
    refine .inr (.inl ⟨p, us, ns, rfl, hp, by rw [← r1.keys']; exact keysI_ok hn, hl, fun ms b hm hs hb => ?_⟩)
    rw [sortI_of hm hs]
    exact po _ _ _ _ _ (Same.refl _) (ro.new (m := .lst _) hb ⟨_, upd_same, Reps.of_ints _⟩) .ref (q b (ro.free hb))
  · obtain ⟨p, us, rfl, hp, r1⟩ := asK_ok ro r he
    refine .inr (.inr ⟨p, us, ns, rfl, hp, by rw [← r1.keys']; exact keysS_ok hn, hl, fun ms b hm hs hb => ?_⟩)
    rw [sortS_of hm hs]
    exact po _ _ _ _ _ (Same.refl _) (ro.new (m := .lst _) hb ⟨_, upd_same, Reps.of_strs _⟩) .ref (q b (ro.free hb))
end TD

set_option Elab.async false
set_option linter.all false
set_option maxRecDepth 100000
set_option maxHeartbeats 1000000
/-! TD: methods of built-ins, item stores, attributes, slices, displays -/
namespace TD
open PySem PySem.Spec PyProof.Rows L2

/-! ### methods -/
abbrev DMF := D → List D → OO → (D → OO → Prop) → Prop
structure DMt (X : Cx) (id : String) (m : DMF) : Prop where
  ex : ∃ r, MtR X id r ∧ ∀ Z H O d v ds vs Q R, RelO Z H O → Rep Z d v → Reps Z ds vs → m d ds O Q → PostE Z Q R → r v vs H R
/-- the receiver's type -/
inductive TvD (O : OO) : String → D → Prop
  | str {x} : TvD O "str" (.str x)
  | lst {d ds} (h : asL d O = some ds) : TvD O "list" d
  | dic {a kvs} (h : O a = some (.dic kvs)) : TvD O "dict" (.ref a)
def wBm (T : String) (m : DMF) (Wo : WE) (W : WA) : WE := fun s O Q => Wo s O fun d O1 => TvD O1 T d ∧ W s O1 fun ds O2 => m d ds O2 Q
theorem TvD.ok {Z H : Hp} {O : OO} {T d v} {K : PySem.W.Frag} (ro : RelO Z H O) (r : Rep Z d v) (h : TvD O T d) : tyV K T v H := by
  cases h with
  | str => cases r; rfl
  | lst h =>
    obtain ⟨p, vs, rfl, hp, _⟩ := asL_ok ro r h
    exact .inl ⟨rfl, vs, .inl (.inl hp)⟩
  | dic h =>
    cases r
    obtain ⟨us, hp, _⟩ := ro.own _ _ h
    exact .inr (.inr (.inl ⟨rfl, .inl ⟨us, hp⟩⟩))
section
variable {X : Cx} {apos cpos : Pos} {o e : Expr} {es : List Expr} {W : WA} {Wo : WE} {name : Str} {T id : String} {m : DMF}
theorem de_bm0 (pa : PlainAttrs T) (slot : Slot T name id) (hty : typeOf (.builtin id) = pure (.type "method_descriptor")) (hm : DMt X id m) (ho : DE X o Wo)
    (hbase : attributeBase o name X.env (eval o X.env) = eval o X.env := by rfl) (hline : (apos.endLine == cpos.line) = true := by rfl) : DE X (.Call (.Attribute o name apos) [] [] cpos) (wBm T m Wo wNil) := by
  obtain ⟨r, q, h⟩ := hm.ex
  obtain ⟨to, po, k⟩ := ho.ex
  refine ⟨_, pe_bm0 pa slot hty q po hbase hline, fun Z σ s H O Q R rs ro w po => ?_⟩
  refine k _ _ _ _ _ _ _ rs ro w fun v H1 Z1 d O1 s1 r1 e1 w1 => ?_
  exact ⟨w1.1.ok r1 e1, h _ _ _ _ _ _ _ _ _ r1 e1 .nil w1.2 (po.mono s1)⟩
theorem de_bm (pa : PlainAttrs T) (slot : Slot T name id) (hty : typeOf (.builtin id) = pure (.type "method_descriptor")) (hm : DMt X id m) (ho : DE X o Wo) (ha : DA X (e :: es) W)
    (hbase : attributeBase o name X.env (eval o X.env) = eval o X.env := by rfl)
    (hfew : ((backTo cpos (starEach (e :: es) X.env)).all (fun x => !x.1) && (backToKw cpos (keywordEach [] X.env)).all (fun x => x.1.isSome)
      && decide ((e :: es).length + ([] : List Keyword).length + (if ([] : List Keyword).isEmpty then 0 else 1) < 30)) = true := by rfl)
    (hline : (apos.endLine == cpos.line) = true := by rfl) (hs : starEach (e :: es) X.env = (false, eval e X.env) :: starEach es X.env := by rfl) (hplain : (backTo cpos (starEach es X.env)).any (·.1) = false := by rfl) :
    DE X (.Call (.Attribute o name apos) (e :: es) [] cpos) (wBm T m Wo W) := by
  obtain ⟨r, q, h⟩ := hm.ex
  obtain ⟨to, po, k⟩ := ho.ex
  obtain ⟨t, pa2, j⟩ := ha.ex
  refine ⟨_, pe_bm pa slot hty q po pa2 hbase hfew hline hs hplain, fun Z σ s H O Q R rs ro w po => ?_⟩
  refine k _ _ _ _ _ _ _ rs ro w fun v H1 Z1 d O1 s1 r1 e1 w1 => ?_
  refine ⟨w1.1.ok r1 e1, j _ _ _ _ _ _ _ (rs.mono s1) r1 w1.2 fun vs H2 Z2 ds O2 l2 s2 r2 e2 w2 => ?_⟩
  exact h _ _ _ _ _ _ _ _ _ r2 (e1.mono s2) e2 w2 (po.mono (s1.trans s2))

/-! ### list methods -/
def appM (a : Addr) (y : D) (O : OO) (Q : D → OO → Prop) : Option MO → Prop
  | some (.lst ds) => ds.length < sizeLine ∧ Q .non (updO O a (.lst (ds ++ [y])))
  | _ => False
def mApp : DMF := fun d ds O Q => match d, ds with | .ref a, [y] => appM a y O Q (O a) | _, _ => False
theorem m_app : DMt X "list.append" mApp := by
  refine ⟨_, mt_append, fun Z H O d v ds vs Q R ro rd rs w po => ?_⟩
  match d, ds, w with
  | .ref a, [y], w =>
    cases rd
    obtain ⟨u, rfl, ru⟩ := rs.one_ex
    replace w : appM a y O Q (O a) := w
    cases e : O a with
    | none => rw [e] at w; exact w.elim
    | some m =>
      rw [e] at w
      cases m with
      | lst xs =>
        obtain ⟨ws, hw, rw'⟩ := ro.own _ _ e
        refine ⟨a, ws, u, rfl, rfl, hw, by rw [← rw'.length]; exact w.1, ?_⟩
        exact po _ _ _ _ _ (Same.refl _) (ro.put (m' := .lst (xs ++ [y])) e rfl ⟨_, upd_same, rw'.append (.one ru)⟩) .non w.2
      | _ => exact w.elim
def popM (a : Addr) (O : OO) (Q : D → OO → Prop) : Option MO → Prop
  | some (.lst ds) => ∃ y, ds[ds.length - 1]? = some y ∧ Q y (updO O a (.lst ds.dropLast))
  | _ => False
def mPop : DMF := fun d ds O Q => match d, ds with | .ref a, [] => popM a O Q (O a) | _, _ => False
theorem m_pop : DMt X "list.pop" mPop := by
  refine ⟨_, mt_pop, fun Z H O d v ds vs Q R ro rd rs w po => ?_⟩
  match d, ds, w with
  | .ref a, [], w =>
    cases rd
    cases rs
    replace w : popM a O Q (O a) := w
    cases e : O a with
    | none => rw [e] at w; exact w.elim
    | some m =>
      rw [e] at w
      cases m with
      | lst xs =>
        obtain ⟨ws, hw, rw'⟩ := ro.own _ _ e
        obtain ⟨y, hy, q⟩ := w
        obtain ⟨u, hu, ru⟩ := rw'.get hy
        rw [rw'.length] at hu
        refine ⟨a, ws, u, rfl, rfl, hw, hu, ?_⟩
        exact po _ _ _ _ _ (Same.refl _) (ro.put (m' := .lst xs.dropLast) e rfl ⟨_, upd_same, rw'.dropLast⟩) ru q
      | _ => exact w.elim

/-! ### dict methods -/
def mergeG {κ ν : Type} [DecidableEq κ] (kvs more : List (κ × ν)) : List (κ × ν) := more.foldl (fun acc kv => putG acc kv.1 kv.2) kvs
theorem RepK.merge {Z : Hp} : ∀ {more ms kvs us}, RepK Z more ms → RepK Z kvs us → RepK Z (mergeG kvs more) (mergeK us ms)
  | _, _, _, _, .nil, h => h
  | _, _, _, _, .cons a r, h => RepK.merge (kvs := putG _ _ _) (us := putK _ _ _) r (h.put a)
theorem mt_update : MtR X "dict.update" (fun x vs H Q => ∃ a b kvs more, x = V.ref a ∧ vs = [V.ref b] ∧ a ≠ b ∧ H a = some (.dK kvs) ∧ Rd H b (.dK more) ∧ kvs.length + more.length ≤ sizeLine ∧ Q .non (upd H a (.dK (mergeK kvs more)))) := by
  intro pins s σ H x vs v us Q I rx rv h
  obtain ⟨a, b, kvs, more, rfl, rfl, hab, ha, hb, hl, q⟩ := h
  obtain rfl : v = Value.ref a := rx
  obtain ⟨u, rfl, ru⟩ := vals1 rv
  obtain rfl : u = Value.ref b := ru
  obtain ⟨z, hd, xs, rel, dd⟩ := dk_of I.hok ha
  obtain ⟨z2, hd2, xs2, rel2, dd2⟩ := dk_rd I.hok hb
  refine call_meetsIn PySem.F.slot_dict_update dd.typeIs PySem.F.entry_dict_update (PySem.F.args_dict_update_2 _ _) (meets_dict_update (mixKind X.prog X.w) a b hab hd2) ⟨xs, xs2, dd, dd2, by rw [← rel.length, ← rel2.length]; exact hl, fun h' dd' dd2' hs => ?_⟩
  have he : ∃ q, h'.get? a = some q := let ⟨q, _, _, hq, _⟩ := dd'; ⟨q, hq⟩
  refine ⟨.non, _, d_write I (by rw [ha]; exact True.intro) hs he (dk_new ?_ hd (KV.merge rel2 rel) dd'), rfl, q⟩
  exact Nat.le_trans (length_mergeK more kvs) hl
def updM (a : Addr) (y : D) (O : OO) (Q : D → OO → Prop) : Option MO → Prop
  | some (.dic kvs) => ∃ more, asK y O = some more ∧ y ≠ .ref a ∧ kvs.length + more.length ≤ sizeLine ∧ Q .non (updO O a (.dic (mergeG kvs more)))
  | _ => False
def mUpd : DMF := fun d ds O Q => match d, ds with | .ref a, [y] => updM a y O Q (O a) | _, _ => False
theorem m_upd : DMt X "dict.update" mUpd := by
  refine ⟨_, mt_update, fun Z H O d v ds vs Q R ro rd rs w po => ?_⟩
  match d, ds, w with
  | .ref a, [y], w =>
    cases rd
    obtain ⟨u, rfl, ru⟩ := rs.one_ex
    replace w : updM a y O Q (O a) := w
    cases e : O a with
    | none => rw [e] at w; exact w.elim
    | some m =>
      rw [e] at w
      cases m with
      | dic kvs =>
        obtain ⟨more, hm, hne, hl, q⟩ := w
        obtain ⟨us, hu, r1⟩ := ro.own _ _ e
        obtain ⟨b, ms, rfl, hb, r2⟩ := asK_ok ro ru hm
        have hab : a ≠ b := fun z => by
          subst z
          cases ru with
          | ref => exact hne rfl
          | dic ez rz => rw [ro.off _ _ e rfl] at ez; cases ez
          | tup ez rz => rw [ro.off _ _ e rfl] at ez; cases ez
          | lst ez rz => rw [ro.off _ _ e rfl] at ez; cases ez
          | dct ez rz => rw [ro.off _ _ e rfl] at ez; cases ez
        refine ⟨a, b, us, ms, rfl, rfl, hab, hu, hb, by rw [← r1.len, ← r2.len]; exact hl, ?_⟩
        exact po _ _ _ _ _ (Same.refl _) (ro.put (m' := .dic (mergeG kvs more)) e rfl ⟨_, upd_same, r2.merge r1⟩) .non q
      | _ => exact w.elim
end

/-! ### d.get(k, x), d.get(k), d.pop(k) -/
def wGet2 (Wo Wk Wx : WE) : WE := fun s O Q => Wo s O fun d O1 => (∃ kvs, asK d O1 = some kvs) ∧ Wk s O1 fun y O2 => Wx s O2 fun z O3 => ∃ kvs k, asK d O3 = some kvs ∧ keyD y = some k ∧ Q ((valG kvs k).getD z) O3
def wGet1 (Wo Wk : WE) : WE := fun s O Q => Wo s O fun d O1 => (∃ kvs, asK d O1 = some kvs) ∧ Wk s O1 fun y O2 => ∃ kvs k, asK d O2 = some kvs ∧ keyD y = some k ∧ Q ((valG kvs k).getD .non) O2
def dpopM (a : Addr) (y : D) (O : OO) (Q : D → OO → Prop) : Option MO → Prop
  | some (.dic kvs) => ∃ k d, keyD y = some k ∧ valG kvs k = some d ∧ Q d (updO O a (.dic (dropG kvs k)))
  | _ => False
def isDicM : Option MO → Prop
  | some (.dic _) => True
  | _ => False
def wDPop (Wo Wk : WE) : WE := fun s O Q => Wo s O fun d O1 => match d with | .ref a => isDicM (O1 a) ∧ Wk s O1 fun y O2 => dpopM a y O2 Q (O2 a) | _ => False
theorem isD_of {Z H : Hp} {O : OO} {d v kvs} (ro : RelO Z H O) (r : Rep Z d v) (h : asK d O = some kvs) : ∃ p, v = V.ref p ∧ IsD H p := by
  obtain ⟨p, us, rfl, hp, _⟩ := asK_ok ro r h
  exact ⟨p, rfl, .inl ⟨us, hp⟩⟩
theorem RepK.getD {Z kvs us} (r : RepK Z kvs us) (k : Key) {d v} (h : Rep Z d v) : Rep Z ((valG kvs k).getD d) ((valV us k).getD v) := by
  cases e : valG kvs k with
  | some x =>
    obtain ⟨w, hw, rw'⟩ := r.val_some e
    rw [hw]
    exact rw'
  | none =>
    rw [r.val_none e]
    exact h
section
variable {X : Cx} {apos cpos : Pos} {o e f : Expr} {Wo Wk Wx : WE}
theorem de_get2 (hu : X.A.units + 1 < cLine) (ho : DE X o Wo) (he : DE X e Wk) (hf : DE X f Wx) (m : M2 X o "get" apos e f cpos := by exact ⟨rfl, rfl, rfl, rfl⟩) : DE X (.Call (.Attribute o "get" apos) [e, f] [] cpos) (wGet2 Wo Wk Wx) := by
  obtain ⟨to, qo, ho⟩ := ho.ex
  obtain ⟨te, qe, he⟩ := he.ex
  obtain ⟨tf, qf, hf⟩ := hf.ex
  refine ⟨_, pe_dget2 hu qo qe qf m, fun Z σ s H O Q R rs ro w po => ?_⟩
  refine ho _ _ _ _ _ _ _ rs ro w fun v H1 Z1 d O1 s1 r1 e1 ⟨⟨kvs0, h0⟩, w1⟩ => ?_
  obtain ⟨p, rfl, hp⟩ := isD_of r1 e1 h0
  refine ⟨p, rfl, hp, ?_⟩
  refine he _ _ _ _ _ _ _ (rs.mono s1) r1 w1 fun u H2 Z2 y O2 s2 r2 e2 w2 => ?_
  refine hf _ _ _ _ _ _ _ (rs.mono (s1.trans s2)) r2 w2 fun u3 H3 Z3 z O3 s3 r3 e3 ⟨kvs, k, hk, hy, q⟩ => ?_
  obtain ⟨p', us, ep, _, r, g⟩ := dget_of r3 (e1.mono (s2.trans s3)) (e2.mono s3) hk hy
  cases ep
  exact ⟨_, g, po _ _ _ _ _ (s1.trans (s2.trans s3)) r3 (r.getD k e3) q⟩
theorem de_get1 (hu : X.A.units + 1 < cLine) (ho : DE X o Wo) (he : DE X e Wk) (m : M1 X o "get" apos e cpos := by exact ⟨rfl, rfl, rfl, rfl⟩) : DE X (.Call (.Attribute o "get" apos) [e] [] cpos) (wGet1 Wo Wk) := by
  obtain ⟨to, qo, ho⟩ := ho.ex
  obtain ⟨te, qe, he⟩ := he.ex
  refine ⟨_, pe_dget1 hu qo qe m, fun Z σ s H O Q R rs ro w po => ?_⟩
  refine ho _ _ _ _ _ _ _ rs ro w fun v H1 Z1 d O1 s1 r1 e1 ⟨⟨kvs0, h0⟩, w1⟩ => ?_
  obtain ⟨p, rfl, hp⟩ := isD_of r1 e1 h0
  refine ⟨p, rfl, hp, ?_⟩
  refine he _ _ _ _ _ _ _ (rs.mono s1) r1 w1 fun u H2 Z2 y O2 s2 r2 e2 ⟨kvs, k, hk, hy, q⟩ => ?_
  obtain ⟨p', us, ep, _, r, g⟩ := dget_of r2 (e1.mono s2) e2 hk hy
  cases ep
  exact ⟨_, g, po _ _ _ _ _ (s1.trans s2) r2 (r.getD k .non) q⟩
theorem de_dpop (ho : DE X o Wo) (he : DE X e Wk) (m : M1 X o "pop" apos e cpos := by exact ⟨rfl, rfl, rfl, rfl⟩) : DE X (.Call (.Attribute o "pop" apos) [e] [] cpos) (wDPop Wo Wk) := by
  obtain ⟨to, qo, ho⟩ := ho.ex
  obtain ⟨te, qe, he⟩ := he.ex
  refine ⟨_, pe_dpop1 qo qe m, fun Z σ s H O Q R rs ro w po => ?_⟩
  refine ho _ _ _ _ _ _ _ rs ro w fun v H1 Z1 d O1 s1 r1 e1 w1 => ?_
  match d, e1, w1 with
  | .ref a, .ref, ⟨h0, w1⟩ =>
    refine ⟨a, rfl, ?_, ?_⟩
    · cases e : O1 a with
      | none => rw [e] at h0; exact h0.elim
      | some m =>
        rw [e] at h0
        cases m with
        | dic kvs => obtain ⟨us, hu, _⟩ := r1.own _ _ e; exact .inl ⟨us, .inl hu⟩
        | _ => exact h0.elim
    · refine he _ _ _ _ _ _ _ (rs.mono s1) r1 w1 fun u H2 Z2 y O2 s2 r2 e2 w2 => ?_
      cases e : O2 a with
      | none => rw [e] at w2; exact w2.elim
      | some m =>
        rw [e] at w2
        cases m with
        | dic kvs =>
          obtain ⟨k, d, hk, hv, q⟩ := w2
          obtain ⟨us, hu, ru⟩ := r2.own _ _ e
          obtain ⟨v, hv', rv⟩ := ru.val_some hv
          refine ⟨us, k, v, hu, keyD_ok e2 hk, hv', ?_⟩
          exact po _ _ _ _ _ (s1.trans s2) (r2.put (m' := .dic (dropG kvs k)) e rfl ⟨_, upd_same, ru.drop k⟩) rv q
        | _ => exact w2.elim
end

/-! ### x[i] = v -/
def setM (a : Addr) (y d : D) (O : OO) (Q : OO → Prop) : Option MO → Prop
  | some (.lst ds) => (match y with | .int k => ∃ j, ixN ds.length k = some j ∧ Q (updO O a (.lst (ds.set j d))) | _ => False)
  | some (.dic kvs) => (match keyD y with | some k => kvs.length < sizeLine ∧ Q (updO O a (.dic (putG kvs k d))) | none => False)
  | _ => False
def wgSub (Wo Wi : WE) : WG := fun d s O Q => Wo s O fun x O1 => Wi s O1 fun y O2 => match x with | .ref a => setM a y d O2 (fun O3 => Q s O3) (O2 a) | _ => False
theorem pset_or {X : Cx} {t t' : TSet} (h : PSet X t) (h' : PSet X t') : PSet X (fun o i v H Q => t o i v H Q ∨ t' o i v H Q) := fun pins s σ H o i v ov iv u Q I ro ri rv q =>
  q.elim (h pins s σ H o i v ov iv u Q I ro ri rv) (h' pins s σ H o i v ov iv u Q I ro ri rv)
section
variable {X : Cx} {pos : Pos} {o i : Expr} {Wo Wi : WE}
theorem dg_sub (hu : X.A.units + 1 < cLine) (ho : DE X o Wo) (hi : DE X i Wi)
    (ha : ∀ v, assign (.Subscript o i pos) X.env v = (do
      let ov ← holding [v] (eval o X.env)
      let iv ← holding [v, ov] (eval i X.env)
      standAt pos
      holding [v, ov, iv] (setItem ov iv v)
      release [v, ov, iv] []) := by intro _; rfl) : DG X (.Subscript o i pos) (wgSub Wo Wi) := by
  obtain ⟨to, qo, ho⟩ := ho.ex
  obtain ⟨ti, qi, hi⟩ := hi.ex
  refine ⟨_, pg_sub qo qi (pset_or set_list (set_dict hu)) ha, fun Z σ s H O d v Q R rs ro r w po => ?_⟩
  refine ho _ _ _ _ _ _ _ rs ro w fun u H1 Z1 x O1 s1 r1 e1 w1 => ?_
  refine hi _ _ _ _ _ _ _ (rs.mono s1) r1 w1 fun u2 H2 Z2 y O2 s2 r2 e2 w2 => ?_
  have e1' := e1.mono s2
  match x, e1', w2 with
  | .ref a, .ref, w2 =>
    replace w2 : setM a y d O2 (fun O3 => Q s O3) (O2 a) := w2
    have sm := s1.trans s2
    cases e : O2 a with
    | none => rw [e] at w2; exact w2.elim
    | some m =>
      rw [e] at w2
      cases m with
      | lst ds =>
        match y, e2, w2 with
        | .int k, .int, ⟨j, hj, q⟩ =>
          obtain ⟨vs, hv, rv⟩ := r2.own _ _ e
          refine .inl ⟨a, vs, k, j, rfl, rfl, hv, by rw [← rv.length]; exact hj, ?_⟩
          exact po _ _ _ _ _ sm (rs.mono sm) (r2.put (m' := .lst (ds.set j d)) e rfl ⟨_, upd_same, rv.set (r.mono sm) j⟩) q
      | dic kvs =>
        replace w2 : (match keyD y with | some k => kvs.length < sizeLine ∧ Q s (updO O2 a (.dic (putG kvs k d))) | none => False) := w2
        cases ek : keyD y with
        | none => rw [ek] at w2; exact w2.elim
        | some k =>
          rw [ek] at w2
          obtain ⟨hl, q⟩ := w2
          obtain ⟨us, hu', ru⟩ := r2.own _ _ e
          refine .inr ⟨a, _, rfl, .inl ⟨us, k, hu', keyD_ok e2 ek, by rw [← ru.len]; exact hl, rfl⟩, ?_⟩
          exact po _ _ _ _ _ sm (rs.mono sm) (r2.put (m' := .dic (putG kvs k d)) e rfl ⟨_, upd_same, ru.put (r.mono sm)⟩) q
      | _ => exact w2.elim
end

/-! ### attributes -/
def putFD (f : Str) (v : D) : List (Str × D) → List (Str × D)
  | [] => [(f, v)]
  | (g, x) :: r => if g = f then (g, v) :: r else (g, x) :: putFD f v r
theorem RepF.put {Z : Hp} {f : Str} {d : D} {v : V} (h : Rep Z d v) : ∀ {fs us}, RepF Z fs us → RepF Z (putFD f d fs) (putF f v us)
  | [], _, e => by
    subst e
    exact ⟨v, [], rfl, h, rfl⟩
  | (g, x) :: r, _, ⟨w, t, e, hw, ht⟩ => by
    subst e
    unfold putFD putF
    by_cases hg : g = f
    · rw [if_pos hg, if_pos hg]
      exact ⟨v, t, rfl, h, ht⟩
    · rw [if_neg hg, if_neg hg]
      exact ⟨w, _, rfl, hw, RepF.put h ht⟩
theorem RepF.len {Z : Hp} : ∀ {fs us}, RepF Z fs us → fs.length = us.length
  | [], _, e => by subst e; rfl
  | (g, x) :: r, _, ⟨w, t, e, hw, ht⟩ => by subst e; simp [RepF.len ht]
def fldM (C : Addr) (f : Str) (Q : D → Prop) : Option MO → Prop
  | some (.ins C' fs) => C' = C ∧ match fs.lookup f with | some v => Q v | none => False
  | _ => False
def wFld (C : Addr) (f : Str) (Wo : WE) : WE := fun s O Q => Wo s O fun d O1 => match d with | .ref a => fldM C f (fun v => Q v O1) (O1 a) | _ => False
def sfldM (C : Addr) (a : Addr) (f : Str) (y : D) (O : OO) (Q : OO → Prop) : Option MO → Prop
  | some (.ins C' fs) => C' = C ∧ fs.length < 1000 ∧ Q (updO O a (.ins C (putFD f y fs)))
  | _ => False
def wSFld (C : Addr) (f : Str) (Wo Wv : WE) : WS := fun D s O => Wv s O fun y O1 => Wo s O1 fun d O2 => match d with | .ref a => sfldM C a f y O2 (D.nx s) (O2 a) | _ => False
section
variable {X : Cx} {pos pos' : Pos} {o value : Expr} {Wo Wv : WE} {C : Addr} {f : Str}
theorem de_fld (c : Cls X.K C) (n : NoAttr X.K C f) (ho : DE X o Wo) (hb : attributeBase o f X.env (eval o X.env) = eval o X.env := by rfl) : DE X (.Attribute o f pos) (wFld C f Wo) := by
  obtain ⟨to, qo, ho⟩ := ho.ex
  refine ⟨_, pe_fld qo hb, fun Z σ s H O Q R rs ro w po => ?_⟩
  refine ho _ _ _ _ _ _ _ rs ro w fun v H1 Z1 d O1 s1 r1 e1 w1 => ?_
  match d, e1, w1 with
  | .ref a, .ref, w1 =>
    replace w1 : fldM C f (fun v => Q v O1) (O1 a) := w1
    cases e : O1 a with
    | none => rw [e] at w1; exact w1.elim
    | some m =>
      rw [e] at w1
      cases m with
      | ins C' fs =>
        obtain ⟨hC, w3⟩ := w1
        subst hC
        obtain ⟨dx, us, hu, ru⟩ := r1.own _ _ e
        replace w3 : (match fs.lookup f with | some v => Q v O1 | none => False) := w3
        cases el : fs.lookup f with
        | none => rw [el] at w3; exact w3.elim
        | some x =>
          rw [el] at w3
          obtain ⟨w, hw, rw'⟩ := ru.lookup_some el
          exact ⟨a, _, dx, us, w, rfl, hu, c, n, hw, po _ _ _ _ _ s1 r1 rw' w3⟩
      | _ => exact w1.elim
theorem ds_fld (c : Cls X.K C) (n : NoAttr X.K C f) (ho : DE X o Wo) (hv : DE X value Wv) (hs : swapsWith value (some (.Attribute o f pos')) pos.line X.env = pure false := by rfl) : DS X (.Assign [.Attribute o f pos'] value pos) (wSFld C f Wo Wv) := by
  obtain ⟨to, qo, ho⟩ := ho.ex
  obtain ⟨tv, qv, hv⟩ := hv.ex
  refine ⟨_, ps_fld qo qv hs, fun Z σ s H O D E rs ro w po => ?_⟩
  refine hv _ _ _ _ _ _ _ rs ro w fun v H1 Z1 y O1 s1 r1 e1 w1 => ?_
  refine ho _ _ _ _ _ _ _ (rs.mono s1) r1 w1 fun u H2 Z2 d O2 s2 r2 e2 w2 => ?_
  match d, e2, w2 with
  | .ref a, .ref, w2 =>
    replace w2 : sfldM C a f y O2 (D.nx s) (O2 a) := w2
    cases e : O2 a with
    | none => rw [e] at w2; exact w2.elim
    | some m =>
      rw [e] at w2
      cases m with
      | ins C' fs =>
        obtain ⟨rfl, hl, q⟩ := w2
        obtain ⟨dx, us, hu, ru⟩ := r2.own _ _ e
        refine ⟨a, _, dx, us, rfl, hu, c, n, by rw [← ru.len]; exact hl, ?_⟩
        exact po.nx _ _ _ _ _ (s1.trans s2) (rs.mono (s1.trans s2)) (r2.put (m' := .ins _ (putFD f y fs)) e rfl ⟨dx, _, upd_same, ru.put (e1.mono s2)⟩) q
      | _ => exact w2.elim
end

def wPar3 (i j l : Nat) (W : WA) : WS := fun D s O => W s O fun ds O1 => match ds with | [d, e, f] => D.nx (((s.set i (some d)).set j (some e)).set l (some f)) O1 | _ => False
theorem ds_par3 {X : Cx} {pos : Pos} (i j l : Nat) {x y z : Str} {a b c : Expr} {WAr : WA} {px py pz pt : Pos} {kt k2 pt2} (hc : X.calm = true) (hN : X.N.Nodup) (ha : DA X [a, b, c] WAr) (hi : X.N[i]? = some x := by rfl) (hj : X.N[j]? = some y := by rfl) (hl : X.N[l]? = some z := by rfl) (hij : i ≠ j := by decide) (hil : i ≠ l := by decide) (hjl : j ≠ l := by decide)
    (hx : X.env.scope.names.lookup x = some .local := by rfl) (hy : X.env.scope.names.lookup y = some .local := by rfl) (hz : X.env.scope.names.lookup z = some .local := by rfl)
    (hw : swappedStores [.Tuple [.Name x px, .Name y py, .Name z pz] kt pt] (.Tuple [a, b, c] k2 pt2) X.env = pure (some [x, y, z]) := by rfl)
    (hs : swapsWithSole [.Tuple [.Name x px, .Name y py, .Name z pz] kt pt] (.Tuple [a, b, c] k2 pt2) pos.line X.env = pure false := by rfl) :
    DS X (.Assign [.Tuple [.Name x px, .Name y py, .Name z pz] kt pt] (.Tuple [a, b, c] k2 pt2) pos) (wPar3 i j l WAr) := by
  obtain ⟨t, p, h⟩ := ha.ex
  refine ⟨_, ps_par3 hc hN hi hj hl hij hil hjl hx hy hz p hw hs, fun Z σ s H O D E rs ro w po => ?_⟩
  refine h _ _ _ _ _ _ _ rs ro w fun vs H1 Z1 ds O1 l1 s1 r1 e1 w1 => ?_
  match ds, vs, e1, w1 with
  | [d, e, f], _, .cons a (.cons b (.cons c .nil)), w1 => exact ⟨_, _, _, rfl, po.nx _ _ _ _ _ s1 ((((rs.mono s1).set i a).set j b).set l c) r1 w1⟩

/-! ### slices -/
abbrev WO := SD → OO → (Option Int → OO → Prop) → Prop
structure DO (X : Cx) (e : Option Expr) (W : WO) : Prop where
  ex : ∃ t, PO X e t ∧ ∀ Z σ s H O Q (R : Option Int → Hp → Prop), RelS Z σ s → RelO Z H O → W s O Q → (∀ i H' Z' O', Same Z Z' → RelO Z' H' O' → Q i O' → R i H') → t σ H R
def wNoP : WO := fun _ O Q => Q none O
def wPart (W : WE) : WO := fun s O Q => W s O fun d O1 => match d with | .int i => Q (some i) O1 | _ => False
def cutD (xs : List D) (lo hi : Option Int) : List D := (xs.drop (HT.sIx xs.length 0 lo)).take (HT.sIx xs.length xs.length hi - HT.sIx xs.length 0 lo)
def slM (lo hi : Option Int) (O : OO) (Q : D → OO → Prop) : Option MO → Prop
  | some (.lst ds) => ∀ a, O a = none → Q (.ref a) (updO O a (.lst (cutD ds lo hi)))
  | _ => False
def slD (d : D) (lo hi : Option Int) (O : OO) (Q : D → OO → Prop) : Prop := match d with
  | .lst ds => ∀ a, O a = none → Q (.ref a) (updO O a (.lst (cutD ds lo hi)))
  | .tup ds => Q (.tup (cutD ds lo hi)) O
  | .str z => z.length ≤ sizeLine ∧ Q (.str (cutS z lo hi)) O
  | .ref a => slM lo hi O Q (O a)
  | _ => False
def wSl (Wo : WE) (Wl Wh : WO) : WE := fun s O Q => Wo s O fun d O1 => Wl s O1 fun l O2 => Wh s O2 fun h O3 => slD d l h O3 Q
theorem slD_cases {d lo hi O Q} (h : slD d lo hi O Q) : (∃ ds, asL d O = some ds ∧ ∀ a, O a = none → Q (.ref a) (updO O a (.lst (cutD ds lo hi)))) ∨ (∃ ds, d = .tup ds ∧ Q (.tup (cutD ds lo hi)) O) ∨ ∃ z, d = .str z ∧ z.length ≤ sizeLine ∧ Q (.str (cutS z lo hi)) O := by
  cases d with
  | lst ds => exact .inl ⟨ds, rfl, h⟩
  | tup ds => exact .inr (.inl ⟨ds, rfl, h⟩)
  | str z => exact .inr (.inr ⟨z, rfl, h⟩)
  | ref a =>
    replace h : slM lo hi O Q (O a) := h
    cases e : O a with
    | none => rw [e] at h; exact h.elim
    | some m =>
      rw [e] at h
      cases m with
      | lst ds => exact .inl ⟨ds, by show asLM (O a) = _; rw [e]; rfl, h⟩
      | _ => exact h.elim
  | _ => exact h.elim
theorem Reps.cut {Z : Hp} {ds vs} (r : Reps Z ds vs) (lo hi : Option Int) : Reps Z (cutD ds lo hi) (cutV vs lo hi) := by
  unfold cutD cutV
  rw [r.length]
  exact (r.drop _).take _
section
variable {X : Cx} {pos p2 : Pos} {e : Expr} {lo hi : Option Expr} {We : WE} {Wl Wh : WO}
theorem do_none : DO X none wNoP := ⟨_, po_none, fun Z σ s H O Q R rs ro w po => po _ _ _ _ (Same.refl _) ro w⟩
theorem do_some (he : DE X e We) : DO X (some e) (wPart We) := by
  obtain ⟨t, q, h⟩ := he.ex
  refine ⟨_, po_some q, fun Z σ s H O Q R rs ro w po => ?_⟩
  refine h _ _ _ _ _ _ _ rs ro w fun v H1 Z1 d O1 s1 r1 e1 w1 => ?_
  match d, e1, w1 with
  | .int i, .int, w1 => exact ⟨i, rfl, po _ _ _ _ s1 r1 w1⟩
theorem de_sl (he : DE X e We) (hl : DO X lo Wl) (hh : DO X hi Wh) : DE X (.Subscript e (.Slice lo hi none p2) pos) (wSl We Wl Wh) := by
  obtain ⟨te, qe, he⟩ := he.ex
  obtain ⟨tl, ql, hl⟩ := hl.ex
  obtain ⟨th, qh, hh⟩ := hh.ex
  refine ⟨_, pe_slice (sl_list.or (sl_tupA.or sl_str)) qe ql qh, fun Z σ s H O Q R rs ro w po => ?_⟩
  refine he _ _ _ _ _ _ _ rs ro w fun v H1 Z1 d O1 s1 r1 e1 w1 => ?_
  refine hl _ _ _ _ _ _ _ (rs.mono s1) r1 w1 fun l H2 Z2 O2 s2 r2 w2 => ?_
  refine hh _ _ _ _ _ _ _ (rs.mono (s1.trans s2)) r2 w2 fun h H3 Z3 O3 s3 r3 w3 => ?_
  have e3 := e1.mono (s2.trans s3)
  have po3 := po.mono (s1.trans (s2.trans s3))
  rcases slD_cases w3 with ⟨ds, hd, q⟩ | ⟨ds, rfl, q⟩ | ⟨z, rfl, hz, q⟩
  · obtain ⟨p, vs, rfl, hp, rv⟩ := asL_ok r3 e3 hd
    refine .inl ⟨p, vs, rfl, .inl (.inl hp), fun a ha => ?_⟩
    exact po3 _ _ _ _ _ (Same.refl _) (r3.new (m := .lst _) ha ⟨_, upd_same, rv.cut l h⟩) .ref (q a (r3.free ha))
  · obtain ⟨p, vs, rfl, hp, rv⟩ := tup_ok r3 e3
    refine .inr (.inl ⟨p, vs, rfl, .inl (.inl hp), fun hw => ?_, fun _ a ha => ?_⟩)
    · have ec : cutD ds l h = ds := by
        unfold cutD
        rw [rv.length, hw.1, hw.2, List.drop_zero, Nat.sub_zero, ← rv.length, List.take_length]
      rw [ec] at q
      exact po3 _ _ _ _ _ (Same.refl _) r3 e3 q
    · obtain ⟨s4, r4⟩ := r3.newZ (u := .tup (cutV vs l h)) ha
      exact po3 _ _ _ _ _ s4 r4 (.tup upd_same ((rv.cut l h).mono s4)) q
  · cases e3
    exact .inr (.inr ⟨z, rfl, hz, po3 _ _ _ _ _ (Same.refl _) r3 .str q⟩)
end

/-! ### {k: v, ..} -/
abbrev WP := SD → OO → (List (Key × D) → OO → Prop) → Prop
structure DP (X : Cx) (pos : Pos) (ks : List (Option Expr)) (vs : List Expr) (W : WP) : Prop where
  ex : ∃ t, PPs X pos ks vs t ∧ ∀ Z σ s H O Q (R : List (V × V) → Hp → Prop), RelS Z σ s → RelO Z H O → W s O Q →
    (∀ ps H' Z' kvs us O', kvs.length = ks.length → Same Z Z' → RelO Z' H' O' → RepK Z' kvs us → ps = us.map (fun kv => (kV kv.1, kv.2)) → Q kvs O' → R ps H') → tPairs t σ H R
def wpNil : WP := fun _ O Q => Q [] O
def wpCons (Wk Wv : WE) (Wr : WP) : WP := fun s O Q => Wk s O fun y O1 => Wv s O1 fun d O2 => ∃ k, keyD y = some k ∧ Wr s O2 fun kvs O3 => Q ((k, d) :: kvs) O3
def wDisp (W : WP) : WE := fun s O Q => ∀ a, O a = none → W s (updO O a (.dic [])) fun kvs O2 => O2 a = some (.dic []) ∧ Q (.ref a) (updO O2 a (.dic (mergeG [] kvs)))
section
variable {X : Cx} {pos : Pos} {k v : Expr} {ks : List (Option Expr)} {vs : List Expr} {Wk Wv : WE} {W : WP}
theorem dp_nil : DP X pos [] [] wpNil := ⟨_, pps_nil, fun Z σ s H O Q R rs ro w po => po [] H Z [] [] O rfl (Same.refl _) ro .nil rfl w⟩
theorem dp_cons (hk : DE X k Wk) (hv : DE X v Wv) (hr : DP X pos ks vs W) : DP X pos (some k :: ks) (v :: vs) (wpCons Wk Wv W) := by
  obtain ⟨tk, qk, hk⟩ := hk.ex
  obtain ⟨tv, qv, hv⟩ := hv.ex
  obtain ⟨tr, qr, hr⟩ := hr.ex
  refine ⟨_, pps_cons qk qv qr, fun Z σ s H O Q R rs ro w po => ?_⟩
  refine hk _ _ _ _ _ _ _ rs ro w fun x H1 Z1 y O1 s1 r1 e1 w1 => ?_
  refine hv _ _ _ _ _ _ _ (rs.mono s1) r1 w1 fun u H2 Z2 d O2 s2 r2 e2 ⟨kk, hkk, w2⟩ => ?_
  refine hr _ _ _ _ _ _ _ (rs.mono (s1.trans s2)) r2 w2 fun ps H3 Z3 kvs us O3 l3 s3 r3 e3 ep w3 => ?_
  subst ep
  refine po _ H3 Z3 ((kk, d) :: kvs) ((kk, u) :: us) O3 (by simp [l3]) (s1.trans (s2.trans s3)) r3 (.cons (e2.mono s3) e3) ?_ w3
  rw [List.map_cons, keyD_ok e1 hkk]
theorem de_disp (h : DP X pos ks vs W) (hall : ks.all (·.isSome) = true := by rfl) (hl : ks.length = vs.length := by rfl) (h0 : ks ≠ [] := by exact fun z => nomatch z) (h15 : ks.length ≤ 15 := by decide) : DE X (.Dict ks vs pos) (wDisp W) := by
  obtain ⟨t, q, h⟩ := h.ex
  refine ⟨_, pe_disp q hall hl h0 h15, fun Z σ s H O Q R rs ro w po p hp => ?_⟩
  refine h _ _ _ _ _ _ _ rs (ro.new (m := .dic []) hp ⟨[], upd_same, .nil⟩) (w p (ro.free hp)) fun ps H' Z' kvs us O' l' s' r' e' ep w' => ?_
  obtain ⟨h1, h2⟩ := w'
  obtain ⟨us0, hu0, ru0⟩ := r'.own _ _ h1
  cases ru0
  refine ⟨hu0, us, ep, by rw [← e'.len, l']; exact h15, ?_⟩
  exact po _ _ _ _ _ s' (r'.put (m' := .dic (mergeG [] kvs)) h1 rfl ⟨_, upd_same, e'.merge .nil⟩) .ref h2
end
end TD

set_option Elab.async false
set_option linter.all false
set_option maxRecDepth 100000
set_option maxHeartbeats 1000000
/-! TD: walks, for, comprehensions, list(d.items()), dict(pairs) -/
namespace TD
open PySem PySem.Spec PyProof.Rows L2

/-! ### what is walked: the items, and what must stay true for the walk to go on -/
abbrev WI := SD → OO → (List D → (OO → Prop) → OO → Prop) → Prop
def Wk (Z : Hp) (J : It) (ds : List D) (C : OO → Prop) : Prop := ∀ Z' H O i, Same Z Z' → RelO Z' H O → C O → (i = ds.length → J.stop i H) ∧
  ∀ d, ds[i]? = some d → J.go i H ∧ ∀ x H', J.yld i H x H' → ∃ Z2, Same Z' Z2 ∧ RelO Z2 H' O ∧ Rep Z2 d x
structure DI (X : Cx) (tg e : Expr) (W : WI) : Prop where
  ex : ∃ t, PI X tg e t ∧ ∀ Z σ s H O K (R : It → Hp → Prop), RelS Z σ s → RelO Z H O → W s O K → (∀ J Z' H' O' ds C, Same Z Z' → RelO Z' H' O' → K ds C O' → Wk Z' J ds C → R J H') → t σ H R
theorem wk_list {Z : Hp} {K : PySem.W.Frag} {p : Addr} {ds : List D} {vs : List V} (e : Z p = some (.lst vs)) (r : Reps Z ds vs) : Wk Z (Itl K p) ds (fun _ => True) := by
  intro Z' H O i s ro _
  have q : SqL K H p vs := .inl (.inl (ro.sub.at (s _ _ e) rfl))
  refine ⟨fun hi => ⟨vs, q, by rw [← r.length]; omega⟩, fun d hd => ?_⟩
  obtain ⟨v, hv, rv⟩ := r.get hd
  exact ⟨⟨vs, v, q, hv⟩, fun x H' ⟨eh, y⟩ => by
    subst eh
    have := y vs q
    rw [hv] at this
    cases this
    exact ⟨Z', Same.refl _, ro, rv.mono s⟩⟩
theorem wk_listO {Z : Hp} {K : PySem.W.Frag} {p : Addr} {ds : List D} : Wk Z (Itl K p) ds (fun O => O p = some (.lst ds)) := by
  intro Z' H O i s ro e
  obtain ⟨vs, hv, r⟩ := ro.own _ _ e
  have q : SqL K H p vs := .inl (.inl hv)
  refine ⟨fun hi => ⟨vs, q, by rw [← r.length]; omega⟩, fun d hd => ?_⟩
  obtain ⟨v, hv2, rv⟩ := r.get hd
  exact ⟨⟨vs, v, q, hv2⟩, fun x H' ⟨eh, y⟩ => by
    subst eh
    have := y vs q
    rw [hv2] at this
    cases this
    exact ⟨Z', Same.refl _, ro, rv⟩⟩
theorem wk_tup {Z : Hp} {K : PySem.W.Frag} {p : Addr} {ds : List D} {vs : List V} (e : Z p = some (.tup vs)) (r : Reps Z ds vs) : Wk Z (Itt K p) ds (fun _ => True) := by
  intro Z' H O i s ro _
  have q : SqT K H p vs := .inl (.inl (ro.sub.at (s _ _ e) rfl))
  refine ⟨fun hi => ⟨vs, q, by rw [← r.length]; omega⟩, fun d hd => ?_⟩
  obtain ⟨v, hv, rv⟩ := r.get hd
  exact ⟨⟨vs, v, q, hv⟩, fun x H' ⟨eh, y⟩ => by
    subst eh
    have := y vs q
    rw [hv] at this
    cases this
    exact ⟨Z', Same.refl _, ro, rv.mono s⟩⟩
/-- lists and tuples: iter as it stands; a live list must stay -/
def seqM (a : Addr) (O : OO) (K : List D → (OO → Prop) → OO → Prop) : Option MO → Prop
  | some (.lst ds) => K ds (fun O => O a = some (.lst ds)) O
  | _ => False
def seqI (d : D) (O : OO) (K : List D → (OO → Prop) → OO → Prop) : Prop := match d with
  | .lst ds => K ds (fun _ => True) O
  | .ref a => seqM a O K (O a)
  | _ => False
def wiL (W : WE) : WI := fun s O K => W s O fun d O1 => seqI d O1 K
def wiT (W : WE) : WI := fun s O K => W s O fun d O1 => match d with | .tup ds => K ds (fun _ => True) O1 | _ => False
def wiS (W : WE) : WI := fun s O K => W s O fun d O1 => match d with | .str z => K (z.cps.toList.map fun c => .str ⟨#[c]⟩) (fun _ => True) O1 | _ => False
def wiR1 (W : WA) : WI := fun s O K => W s O fun ds O1 => match ds with | [.int j] => -(2 ^ 62) ≤ j ∧ j < 2 ^ 62 ∧ K ((List.range j.toNat).map fun i => .int (i : Nat)) (fun _ => True) O1 | _ => False
def wiR2 (W : WA) : WI := fun s O K => W s O fun ds O1 => match ds with | [.int i, .int j] => (-(2 ^ 62) ≤ i ∧ i < 2 ^ 62 ∧ -(2 ^ 62) ≤ j ∧ j < 2 ^ 62) ∧ K ((List.range (j - i).toNat).map fun k => .int (i + (k : Nat))) (fun _ => True) O1 | _ => False
section
variable {X : Cx} {tg e : Expr} {W : WE}
theorem di_list (h : DE X e W) : DI X tg e (wiL W) := by
  obtain ⟨t, q, h⟩ := h.ex
  refine ⟨_, pi_list q, fun Z σ s H O K R rs ro w k => ?_⟩
  refine h _ _ _ _ _ _ _ rs ro w fun v H1 Z1 d O1 s1 r1 e1 w1 => ?_
  cases d with
  | lst ds =>
    cases e1 with
    | lst ez rz => exact ⟨_, rfl, ⟨_, .inl (.inl (r1.sub.at ez rfl))⟩, k _ _ _ _ _ _ s1 r1 w1 (wk_list ez rz)⟩
  | ref a =>
    cases e1
    replace w1 : seqM a O1 K (O1 a) := w1
    cases e : O1 a with
    | none => rw [e] at w1; exact w1.elim
    | some m =>
      rw [e] at w1
      cases m with
      | lst ds =>
        obtain ⟨vs, hv, _⟩ := r1.own _ _ e
        exact ⟨_, rfl, ⟨vs, .inl (.inl hv)⟩, k _ _ _ _ _ _ s1 r1 w1 wk_listO⟩
      | _ => exact w1.elim
  | _ => exact w1.elim
theorem di_tup (h : DE X e W) : DI X tg e (wiT W) := by
  obtain ⟨t, q, h⟩ := h.ex
  refine ⟨_, pi_tup q, fun Z σ s H O K R rs ro w k => ?_⟩
  refine h _ _ _ _ _ _ _ rs ro w fun v H1 Z1 d O1 s1 r1 e1 w1 => ?_
  match d, e1, w1 with
  | .tup ds, .tup ez rz, w1 => exact ⟨_, rfl, ⟨_, .inl (.inl (r1.sub.at ez rfl))⟩, k _ _ _ _ _ _ s1 r1 w1 (wk_tup ez rz)⟩
theorem di_str (h : DE X e W) : DI X tg e (wiS W) := by
  obtain ⟨t, q, h⟩ := h.ex
  refine ⟨_, pi_str q, fun Z σ s H O K R rs ro w k => ?_⟩
  refine h _ _ _ _ _ _ _ rs ro w fun v H1 Z1 d O1 s1 r1 e1 w1 => ?_
  match d, e1, w1 with
  | .str z, .str, w1 =>
    refine ⟨z, rfl, k _ _ _ _ _ _ s1 r1 w1 ?_⟩
    intro Z' H O i s ro _
    refine ⟨fun hi => ?_, fun d hd => ?_⟩
    · show z.cps.size ≤ i
      rw [hi, List.length_map, Array.length_toList]
      exact Nat.le_refl _
    · rw [List.getElem?_map] at hd
      obtain ⟨c, hc, rfl⟩ := Option.map_eq_some_iff.mp hd
      rw [Array.getElem?_toList] at hc
      refine ⟨(Array.getElem?_eq_some_iff.mp hc).1, fun x H' ⟨eh, c', hc', ex⟩ => ?_⟩
      subst eh ex
      rw [hc] at hc'
      cases hc'
      exact ⟨Z', Same.refl _, ro, .str⟩
variable {a b : Expr} {p pos : Pos} {Wa : WA}
theorem wk_rng {Z : Hp} {lo : Int} {n : Nat} {ds : List D} (hd : ds = (List.range n).map fun i => D.int (lo + (i : Nat))) : Wk Z (Itr lo n) ds (fun _ => True) := by
  subst hd
  intro Z' H O i s ro _
  refine ⟨fun hi => ?_, fun d hd => ?_⟩
  · show n ≤ i
    rw [hi, List.length_map, List.length_range]
    exact Nat.le_refl _
  · rw [List.getElem?_map] at hd
    obtain ⟨c, hc, rfl⟩ := Option.map_eq_some_iff.mp hd
    have hl : i < n := by
      have := (List.getElem?_eq_some_iff.mp hc).1
      simpa using this
    rw [List.getElem?_range hl] at hc
    cases hc
    refine ⟨hl, fun x H' ⟨eh, ex⟩ => ?_⟩
    subst eh ex
    exact ⟨Z', Same.refl _, ro, .int⟩
theorem di_range1 (hg : Gl X "range") (hm : X.mg "range" = none) (ha : DA X [a] Wa) (hs : starEach [a] X.env = [(false, eval a X.env)] := by rfl) : DI X tg (.Call (.Name "range" p) [a] [] pos) (wiR1 Wa) := by
  obtain ⟨t, q, h⟩ := ha.ex
  refine ⟨_, pi_range1 hg hm q hs, fun Z σ s H O K R rs ro w k => ?_⟩
  refine h _ _ _ _ _ _ _ rs ro w fun vs H1 Z1 ds O1 l1 s1 r1 e1 w1 => ?_
  match ds, e1, w1 with
  | [.int j], .cons .int .nil, w1 =>
    exact ⟨j, rfl, w1.1, w1.2.1, k _ _ _ _ _ _ s1 r1 w1.2.2 (wk_rng (by simp))⟩
theorem di_range2 (hg : Gl X "range") (hm : X.mg "range" = none) (ha : DA X [a, b] Wa) (hs : starEach [a, b] X.env = [(false, eval a X.env), (false, eval b X.env)] := by rfl) (hs2 : starEach [b] X.env = [(false, eval b X.env)] := by rfl) : DI X tg (.Call (.Name "range" p) [a, b] [] pos) (wiR2 Wa) := by
  obtain ⟨t, q, h⟩ := ha.ex
  refine ⟨_, pi_range2 hg hm q hs hs2, fun Z σ s H O K R rs ro w k => ?_⟩
  refine h _ _ _ _ _ _ _ rs ro w fun vs H1 Z1 ds O1 l1 s1 r1 e1 w1 => ?_
  match ds, e1, w1 with
  | [.int i, .int j], .cons .int (.cons .int .nil), w1 =>
    exact ⟨i, j, rfl, w1.1, k _ _ _ _ _ _ s1 r1 w1.2 (wk_rng rfl)⟩
end

/-! ### dicts: a frozen one is locked; a live one must be locked -/
def dicM (a : Addr) (O : OO) (K : List (Key × D) → (OO → Prop) → OO → Prop) : Option MO → Prop
  | some (.lkd od us kvs) => K kvs (fun O => O a = some (.lkd od us kvs)) O
  | _ => False
def dicI (d : D) (O : OO) (K : List (Key × D) → (OO → Prop) → OO → Prop) : Prop := match d with
  | .dic kvs => K kvs (fun _ => True) O
  | .ref a => dicM a O K (O a)
  | _ => False
def wiK (W : WE) : WI := fun s O K => W s O fun d O1 => dicI d O1 fun kvs C O2 => K (kvs.map fun kv => keyE kv.1) C O2
def wiIt (W : WE) : WI := fun s O K => W s O fun d O1 => dicI d O1 fun kvs C O2 => K (kvs.map fun kv => .tup [keyE kv.1, kv.2]) C O2
theorem rep_keyE {Z : Hp} (k : Key) : Rep Z (keyE k) (kV k) := by cases k <;> constructor
theorem RepK.get {Z : Hp} : ∀ {kvs us} {i : Nat} {k d}, RepK Z kvs us → kvs[i]? = some (k, d) → ∃ v, us[i]? = some (k, v) ∧ Rep Z d v
  | _, _, _, _, _, .nil, e => by simp at e
  | _, _, 0, _, _, .cons h _, e => by simp at e; obtain ⟨rfl, rfl⟩ := e; exact ⟨_, rfl, h⟩
  | _, _, i + 1, _, _, .cons _ r, e => by
    obtain ⟨v, h1, h2⟩ := RepK.get (i := i) r (by simpa using e)
    exact ⟨v, by simpa using h1, h2⟩
theorem wk_keys {Z : Hp} {d : Addr} {o : Obj} {us : List (Key × V)} {kvs : List (Key × D)} {C : OO → Prop} (hl : ∀ Z' H O, Same Z Z' → RelO Z' H O → C O → H d = some (.frz o (.dK us)) ∧ RepK Z' kvs us) : Wk Z (Itk d o us) (kvs.map fun kv => keyE kv.1) C := by
  intro Z' H O i s ro c
  obtain ⟨hd, r⟩ := hl Z' H O s ro c
  refine ⟨fun hi => ⟨hd, by rw [hi, List.length_map, r.len]; exact Nat.le_refl _⟩, fun x hx => ?_⟩
  rw [List.getElem?_map] at hx
  obtain ⟨⟨k, y⟩, hk, rfl⟩ := Option.map_eq_some_iff.mp hx
  obtain ⟨v, hv, rv⟩ := r.get hk
  refine ⟨⟨hd, (List.getElem?_eq_some_iff.mp hv).1⟩, fun x H' ⟨eh, k', v', hk', ex⟩ => ?_⟩
  subst eh ex
  rw [hv] at hk'
  cases hk'
  exact ⟨Z', Same.refl _, ro, rep_keyE k⟩
theorem wk_items {Z : Hp} {d : Addr} {o : Obj} {us : List (Key × V)} {kvs : List (Key × D)} {C : OO → Prop} (hl : ∀ Z' H O, Same Z Z' → RelO Z' H O → C O → H d = some (.frz o (.dK us)) ∧ RepK Z' kvs us) : Wk Z (Iti d o us) (kvs.map fun kv => .tup [keyE kv.1, kv.2]) C := by
  intro Z' H O i s ro c
  obtain ⟨hd, r⟩ := hl Z' H O s ro c
  refine ⟨fun hi => ⟨hd, by rw [hi, List.length_map, r.len]; exact Nat.le_refl _⟩, fun x hx => ?_⟩
  rw [List.getElem?_map] at hx
  obtain ⟨⟨k, y⟩, hk, rfl⟩ := Option.map_eq_some_iff.mp hx
  obtain ⟨v, hv, rv⟩ := r.get hk
  refine ⟨⟨hd, (List.getElem?_eq_some_iff.mp hv).1⟩, fun x H' ⟨T, k', v', hk', ex, hT, eh⟩ => ?_⟩
  subst eh ex
  rw [hv] at hk'
  cases hk'
  obtain ⟨s2, r2⟩ := ro.newZ (u := .tup [kV k, v]) hT
  exact ⟨_, s2, r2, .tup upd_same (.cons (rep_keyE k) (.one (rv.mono s2)))⟩
section
variable {X : Cx} {tg e : Expr} {W : WE} {apos cpos : Pos}
theorem dicI_ok {Z H : Hp} {O : OO} {d : D} {v : V} {K : List (Key × D) → (OO → Prop) → OO → Prop} (ro : RelO Z H O) (r : Rep Z d v) (w : dicI d O K) : ∃ p o us kvs C, v = .ref p ∧ H p = some (.frz o (.dK us)) ∧ K kvs C O ∧
    ∀ Z' H O, Same Z Z' → RelO Z' H O → C O → H p = some (.frz o (.dK us)) ∧ RepK Z' kvs us := by
  cases r with
  | dic e r => exact ⟨_, _, _, _, _, rfl, ro.sub.at e rfl, w, fun Z' H O s ro _ => ⟨ro.sub.at (s _ _ e) rfl, r.mono s⟩⟩
  | @ref a =>
    replace w : dicM a O K (O a) := w
    cases e : O a with
    | none => rw [e] at w; exact w.elim
    | some m =>
      rw [e] at w
      cases m with
      | lkd od us kvs => exact ⟨_, _, _, _, _, rfl, (ro.own _ _ e).1, w, fun Z' H O s ro c => ro.own _ _ c⟩
      | _ => exact w.elim
  | _ => exact w.elim
theorem di_keys (h : DE X e W) : DI X tg e (wiK W) := by
  obtain ⟨t, q, h⟩ := h.ex
  refine ⟨_, pi_keys q, fun Z σ s H O K R rs ro w k => ?_⟩
  refine h _ _ _ _ _ _ _ rs ro w fun v H1 Z1 d O1 s1 r1 e1 w1 => ?_
  obtain ⟨p, o, us, kvs, C, rfl, hp, w2, hC⟩ := dicI_ok r1 e1 w1
  exact ⟨p, o, rfl, .inl ⟨us, hp, k _ _ _ _ _ _ s1 r1 w2 (wk_keys hC)⟩⟩
theorem di_items {elts : List Expr} {kk : Nat} {tpos : Pos} (h : DE X e W) (hbase : attributeBase e "items" X.env (eval e X.env) = eval e X.env := by rfl) (hline : (apos.endLine == cpos.line) = true := by rfl) :
    DI X (.Tuple elts kk tpos) (.Call (.Attribute e "items" apos) [] [] cpos) (wiIt W) := by
  obtain ⟨t, q, h⟩ := h.ex
  refine ⟨_, pi_items q hbase hline, fun Z σ s H O K R rs ro w k => ?_⟩
  refine h _ _ _ _ _ _ _ rs ro w fun v H1 Z1 d O1 s1 r1 e1 w1 => ?_
  obtain ⟨p, o, us, kvs, C, rfl, hp, w2, hC⟩ := dicI_ok r1 e1 w1
  exact ⟨p, o, us, rfl, hp, k _ _ _ _ _ _ s1 r1 w2 (wk_items hC)⟩
end

/-! ### for -/
def forN (g : WG) (B : WS) (C : OO → Prop) (D' : DEnds) : List D → SD → OO → Prop
  | [], s, O => C O ∧ D'.nx s O
  | d :: r, s, O => C O ∧ g d s O fun s2 O2 => B { D' with nx := forN g B C D' r, ct := forN g B C D' r, bk := D'.nx } s2 O2
def wFor (Wi : WI) (g : WG) (B : WS) : WS := fun D s O => Wi s O fun ds C O1 => forN g B C D ds s O1
theorem drop_cons {α : Type} {ds : List α} {i : Nat} {d : α} {r : List α} (h : ds.drop i = d :: r) : ds[i]? = some d ∧ ds.drop (i + 1) = r ∧ i < ds.length := by
  have hl : i < ds.length := by
    refine Nat.lt_of_not_le fun z => ?_
    rw [List.drop_eq_nil_of_le z] at h
    cases h
  rw [List.drop_eq_getElem_cons hl] at h
  injection h with h1 h2
  exact ⟨by rw [List.getElem?_eq_getElem hl, h1], h2, hl⟩
theorem drop_nil' {α : Type} {ds : List α} {i : Nat} (h : ds.drop i = []) (hi : i ≤ ds.length) : i = ds.length := by
  have := congrArg List.length h
  rw [List.length_drop] at this
  simp at this
  omega
section
variable {X : Cx} {pos : Pos} {tg iter : Expr} {body : List Stmt} {Wi : WI} {G : WG} {B : WS}
theorem ds_for (hp : PassesOwn (model X.prog X.w) X.A X.env X.xe) (hc : X.calm = true) (hi : DI X tg iter Wi) (hg : DG X tg G) (hb : DSs X body B)
    (hs : ∀ x, foldedSetIterable iter X.env x = pure x := by intro _; rfl) : DS X (.For tg iter body [] pos) (wFor Wi G B) := by
  obtain ⟨ti, qi, hi⟩ := hi.ex
  obtain ⟨g, qg, hg⟩ := hg.ex
  obtain ⟨tb, qb, hb⟩ := hb.ex
  refine ⟨_, ps_for hp hc qi qg qb hs, fun Z σ s H O D' E rs ro w po => ?_⟩
  refine hi _ _ _ _ _ _ _ rs ro w fun J Z1 H1 O1 ds C s1 r1 w1 wk => ?_
  refine ⟨fun i m σ H => m = ds.length - i ∧ i ≤ ds.length ∧ ∃ Z' s O, Same Z1 Z' ∧ RelS Z' σ s ∧ RelO Z' H O ∧ forN G B C D' (ds.drop i) s O, ⟨ds.length, by simp, Nat.zero_le _, Z1, s, O1, Same.refl _, rs.mono s1, r1, by simpa using w1⟩, ?_⟩
  rintro i m σ2 H2 ⟨rfl, hle, Z2, sd2, O2, s2, rs2, r2, w2⟩
  cases ed : ds.drop i with
  | nil =>
    rw [ed] at w2
    obtain ⟨hC, q⟩ := w2
    have hi' := drop_nil' ed hle
    exact .inl ⟨(wk Z2 H2 O2 i s2 r2 hC).1 hi', po.nx _ _ _ _ _ (s1.trans s2) rs2 r2 q⟩
  | cons d r =>
    rw [ed] at w2
    obtain ⟨hC, q⟩ := w2
    obtain ⟨hd, hr, hlt⟩ := drop_cons ed
    obtain ⟨hgo, hy⟩ := (wk Z2 H2 O2 i s2 r2 hC).2 d hd
    refine .inr ⟨hgo, fun σ' H' => ∃ Z' s O, Same Z1 Z' ∧ RelS Z' σ' s ∧ RelO Z' H' O ∧ forN G B C D' (ds.drop (i + 1)) s O, fun σ' H' hN => ⟨ds.length - (i + 1), by omega, rfl, hlt, hN⟩, fun x H' y => ?_⟩
    obtain ⟨Z3, s3, r3, rx⟩ := hy x H' y
    refine hg _ _ _ _ _ _ _ _ _ (rs2.mono s3) r3 rx q fun Z4 σ4 sd4 H4 O4 s4 rs4 r4 w4 => ?_
    have pn : PostN Z4 (forN G B C D' r) (fun σ' H' => ∃ Z' s O, Same Z1 Z' ∧ RelS Z' σ' s ∧ RelO Z' H' O ∧ forN G B C D' (ds.drop (i + 1)) s O) :=
      fun Z5 σ5 sd5 H5 O5 s5 rs5 r5 w5 => ⟨Z5, sd5, O5, s2.trans (s3.trans (s4.trans s5)), rs5, r5, by rw [hr]; exact w5⟩
    have sm := s1.trans (s2.trans (s3.trans s4))
    exact hb _ _ _ _ _ _ _ rs4 r4 w4 ⟨pn, po.rt.mono sm, po.nx.mono sm, pn⟩
end

/-! ### the largest readings (for the blocks of comprehensions) -/
def canE (W : WE) : TE := fun σ H R => ∃ Z s O Q, RelS Z σ s ∧ RelO Z H O ∧ W s O Q ∧ PostE Z Q R
def canT (W : WT) : TT := fun σ H R => ∃ Z s O Q, RelS Z σ s ∧ RelO Z H O ∧ W s O Q ∧ PostT Z Q R
theorem DE.can {X : Cx} {e : Expr} {W : WE} (h : DE X e W) : PE X e (canE W) := by
  obtain ⟨t, q, h⟩ := h.ex
  exact ⟨fun pins s σ H Q I ⟨Z, sd, O, Q', rs, ro, w, po⟩ => q.run pins s σ H Q I (h _ _ _ _ _ _ _ rs ro w po)⟩
theorem DT.can {X : Cx} {e : Expr} {W : WT} (h : DT X e W) : PT X e (canT W) := by
  obtain ⟨t, q, h⟩ := h.ex
  exact ⟨fun pins s σ H Q I ⟨Z, sd, O, Q', rs, ro, w, po⟩ => q.run pins s σ H Q I (h _ _ _ _ _ _ _ rs ro w po)⟩
/-- tests of a comprehension -/
structure DTs (X : Cx) (ifs : List Expr) (W : WT) : Prop where
  ex : PTs X ifs (canT W)
theorem dts_nil {X : Cx} : DTs X [] (fun _ O Q => Q true O) := ⟨⟨fun pins s σ H Q I ⟨Z, sd, O, Q', rs, ro, w, po⟩ => pts_nil.run pins s σ H Q I (po _ _ _ _ (Same.refl _) ro w)⟩⟩
theorem dts_one {X : Cx} {c : Expr} {W : WT} (h : DT X c W) : DTs X [c] W := ⟨pts_one h.can⟩
/-- a comprehension's target: only its own slots are written -/
structure DGW (X : Cx) (vs : List Nat) (tg : Expr) (W : WG) : Prop where
  ex : PG X tg (fun v σ H R => ∃ Z s O d Q, RelS Z σ s ∧ RelO Z H O ∧ Rep Z d v ∧ W d s O Q ∧ ∀ Z' σ' s' H' O', Same Z Z' → wipe σ' vs = wipe σ vs → RelS Z' σ' s' → RelO Z' H' O' → Q s' O' → R σ' H')
theorem wipe_set : ∀ {vs : List Nat} {σ : L2.St} {i : Nat} {x}, i ∈ vs → wipe (σ.set i x) vs = wipe σ vs
  | v :: vs, σ, i, x, h => by
    show (wipe (σ.set i x) vs).set v none = (wipe σ vs).set v none
    by_cases hv : i ∈ vs
    · rw [wipe_set hv]
    · have e : i = v := by
        rcases List.mem_cons.mp h with h | h
        · exact h
        · exact absurd h hv
      subst e
      have gen : ∀ (ws : List Nat), i ∉ ws → wipe (σ.set i x) ws = (wipe σ ws).set i x := by
        intro ws
        induction ws with
        | nil => intro _; rfl
        | cons w ws ih =>
          intro hw
          have h1 : i ≠ w := fun z => hw (by rw [z]; exact List.mem_cons_self)
          have h2 : i ∉ ws := fun z => hw (List.mem_cons_of_mem _ z)
          show (wipe (σ.set i x) ws).set w none = ((wipe σ ws).set w none).set i x
          rw [ih h2, List.set_comm _ _ h1]
      rw [gen vs hv, List.set_set]
theorem wipe_wipe (σ : L2.St) : ∀ vs, wipe (wipe σ vs) vs = wipe σ vs
  | [] => rfl
  | v :: vs => by
    show wipe ((wipe σ vs).set v none) (v :: vs) = _
    rw [wipe_set List.mem_cons_self]
    show (wipe (wipe σ vs) vs).set v none = _
    rw [wipe_wipe σ vs]
    rfl
theorem RelS.wipe {Z : Hp} {σ : L2.St} {s : SD} (r : RelS Z σ s) : ∀ vs : List Nat, RelS Z (L2.wipe σ vs) (vs.foldr (fun v s => s.set v none) s)
  | [] => r
  | v :: vs => by
    have ih := RelS.wipe r vs
    refine ⟨?_, fun i d e => ?_⟩
    · show ((L2.wipe σ vs).set v none).length = ((vs.foldr (fun v s => s.set v none) s).set v none).length
      rw [List.length_set, List.length_set]
      exact ih.len
    · replace e : ((vs.foldr (fun v s => s.set v none) s).set v none)[i]? = some (some d) := e
      show ∃ v', ((L2.wipe σ vs).set v none)[i]? = some (some v') ∧ Rep Z d v'
      rw [List.getElem?_set] at e ⊢
      by_cases hi : v = i
      · subst hi
        rw [if_pos rfl] at e
        split at e <;> cases e
      · rw [if_neg hi] at e ⊢
        exact ih.at' i d e
def wipeS (s : SD) (vs : List Nat) : SD := vs.foldr (fun v s => s.set v none) s
section
variable {X : Cx} {pos : Pos} {vs : List Nat}
theorem dgw_name (i : Nat) {x : Str} (hN : X.N.Nodup) (hv : i ∈ vs) (hi : X.N[i]? = some x := by rfl) (hx : Loc X.env.scope x := by first | exact .inl rfl | exact .inr rfl)
    (hf : X.fn x = true ∨ X.env.scope.names.lookup x = some .local := by first | exact .inl rfl | exact .inr rfl | assumption) : DGW X vs (.Name x pos) (wgName i) :=
  ⟨⟨fun pins s σ H v u Q I r ⟨Z, sd, O, d, Q', rs, ro, rd, w, po⟩ => (pg_name hN hi hx hf).run pins s σ H v u Q I r (po _ _ _ _ _ (Same.refl _) (wipe_set hv) (rs.set i rd) ro w)⟩⟩
structure DGWs (X : Cx) (vs : List Nat) (tgs : List Expr) (W : WGs) : Prop where
  ex : PGs X tgs (fun vs' σ H R => ∃ Z s O ds Q, RelS Z σ s ∧ RelO Z H O ∧ Reps Z ds vs' ∧ W ds s O Q ∧ ∀ Z' σ' s' H' O', Same Z Z' → wipe σ' vs = wipe σ vs → RelS Z' σ' s' → RelO Z' H' O' → Q s' O' → R σ' H')
theorem dgws_nil : DGWs X vs [] wgNil := ⟨⟨fun pins s σ H vs' us Q I r ⟨Z, sd, O, ds, Q', rs, ro, rd, w, po⟩ => pgs_nil.run pins s σ H vs' us Q I r (by
  cases rd with
  | nil => exact ⟨rfl, po _ _ _ _ _ (Same.refl _) rfl rs ro w⟩
  | cons _ _ => exact w.elim)⟩⟩
theorem dgws_cons {e : Expr} {es : List Expr} {W : WG} {Ws : WGs} (h1 : DGW X vs e W) (h2 : DGWs X vs es Ws) (hs : (assignEach (e :: es) X.env).map (·.2) = assign e X.env :: (assignEach es X.env).map (·.2) := by rfl) : DGWs X vs (e :: es) (wgCons W Ws) :=
  ⟨⟨fun pins s σ H vs' us Q I r ⟨Z, sd, O, ds, Q', rs, ro, rd, w, po⟩ => (pgs_cons h1.ex h2.ex hs).run pins s σ H vs' us Q I r (by
    cases rd with
    | nil => exact w.elim
    | cons a t =>
      refine ⟨_, _, rfl, Z, sd, O, _, _, rs, ro, a, w, fun Z1 σ1 s1 H1 O1 m1 e1 rs1 ro1 w1 => ?_⟩
      exact ⟨Z1, s1, O1, _, Q', rs1, ro1, t.mono m1, w1, fun Z2 σ2 s2 H2 O2 m2 e2 rs2 ro2 w2 => po _ _ _ _ _ (m1.trans m2) (e2.trans e1) rs2 ro2 w2⟩)⟩⟩
theorem dgw_tup {k n : Nat} {es : List Expr} {Ws : WGs} (hc : X.calm = true) (h : DGWs X vs es Ws)
    (hn : (assignEach es X.env).length = n := by rfl) (hst : (assignEach es X.env).findIdx? (·.1) = none := by rfl) : DGW X vs (.Tuple es k pos) (wgTup n Ws) :=
  ⟨⟨fun pins s σ H v u Q I r ⟨Z, sd, O, d, Q', rs, ro, rd, w, po⟩ => (pg_tup hc h.ex hn hst).run pins s σ H v u Q I r (by
    cases rd with
    | tup e rr =>
      obtain ⟨hl, w⟩ := w
      exact ⟨_, _, rfl, .inl (.inl (ro.sub.at e rfl)), rr.length.symm.trans hl, Z, sd, O, _, _, rs, ro, rr, w, po⟩
    | _ => exact w.elim)⟩⟩
end

/-! ### [elt for tg in iter if ..] -/
def lcN (g : WG) (Wt : WT) (We : WE) (C : OO → Prop) (s0 : SD) (a : Addr) (Q : OO → Prop) : List D → List D → OO → Prop
  | [], _, O => C O ∧ Q O
  | d :: r, acc, O => C O ∧ g d s0 O fun s2 O2 => Wt s2 O2 fun b O3 => if b = true then We s2 O3 fun y O4 => O4 a = some (.lst acc) ∧ acc.length < sizeLine ∧ lcN g Wt We C s0 a Q r (acc ++ [y]) (updO O4 a (.lst (acc ++ [y])))
      else O3 a = some (.lst acc) ∧ lcN g Wt We C s0 a Q r acc O3
def wLc (Wi : WI) (g : WG) (Wt : WT) (We : WE) (vs : List Nat) : WE := fun s O Q => Wi s O fun ds C O1 => ∀ a, O1 a = none → lcN g Wt We C (wipeS s vs) a (Q (.ref a)) ds [] (updO O1 a (.lst []))
section
variable {X : Cx} {elt tg iter : Expr} {ifs : List Expr} {scope : Scope} {pos : Pos} {Wi : WI} {G : WG} {Wt : WT} {We : WE}
/-- the blocks' own contexts -/
abbrev Blk (X : Cx) (scope : Scope) (P : Cx → Prop) : Prop := ∀ (s : Shared) (H : Hp) (C : Addr) (cl : List (Str × Addr)) (fp : List Addr), P (X.blk s H scope (compEnvC scope cl C X.env) fp)
theorem lc_sim {Z : Hp} {σ : L2.St} {s : SD} {H : Hp} {O : OO} {ti : TI} {vs : List Nat} {Q : D → OO → Prop} {R : VK}
    (hi : ∀ Z σ s H O K (R : It → Hp → Prop), RelS Z σ s → RelO Z H O → Wi s O K → (∀ J Z' H' O' ds C, Same Z Z' → RelO Z' H' O' → K ds C O' → Wk Z' J ds C → R J H') → ti σ H R)
    (rs : RelS Z σ s) (ro : RelO Z H O) (w : wLc Wi G Wt We vs s O Q) (po : PostE Z Q R) :
    tLc ti (fun v σ H R => ∃ Z s O d Q, RelS Z σ s ∧ RelO Z H O ∧ Rep Z d v ∧ G d s O Q ∧ ∀ Z' σ' s' H' O', Same Z Z' → wipe σ' vs = wipe σ vs → RelS Z' σ' s' → RelO Z' H' O' → Q s' O' → R σ' H') (canT Wt) (canE We) vs σ H R := by
  refine hi _ _ _ _ _ _ _ rs ro w fun J Z1 H1 O1 ds C s1 r1 w1 wk => ?_
  intro a ha
  have w2 := w1 a (r1.free ha)
  refine ⟨fun i m H => m = ds.length - i ∧ i ≤ ds.length ∧ ∃ Z' O acc, Same Z1 Z' ∧ RelO Z' H O ∧ O a = some (.lst acc) ∧ lcN G Wt We C (wipeS s vs) a (Q (.ref a)) (ds.drop i) acc O, ⟨ds.length, by simp, Nat.zero_le _, Z1, _, [], Same.refl _, r1.new (m := .lst []) ha ⟨[], upd_same, .nil⟩, updO_same, by simpa using w2⟩, ?_⟩
  rintro i m H2 ⟨rfl, hle, Z2, O2, acc, s2, r2, ea, w2⟩
  cases ed : ds.drop i with
  | nil =>
    rw [ed] at w2
    obtain ⟨hC, q⟩ := w2
    have hi' := drop_nil' ed hle
    exact .inl ⟨(wk Z2 H2 O2 i s2 r2 hC).1 hi', po _ _ _ _ _ (s1.trans s2) r2 .ref q⟩
  | cons d r =>
    rw [ed] at w2
    obtain ⟨hC, q⟩ := w2
    obtain ⟨hd, hr, hlt⟩ := drop_cons ed
    obtain ⟨hgo, hy⟩ := (wk Z2 H2 O2 i s2 r2 hC).2 d hd
    refine .inr ⟨hgo, fun H' => ∃ Z' O acc, Same Z1 Z' ∧ RelO Z' H' O ∧ O a = some (.lst acc) ∧ lcN G Wt We C (wipeS s vs) a (Q (.ref a)) (ds.drop (i + 1)) acc O, fun H' hN => ⟨ds.length - (i + 1), by omega, rfl, hlt, hN⟩, fun x H' y => ?_⟩
    obtain ⟨Z3, s3, r3, rx⟩ := hy x H' y
    refine ⟨Z3, wipeS s vs, O2, d, _, (rs.wipe vs).mono (s1.trans (s2.trans s3)), r3, rx, q, fun Z4 σ4 sd4 H4 O4 s4 ew rs4 r4 w4 => ⟨?_, ?_⟩⟩
    · rw [ew]
      exact wipe_wipe σ vs
    · refine ⟨Z4, sd4, O4, _, rs4, r4, w4, fun b H5 Z5 O5 s5 r5 w5 => ?_⟩
      have sm := s2.trans (s3.trans (s4.trans s5))
      cases b with
      | true =>
        simp only [↓reduceIte] at w5 ⊢
        refine ⟨Z5, sd4, O5, _, rs4.mono s5, r5, w5, fun y H6 Z6 yd O6 s6 r6 e6 w6 => ?_⟩
        obtain ⟨ha6, hl6, w6⟩ := w6
        obtain ⟨vs6, hv6, rv6⟩ := r6.own _ _ ha6
        refine ⟨vs6, hv6, by rw [← rv6.length]; exact hl6, Z6, _, _, sm.trans s6, r6.put (m' := .lst (acc ++ [yd])) ha6 rfl ⟨_, upd_same, rv6.append (.one e6)⟩, updO_same, by rw [hr]; exact w6⟩
      | false =>
        simp only [Bool.false_eq_true, ↓reduceIte] at w5 ⊢
        exact ⟨Z5, O5, acc, sm, r5, w5.1, by rw [hr]; exact w5.2⟩
theorem de_lc {own : List (Str × Nat)} (hc : X.calm = true) (hN : X.N.Nodup) (hi : DI X tg iter Wi) (ok : BlkOk X.N X.env.scope scope own) (hg : Blk X scope fun Y => DGW Y (own.map (·.2)) tg G)
    (ht : Blk X scope fun Y => DTs Y ifs Wt) (he : Blk X scope fun Y => DE Y elt We) (hs : ∀ x, foldedSetIterable iter X.env x = pure x := by intro _; rfl) : DE X (.ListComp elt [⟨tg, iter, ifs, 0⟩] scope pos) (wLc Wi G Wt We (own.map (·.2))) := by
  obtain ⟨ti, qi, hi⟩ := hi.ex
  exact ⟨_, pe_lc hc hN qi ok (fun s H C cl fp => (hg s H C cl fp).ex) (fun s H C cl fp => (ht s H C cl fp).ex) (fun s H C cl fp => (he s H C cl fp).can) hs, fun Z σ s H O Q R rs ro w po => lc_sim hi rs ro w po⟩
theorem ds_setLc {own : List (Str × Nat)} (i : Nat) {y : Str} {py spos : Pos} (hc : X.calm = true) (hN : X.N.Nodup) (hi : DI X tg iter Wi) (ok : BlkOk X.N X.env.scope scope own) (hg : Blk X scope fun Y => DGW Y (own.map (·.2)) tg G)
    (ht : Blk X scope fun Y => DTs Y ifs Wt) (he : Blk X scope fun Y => DE Y elt We) (hsw : swapsWith (.ListComp elt [⟨tg, iter, ifs, 0⟩] scope pos) (some (.Name y py)) spos.line X.env = pure true)
    (hy : X.N[i]? = some y := by rfl) (hyl : X.env.scope.names.lookup y = some .local := by rfl) (hs : ∀ x, foldedSetIterable iter X.env x = pure x := by intro _; rfl) :
    DS X (.Assign [.Name y py] (.ListComp elt [⟨tg, iter, ifs, 0⟩] scope pos) spos) (wAsg (wLc Wi G Wt We (own.map (·.2))) (wgName i)) := by
  obtain ⟨ti, qi, hi⟩ := hi.ex
  refine ⟨_, ps_setLc hc hN hy hyl hsw qi ok (fun s H C cl fp => (hg s H C cl fp).ex) (fun s H C cl fp => (ht s H C cl fp).ex) (fun s H C cl fp => (he s H C cl fp).can) hs, fun Z σ s H O D' E rs ro w po => ?_⟩
  exact lc_sim hi rs ro w fun v H1 Z1 d O1 s1 r1 e1 w1 => po.nx _ _ _ _ _ s1 ((rs.mono s1).set i e1) r1 w1
end
end TD

set_option Elab.async false
set_option linter.all false
set_option maxRecDepth 100000
set_option maxHeartbeats 1000000
/-! TD: dict comprehensions, locks, list(d.items()), dict(pairs), the tape, the law's end -/
namespace TD
open PySem PySem.Spec PyProof.Rows L2

/-! ### {k: v for target in iter if ..} -/
def dcN (g : WG) (Wt : WT) (Wk We : WE) (C : OO → Prop) (s0 : SD) (a : Addr) (Q : OO → Prop) : List D → List (Key × D) → OO → Prop
  | [], _, O => C O ∧ Q O
  | d :: r, acc, O => C O ∧ g d s0 O fun s2 O2 => Wt s2 O2 fun b O3 => if b = true then Wk s2 O3 fun y O4 => We s2 O4 fun z O5 => O5 a = some (.dic acc) ∧ acc.length < sizeLine ∧ ∃ k, keyD y = some k ∧ dcN g Wt Wk We C s0 a Q r (putG acc k z) (updO O5 a (.dic (putG acc k z)))
      else O3 a = some (.dic acc) ∧ dcN g Wt Wk We C s0 a Q r acc O3
def wDc (Wi : WI) (g : WG) (Wt : WT) (Wk We : WE) (vs : List Nat) : WE := fun s O Q => Wi s O fun ds C O1 => ∀ a, O1 a = none → dcN g Wt Wk We C (wipeS s vs) a (Q (.ref a)) ds [] (updO O1 a (.dic []))
section
variable {X : Cx} {kx vx tg iter : Expr} {ifs : List Expr} {scope : Scope} {pos : Pos} {Wi : WI} {G : WG} {Wt : WT} {Wk We : WE}
theorem de_dc {own : List (Str × Nat)} (hc : X.calm = true) (hN : X.N.Nodup) (hi : DI X tg iter Wi) (ok : BlkOk X.N X.env.scope scope own) (hg : Blk X scope fun Y => DGW Y (own.map (·.2)) tg G)
    (ht : Blk X scope fun Y => DTs Y ifs Wt) (hk : Blk X scope fun Y => DE Y kx Wk) (he : Blk X scope fun Y => DE Y vx We) (hs : ∀ x, foldedSetIterable iter X.env x = pure x := by intro _; rfl) : DE X (.DictComp kx vx [⟨tg, iter, ifs, 0⟩] scope pos) (wDc Wi G Wt Wk We (own.map (·.2))) := by
  obtain ⟨ti, qi, hi⟩ := hi.ex
  refine ⟨_, pe_dc hc hN qi ok (fun s H C cl fp => (hg s H C cl fp).ex) (fun s H C cl fp => (ht s H C cl fp).ex) (fun s H C cl fp => (hk s H C cl fp).can) (fun s H C cl fp => (he s H C cl fp).can) hs, fun Z σ s H O Q R rs ro w po => ?_⟩
  generalize own.map (·.2) = vs at w
  refine hi _ _ _ _ _ _ _ rs ro w fun J Z1 H1 O1 ds C s1 r1 w1 wk => ?_
  intro a ha
  have w2 := w1 a (r1.free ha)
  refine ⟨fun i m H => m = ds.length - i ∧ i ≤ ds.length ∧ ∃ Z' O acc, Same Z1 Z' ∧ RelO Z' H O ∧ O a = some (.dic acc) ∧ dcN G Wt Wk We C (wipeS s vs) a (Q (.ref a)) (ds.drop i) acc O, ⟨ds.length, by simp, Nat.zero_le _, Z1, _, [], Same.refl _, r1.new (m := .dic []) ha ⟨[], upd_same, .nil⟩, updO_same, by simpa using w2⟩, ?_⟩
  rintro i m H2 ⟨rfl, hle, Z2, O2, acc, s2, r2, ea, w2⟩
  cases ed : ds.drop i with
  | nil =>
    rw [ed] at w2
    obtain ⟨hC, q⟩ := w2
    have hi' := drop_nil' ed hle
    exact .inl ⟨(wk Z2 H2 O2 i s2 r2 hC).1 hi', po _ _ _ _ _ (s1.trans s2) r2 .ref q⟩
  | cons d r =>
    rw [ed] at w2
    obtain ⟨hC, q⟩ := w2
    obtain ⟨hd, hr, hlt⟩ := drop_cons ed
    obtain ⟨hgo, hy⟩ := (wk Z2 H2 O2 i s2 r2 hC).2 d hd
    refine .inr ⟨hgo, fun H' => ∃ Z' O acc, Same Z1 Z' ∧ RelO Z' H' O ∧ O a = some (.dic acc) ∧ dcN G Wt Wk We C (wipeS s vs) a (Q (.ref a)) (ds.drop (i + 1)) acc O, fun H' hN => ⟨ds.length - (i + 1), by omega, rfl, hlt, hN⟩, fun x H' y => ?_⟩
    obtain ⟨Z3, s3, r3, rx⟩ := hy x H' y
    refine ⟨Z3, wipeS s vs, O2, d, _, (rs.wipe vs).mono (s1.trans (s2.trans s3)), r3, rx, q, fun Z4 σ4 sd4 H4 O4 s4 ew rs4 r4 w4 => ⟨?_, ?_⟩⟩
    · rw [ew]
      exact wipe_wipe σ vs
    · refine ⟨Z4, sd4, O4, _, rs4, r4, w4, fun b H5 Z5 O5 s5 r5 w5 => ?_⟩
      have sm := s2.trans (s3.trans (s4.trans s5))
      cases b with
      | true =>
        simp only [↓reduceIte] at w5 ⊢
        refine ⟨Z5, sd4, O5, _, rs4.mono s5, r5, w5, fun y H6 Z6 yd O6 s6 r6 e6 w6 => ?_⟩
        refine ⟨Z6, sd4, O6, _, rs4.mono (s5.trans s6), r6, w6, fun z H7 Z7 zd O7 s7 r7 e7 w7 => ?_⟩
        obtain ⟨ha7, hl7, k, hk, w7⟩ := w7
        obtain ⟨us7, hv7, rv7⟩ := r7.own _ _ ha7
        refine ⟨us7, k, keyD_ok e6 hk, hv7, by rw [← rv7.len]; exact hl7, Z7, _, _, sm.trans (s6.trans s7), r7.put (m' := .dic (putG acc k zd)) ha7 rfl ⟨_, upd_same, rv7.put e7⟩, updO_same, by rw [hr]; exact w7⟩
      | false =>
        simp only [Bool.false_eq_true, ↓reduceIte] at w5 ⊢
        exact ⟨Z5, O5, acc, sm, r5, w5.1, by rw [hr]; exact w5.2⟩
end

/-! ### a live dict locked while an expression runs -/
def lockM (W : WE) (a : Addr) (s : SD) (O : OO) (Q : D → OO → Prop) : Option MO → Prop
  | some (.dic kvs) => ∀ od us, W s (updO O a (.lkd od us kvs)) fun r O' => O' a = some (.lkd od us kvs) ∧ Q r (updO O' a (.dic kvs))
  | _ => W s O Q
def lockD (W : WE) (s : SD) (O : OO) (Q : D → OO → Prop) : D → Prop
  | .ref a => lockM W a s O Q (O a)
  | _ => W s O Q
/-- the dict in slot i, locked if it is live -/
def wLock (i : Nat) (W : WE) : WE := fun s O Q => look s i fun d => lockD W s O Q d
theorem de_lock {X : Cx} {e : Expr} {W : WE} (i : Nat) (h : DE X e W) : DE X e (wLock i W) := by
  obtain ⟨t, q, h⟩ := h.ex
  refine ⟨_, pe_union q (pe_lock q), fun Z σ s H O Q R rs ro w po => ?_⟩
  obtain ⟨d, _, w⟩ := look_ex w
  cases d with
  | ref a =>
    replace w : lockM W a s O Q (O a) := w
    cases e : O a with
    | none => rw [e] at w; exact .inl (h _ _ _ _ _ _ _ rs ro w po)
    | some m =>
      rw [e] at w
      cases m with
      | dic kvs =>
        obtain ⟨us, hu, ru⟩ := ro.own _ _ e
        refine .inr ⟨a, _, hu, True.intro, fun od => ?_⟩
        refine h _ _ _ _ _ _ _ rs (ro.put (m' := .lkd od us kvs) e rfl ⟨upd_same, ru⟩) (w od us) fun v H1 Z1 d O1 s1 r1 e1 ⟨h1, q⟩ => ?_
        obtain ⟨h2, rk⟩ := r1.own _ _ h1
        exact ⟨h2, po _ _ _ _ _ s1 (r1.put (m' := .dic kvs) h1 rfl ⟨us, upd_same, rk⟩) e1 q⟩
      | _ => exact .inl (h _ _ _ _ _ _ _ rs ro w po)
  | _ => exact .inl (h _ _ _ _ _ _ _ rs ro w po)

/-! ### list(d.items()) -/
def rItemsR : V → Hp → VK → Prop := fun x H Q => ∃ (d : Addr) (kvs : List (Key × V)), x = .ref d ∧ Rd H d (.dK kvs) ∧
  ∀ (H' : Hp) (p : Addr) (ts : List Addr), (∀ b o, H b = some o → H' b = some o) → H p = none → (∀ t ∈ ts, H t = none) → p ∉ ts → H' p = some (.lst (ts.map V.ref)) → Paired (fun (t : Addr) (q : Key × V) => H' t = some (.tup [kV q.1, q.2])) ts kvs → Q (.ref p) H'
theorem pe_itemsR {X : Cx} {e : Expr} {te : TE} {p apos cpos pos : Pos} (hc : X.calm = true) (he : PE X e te) (hg : Gl X "list") (hm : X.mg "list" = none) (hv : bootBuiltins "list" = some (.type "list")) (hbase : attributeBase e "items" X.env (eval e X.env) = eval e X.env) (hline : (apos.endLine == cpos.line) = true)
    (hs : starEach [.Call (.Attribute e "items" apos) [] [] cpos] X.env = (false, eval (.Call (.Attribute e "items" apos) [] [] cpos) X.env) :: starEach [] X.env) :
    PE X (.Call (.Name "list" p) [.Call (.Attribute e "items" apos) [] [] cpos] [] pos) (fun σ H Q => te σ H fun x H1 => rItemsR x H1 Q) := by
  refine ⟨fun pins s σ H Q I hq => ?_⟩
  refine wpAny_Call_Name_kw (ld_blt I hg hm hv ?_)
  refine PyProof.Rows.callWith_type1 ?_ hs rfl
  rw [hs]
  show wpAny _ _ (spliced ((false, eval (.Call (.Attribute e "items" apos) [] [] cpos) X.env) :: backTo pos (starEach [] X.env))) _ _ s
  refine Calls.spliced_cons ?_
  refine wpAny_Call_method (T := "dict") (id := "dict.items") hbase rfl hline F.plainAttrs_dict F.slot_dict_items F.type_dict_items (thn (he.run pins s σ H _ I hq) fun u s1 ⟨x, H1, I1, rx, d, kvs, ex, hd, q⟩ => ?_)
  subst ex
  obtain rfl : u = Value.ref d := rx
  obtain ⟨hz, hs0, vs, kv, hdo⟩ := dk_rd I1.hok hd
  obtain ⟨ep, hat⟩ := hdo.dictAt
  have lk : kvs.length = vs.length := Paired.length kv
  have I2 : Inv X pins σ H1 { s1 with heap := s1.heap.push { cls := .type "dict_items", data := .fields #[.ref d] } } := I1.kept (t' := s1.toks) fun b ob q => Heap.get?_push_of_some _ q
  refine ⟨hdo.typeIs, hdo.mapOf.noDict, ?_⟩
  show wpAny _ _ (callWith cpos (.builtin "dict.items") [.ref d] [] []) _ X.xe s1
  refine method_meetsIn F.slot_dict_items F.entry_dict_items rfl (PySem.evalArgs_none ⟨rfl, hdo.typeIs, F.args_dict_items_1 _, _, meets_dict_items (mixKind X.prog X.w) d hs0, ⟨vs, hdo⟩, ?_⟩)
  refine Calls.spliced_nil ?_
  refine PySem.W.kdx_call (knd := mixKind X.prog X.w) (kvs := vs) (ep := ep) (I1.ok.hd hc) ⟨_, Heap.get?_push_size _ rfl, rfl, rfl⟩ (hat.push _) (by omega) fun h' tk acc c as hk hS hl hG hacc => ?_
  obtain ⟨H', k1, k2, k3, k4, k5, k6, J⟩ := LiI.items_laid (tk := tk) I2 hz kv hk hS hl hG hacc
  exact ⟨.ref _, H', J, rfl, q H' _ as k1 k2 k3 k4 k5 k6⟩
def itemsD (kvs : List (Key × D)) : List D := kvs.map fun kv => .tup [keyE kv.1, kv.2]
def wItems (W : WE) : WE := fun s O Q => W s O fun d O1 => ∃ kvs, asK d O1 = some kvs ∧ ∀ a, O1 a = none → Q (.ref a) (updO O1 a (.lst (itemsD kvs)))
theorem rel_many {Z H H' : Hp} {O : OO} {ts : List Addr} (ro : RelO Z H O) (s : Same H H') (hn : ∀ t ∈ ts, H t = none) : Same Z (fun b => if b ∈ ts then H' b else Z b) ∧ RelO (fun b => if b ∈ ts then H' b else Z b) H' O := by
  have sz : Same Z (fun b => if b ∈ ts then H' b else Z b) := fun b u e => by
    have : b ∉ ts := fun z => by rw [ro.sub.free (hn b z)] at e; cases e
    simp only [this, if_false]
    exact e
  refine ⟨sz, ⟨fun b u e => ?_, fun a m e => ?_, fun a m e hm => ?_⟩⟩
  · by_cases hb : b ∈ ts
    · simp only [hb, if_true] at e
      exact .inl e
    · simp only [hb, if_false] at e
      exact (ro.sub.same s) b u e
  · exact ((ro.grow s).own a m e).mono sz
  · have : a ∉ ts := fun z => by rw [ro.free (hn a z)] at e; cases e
    simp only [this, if_false]
    exact ro.off a m e hm
theorem items_rep {Z H' : Hp} {ts all : List Addr} : ∀ {ks us}, (∀ t ∈ ts, t ∈ all) → RepK Z ks us → Paired (fun (t : Addr) (q : Key × V) => H' t = some (.tup [kV q.1, q.2])) ts us → Same Z (fun b => if b ∈ all then H' b else Z b) → Reps (fun b => if b ∈ all then H' b else Z b) (itemsD ks) (ts.map V.ref) := by
  intro ks us ha r p sz
  induction p generalizing ks with
  | nil => cases r; exact .nil
  | cons h t ih =>
    cases r with
    | cons a r =>
      refine .cons (.tup (vs := _) ?_ (.cons (rep_keyE _) (.one (a.mono sz)))) (ih (fun t ht => ha t (List.mem_cons_of_mem _ ht)) r)
      rw [if_pos (ha _ List.mem_cons_self)]
      exact h
theorem de_items {X : Cx} {e : Expr} {W : WE} {p apos cpos pos : Pos} (hc : X.calm = true) (he : DE X e W) (hg : Gl X "list") (hm : X.mg "list" = none) (hv : bootBuiltins "list" = some (.type "list") := by rfl) (hbase : attributeBase e "items" X.env (eval e X.env) = eval e X.env := by rfl) (hline : (apos.endLine == cpos.line) = true := by rfl)
    (hs : starEach [.Call (.Attribute e "items" apos) [] [] cpos] X.env = (false, eval (.Call (.Attribute e "items" apos) [] [] cpos) X.env) :: starEach [] X.env := by rfl) :
    DE X (.Call (.Name "list" p) [.Call (.Attribute e "items" apos) [] [] cpos] [] pos) (wItems W) := by
  obtain ⟨t, q, h⟩ := he.ex
  refine ⟨_, pe_itemsR hc q hg hm hv hbase hline hs, fun Z σ s H O Q R rs ro w po => ?_⟩
  refine h _ _ _ _ _ _ _ rs ro w fun v H1 Z1 d O1 s1 r1 e1 w1 => ?_
  obtain ⟨kvs, hk, w1⟩ := w1
  obtain ⟨x, us, rfl, hx, ru⟩ := asK_ok r1 e1 hk
  refine ⟨x, us, rfl, hx, fun H' p ts sm hp hts hpt hl hP => ?_⟩
  obtain ⟨s2, r2⟩ := rel_many r1 sm hts
  have rr := items_rep (fun t h => h) ru hP s2
  have nO : O1 p = none := r1.free hp
  have nZ : (fun b => if b ∈ ts then H' b else Z1 b) p = none := by
    simp only [hpt, if_false]
    exact r1.sub.free hp
  -- the new list joins the live ones
  have r3 : RelO (fun b => if b ∈ ts then H' b else Z1 b) H' (updO O1 p (.lst (itemsD kvs))) := by
    refine ⟨r2.sub, fun a m e => ?_, fun a m e hm => ?_⟩
    · by_cases ha : a = p
      · subst ha
        rw [updO_same] at e
        cases e
        exact ⟨_, hl, rr⟩
      · rw [updO_ne ha] at e
        exact r2.own a m e
    · by_cases ha : a = p
      · subst ha
        exact nZ
      · rw [updO_ne ha] at e
        exact r2.off a m e hm
  exact po _ _ _ _ _ (s1.trans s2) r3 .ref (w1 p nO)

/-! ### dict(x): a dict, or a list of pairs -/
def asP : List D → Option (List (Key × D))
  | [] => some []
  | .tup [k, v] :: r => match keyD k, asP r with | some k, some kvs => some ((k, v) :: kvs) | _, _ => none
  | _ :: _ => none
theorem asP_ok {Z H : Hp} {O : OO} {K : PySem.W.Frag} (ro : RelO Z H O) : ∀ {ds kvs vs}, asP ds = some kvs → Reps Z ds vs → ∃ (ps : List Addr) (us : List (Key × V)), vs = ps.map V.ref ∧ Paired (fun p kv => SqT K H p [kV kv.1, kv.2]) ps us ∧ RepK Z kvs us
  | [], _, _, h, .nil => by cases h; exact ⟨[], [], rfl, .nil, .nil⟩
  | .tup [k, v] :: r, kvs, _, h, .cons (.tup e (.cons rk (.cons rv .nil))) rr => by
    simp only [asP] at h
    cases ek : keyD k with
    | none => rw [ek] at h; cases h
    | some k' =>
      cases er : asP r with
      | none => rw [ek, er] at h; cases h
      | some lvs =>
        rw [ek, er] at h
        cases h
        obtain ⟨ps, us, rfl, hp, hr⟩ := asP_ok ro er rr
        have := keyD_ok rk ek
        subst this
        exact ⟨_ :: ps, (k', _) :: us, rfl, .cons (.inl (.inl (ro.sub.at e rfl))) hp, .cons rv hr⟩
  | .tup [] :: _, _, _, h, _ => nomatch h
  | .tup [_] :: _, _, _, h, _ => nomatch h
  | .tup (_ :: _ :: _ :: _) :: _, _, _, h, _ => nomatch h
  | .non :: _, _, _, h, _ => nomatch h
  | .bl _ :: _, _, _, h, _ => nomatch h
  | .int _ :: _, _, _, h, _ => nomatch h
  | .str _ :: _, _, _, h, _ => nomatch h
  | .ty _ :: _, _, _, h, _ => nomatch h
  | .lst _ :: _, _, _, h, _ => nomatch h
  | .dic _ :: _, _, _, h, _ => nomatch h
  | .dct _ :: _, _, _, h, _ => nomatch h
  | .ref _ :: _, _, _, h, _ => nomatch h
def dctM (O : OO) (Q : D → OO → Prop) : Option MO → Prop
  | some (.dic kvs) => ∀ a, O a = none → Q (.ref a) (updO O a (.dic kvs))
  | some (.lkd _ _ kvs) => ∀ a, O a = none → Q (.ref a) (updO O a (.dic kvs))
  | some (.lst ds) => ∃ kvs, asP ds = some kvs ∧ ∀ a, O a = none → Q (.ref a) (updO O a (.dic (mergeG [] kvs)))
  | _ => False
def wDict2 : DLF := w1 fun d O Q => match d with
  | .dic kvs => ∀ a, O a = none → Q (.ref a) (updO O a (.dic kvs))
  | .lst ds => ∃ kvs, asP ds = some kvs ∧ ∀ a, O a = none → Q (.ref a) (updO O a (.dic (mergeG [] kvs)))
  | .ref a => dctM O Q (O a)
  | _ => False
theorem c_dict2 {X : Cx} (hc : X.calm = true) : DCall X (.type "dict") wDict2 := by
  refine ⟨_, CallR.or call_dict_copy (call_dictP hc), fun Z H O ds vs Q R ro rr w po => ?_⟩
  obtain ⟨d, rfl, w⟩ := one_ex w
  obtain ⟨v, rfl, r⟩ := rr.one_ex
  have cp : ∀ kvs, asK d O = some kvs → (∀ a, O a = none → Q (.ref a) (updO O a (.dic kvs))) → ∃ a kvs, [v] = [V.ref a] ∧ Rd H a (.dK kvs) ∧ ∀ p, H p = none → R (.ref p) (upd H p (.dK kvs)) := fun kvs he q => by
    obtain ⟨p, us, rfl, hp, r1⟩ := asK_ok ro r he
    exact ⟨p, us, rfl, hp, fun l hl => po _ _ _ _ _ (Same.refl _) (ro.new (m := .dic kvs) hl ⟨us, upd_same, r1⟩) .ref (q l (ro.free hl))⟩
  have pr : ∀ ds kvs, asL d O = some ds → asP ds = some kvs → (∀ a, O a = none → Q (.ref a) (updO O a (.dic (mergeG [] kvs)))) → ∃ (a : Addr) (ps : List Addr) (kvs : List (Key × V)), [v] = [.ref a] ∧ SqL X.K H a (ps.map V.ref) ∧ Paired (fun p kv => SqT X.K H p [kV kv.1, kv.2]) ps kvs ∧ ∀ p, H p = none → R (.ref p) (upd H p (.dK (mergeK [] kvs))) := fun ds kvs he hp q => by
    obtain ⟨p, ws, rfl, hpp, r1⟩ := asL_ok ro r he
    obtain ⟨ps, us, rfl, h2, h3⟩ := asP_ok (K := X.K) ro hp r1
    exact ⟨p, ps, us, rfl, .inl (.inl hpp), h2, fun l hl => po _ _ _ _ _ (Same.refl _) (ro.new (m := .dic (mergeG [] kvs)) hl ⟨_, upd_same, h3.merge .nil⟩) .ref (q l (ro.free hl))⟩
  cases d with
  | dic kvs => exact .inl (cp kvs rfl w)
  | lst ds => obtain ⟨kvs, h1, h2⟩ := w; exact .inr (pr ds kvs rfl h1 h2)
  | ref a =>
    replace w : dctM O Q (O a) := w
    cases e : O a with
    | none => rw [e] at w; exact w.elim
    | some m =>
      rw [e] at w
      cases m with
      | dic kvs => exact .inl (cp kvs (by show asKM (O a) = _; rw [e]; rfl) w)
      | lkd _ _ kvs => exact .inl (cp kvs (by show asKM (O a) = _; rw [e]; rfl) w)
      | lst ds => obtain ⟨kvs, h1, h2⟩ := w; exact .inr (pr ds kvs (by show asLM (O a) = _; rw [e]; rfl) h1 h2)
      | _ => exact w.elim
  | _ => exact w.elim

theorem dict2_of {d : D} {O : OO} {Q : D → OO → Prop} {kvs : List (Key × D)} (h : asK d O = some kvs) (q : ∀ a, O a = none → Q (.ref a) (updO O a (.dic kvs))) : wDict2 [d] O Q := by
  cases d with
  | dic t => cases h; exact q
  | ref a =>
    replace h : asKM (O a) = some kvs := h
    show dctM O Q (O a)
    cases e : O a with
    | none => rw [e] at h; cases h
    | some m =>
      rw [e] at h
      cases m with
      | dic t => cases h; exact q
      | lkd _ _ t => cases h; exact q
      | _ => cases h
  | _ => cases h

/-! ### the tape -/
def tapeD (cells : List Int) (i g s n : Int) : List D := [.lst (cells.map D.int), .int i, .int g, .int s, .int n]
theorem RelO.tapeOut {Z H : Hp} {O : OO} {a : Addr} (ro : RelO Z H O) (e : O a = some .tape) : ∃ cells i g s n, (∀ x ∈ cells, 0 ≤ x) ∧ 0 ≤ i ∧ 0 ≤ g ∧ RelO Z H (updO O a (.lst (tapeD cells i g s n))) := by
  obtain ⟨vs, hv, c, cells, i, g, s, n, rfl, hz, h1, h2, h3⟩ := ro.own _ _ e
  refine ⟨cells, i, g, s, n, h1, h2, h3, ro.sub, fun b m q => ?_, fun b m q hm => ?_⟩
  · by_cases hb : b = a
    · subst hb
      rw [updO_same] at q
      cases q
      exact ⟨_, hv, .cons (.lst hz (Reps.of_ints _)) (.cons .int (.cons .int (.cons .int (.cons .int .nil))))⟩
    · rw [updO_ne hb] at q
      exact ro.own b m q
  · by_cases hb : b = a
    · subst hb
      exact ro.off _ _ e rfl
    · rw [updO_ne hb] at q
      exact ro.off b m q hm
theorem RelO.tapeIn {Z H : Hp} {O : OO} {a : Addr} {cells i g s n} (ro : RelO Z H O) (e : O a = some (.lst (tapeD cells i g s n))) (h1 : ∀ x ∈ cells, 0 ≤ x) (h2 : 0 ≤ i) (h3 : 0 ≤ g) : RelO Z H (updO O a .tape) := by
  refine ⟨ro.sub, fun b m q => ?_, fun b m q hm => ?_⟩
  · by_cases hb : b = a
    · subst hb
      rw [updO_same] at q
      cases q
      obtain ⟨vs, hv, r⟩ := ro.own _ _ e
      cases r with
      | cons a1 r => cases r with
        | cons a2 r => cases r with
          | cons a3 r => cases r with
            | cons a4 r => cases r with
              | cons a5 r =>
                cases r; cases a2; cases a3; cases a4; cases a5
                cases a1 with
                | lst hz rz => exact ⟨_, hv, _, cells, i, g, s, n, rfl, by rw [hz, rz.ints], h1, h2, h3⟩
    · rw [updO_ne hb] at q
      exact ro.own b m q
  · by_cases hb : b = a
    · subst hb
      exact ro.off _ _ e rfl
    · rw [updO_ne hb] at q
      exact ro.off b m q hm

/-! ### the law's end -/
theorem lawG_call {P : Program} {w : World} {K : PySem.W.Frag} {mg mb : Str → Option Value} {k : Nat} {fa a : Addr} {fd : FuncData} {x : Str} {sp : Sp} {s₁ : Shared} {vs : List Value} {ns : List Int}
    (KX : K.In s₁.heap) (hns : s₁.heap.Ns mainGlobals mg) (hb : s₁.heap.Ns builtinsNs mb) (hbb : ∀ x : Str, x ≠ "__name__" → mb x = bootBuiltins x) (hlim : s₁.heap.NoLimit) (hg : s₁.gens = #[])
    (ha : s₁.heap.get? a = some { cls := .type "list", data := .seq vs.toArray }) (hi : IntsAre vs ns) (hl : ns.length ≤ sizeLine) (hr : RoomG k callerA)
    (F : ∀ base : Heap, K.In base → base.Ns mainGlobals mg → FnG P w K mg base CX0 k fa fd [x] sp) (hbind : ∀ (s : Shared) (u : Value), BindsTo s fd ⟨[u], []⟩ [(x, u)])
    (hsp : ∀ H : Hp, Only H → SqL K H a (ns.map V.int) → sp [.ref a] H (fun v _ => v = .bl true) fun _ _ _ => False) :
    codeAny (model P w) callerA (.call (.ref fa) ⟨[.ref a], []⟩) (fun r s' => r = .ok (.ret (.bool true)) ∧ OldK s₁.heap s'.heap ∧ s'.os = s₁.os ∧ AllBare s'.gens) s₁ := by
  have rv := vals_ints hi
  have lenV := hi.length
  have core : ∀ H : Hp, Only H → SqL K H a (ns.map V.int) → HOk P w H s₁.heap → (∀ b, H b ≠ none → b = a) → (H a ≠ none → K.lookup a = none) →
      codeAny (model P w) callerA (.call (.ref fa) ⟨[.ref a], []⟩) (fun r s' => r = .ok (.ret (.bool true)) ∧ OldK s₁.heap s'.heap ∧ s'.os = s₁.os ∧ AllBare s'.gens) s₁ := by
    intro H hO hS hok hA hK
    have noA : ∀ {b : Addr} {o : Obj} {es : Array DictEntry} {ep : Nat}, s₁.heap.get? b = some o → o.data = .dict es ep → H b = none := fun {b o es ep} e d => by
      cases q : H b with
      | none => rfl
      | some u =>
        have e' : b = a := hA b (by rw [q]; simp)
        subst e'
        rw [ha] at e; cases e
        have d' : Data.seq vs.toArray _ = Data.dict es ep := d
        cases d'
    have nsK : ∀ {b : Addr} {m : Str → Option Value}, s₁.heap.Ns b m → (hidT s₁.heap H).Ns b m := fun {b m} ⟨o, es, ep, e, d, r⟩ => ⟨o, es, ep, hidT_get e (noA e d), d, r⟩
    have hKb : K.In (hidT s₁.heap H) := fun b o e => hidT_get (KX b o e) (by
      cases q : H b with
      | none => rfl
      | some u =>
        have e' : b = a := hA b (by rw [q]; simp)
        subst e'
        rw [hK (by rw [q]; simp)] at e; cases e)
    have hM : Mod K mg (hidT s₁.heap H) := ⟨hKb, nsK hns, ⟨mb, nsK hb, hbb⟩, let ⟨mc, h1, h2⟩ := hlim; ⟨mc, nsK h1, h2⟩⟩
    have e0 : Env0 P w K mg (hidT s₁.heap H) callerA [] s₁ H := ⟨rfl, hM, fun b o e => of_hidT e, Nat.le_of_eq (hidT_size _ _), trivial, fun b hb => absurd (show b ∈ ([] : List Addr) from hb) (by simp), hok, .of_eq hg⟩
    refine codeAny_mono ((F _ hKb (nsK hns)).go callerA [] s₁ H ⟨[.ref a], []⟩ [.ref a] [.ref a] _ _ hr e0 (hbind s₁ (.ref a)) (.cons rfl .nil) (hsp H hO hS)) fun r s' h => ?_
    match r, h with
    | .ok (.ret u), h =>
      obtain ⟨v, H', os, bare, un, hok', r', q⟩ := h
      have q' : v = .bl true := q
      subst q'
      obtain rfl : u = Value.bool true := r'
      refine ⟨rfl, OldK.of_keep fun b o e => ?_, os, bare⟩
      cases q : H b with
      | none => exact un.keep b o e q (by intro z; exact absurd (show b ∈ ([] : List Addr) from z) (by simp)) (by simp)
      | some u =>
        rcases hO b with z | ⟨ob, xs, z⟩
        · rw [q] at z; cases z
        · have z2 := un.frzs b ob _ z
          obtain ⟨e1, _⟩ := hok b _ z
          obtain ⟨e2, _⟩ := hok' b _ z2
          rw [e] at e1; cases e1
          exact e2
  cases hk : K.lookup a with
  | some o =>
    have e := KX a o hk
    rw [ha] at e
    cases e
    exact core (fun _ => none) (fun _ => .inl rfl) (.inr ⟨_, vs.toArray, _, hk, rfl, rfl, rfl, by rw [List.size_toArray, lenV]; exact hl, by simpa using rv⟩) (fun b u z => nomatch (show (none : Option HO) = some u from z)) (fun b z => absurd rfl z) fun z => absurd rfl z
  | none =>
    refine core (fun b => if b = a then some (.frz { cls := .type "list", data := .seq vs.toArray } (.lst (ns.map V.int))) else none) (fun b => ?_) (.inl (.inr ⟨{ cls := .type "list", data := .seq vs.toArray }, if_pos rfl⟩)) (fun b u z => ?_) (fun b z => ?_) fun _ => hk
    · by_cases hb : b = a
      · exact .inr ⟨_, _, if_pos hb⟩
      · exact .inl (if_neg hb)
    · by_cases hb : b = a
      · have z' := (if_pos hb).symm.trans z
        cases z'
        subst hb
        exact ⟨ha, by rw [List.length_map]; exact hl, vs, _, rv, ha⟩
      · exact nomatch ((if_neg hb).symm.trans z : (none : Option HO) = some u)
    · by_cases hb : b = a
      · exact hb
      · exact absurd (if_neg hb) z
/-- what k_head leaves, from the law's promise -/
theorem walkG {l : PySem.W.OpenLaw} {n k : Nat} {q : Program} {loose : List Str} {XP : (Str → Option Value) → Heap → Prop} {YP : World → Heap → Prop} {d : DefRec} {K : Params → PySem.W.Frag} {sp : PySem.W.Frag → Sp} {x : Str}
    (hn : l.most = some n) (hn2 : n ≤ sizeLine) (hdf : d.params.defaults = []) (hr : RoomG k callerA)
    (hY : ∀ (w : World) (h : Heap), YP w h → (K w.params).In h)
    (F : ∀ (w : World) (mg : Str → Option Value) (fa : Addr) (h : Heap), (K w.params).In h → h.Ns mainGlobals mg → mg d.name = some (.ref fa) →
      ∃ fd : FuncData, (∀ (s : Shared) (u : Value), BindsTo s fd ⟨[u], []⟩ [(x, u)]) ∧
        ∀ base : Heap, (K w.params).In base → base.Ns mainGlobals mg → FnG l.prog w (K w.params) mg base CX0 k fa fd [x] (sp (K w.params)))
    (hsp : ∀ (K : PySem.W.Frag) (H : Hp) (a : Addr) (ns : List Int), ns.length ≤ n → Only H → SqL K H a (ns.map V.int) → sp K [.ref a] H (fun v _ => v = .bl true) fun _ _ _ => False) :
    PySem.W.WalkO q loose XP YP l.row.toRowW d [] (fun f vs => PySem.call f vs) := by
  refine Att.attach_call hn hdf fun w s₀ s₁ mg mb fa o pm cd doc a vs ns G Y ho hd hcd hmg hobj hints hlen hg => ?_
  have KX := hY w _ Y
  obtain ⟨fd, hb, hF⟩ := F w mg fa _ KX G.T.g hmg
  exact lawG_call KX G.T.g G.T.b G.T.builtins G.T.nolimit hg hobj hints (Nat.le_trans hlen hn2) hr hF hb (fun H hO hS => hsp (K w.params) H a ns hlen hO hS)
end TD

set_option Elab.async false
set_option linter.all false
set_option maxRecDepth 100000
set_option maxHeartbeats 1000000
/-! TD: plain small trees: what repr asks is there; lemmas on walks -/
namespace TD
open PySem PySem.Spec PyProof.Rows L2
mutual
/-- small leaves only -/
def plD : D → Bool
  | .int i => decide (i.natAbs < 10 ^ 12)
  | .str x => x.cps.toList.all fun c => decide (c < 16 ^ 8)
  | .tup ds => plL ds
  | .lst ds => plL ds
  | .dic _ => false
  | .non => true
  | .bl _ => true
  | _ => false
def plL : List D → Bool
  | [] => true
  | d :: r => plD d && plL r
def plK : List (Key × D) → Bool
  | [] => true
  | (.inl i, d) :: r => decide (i.natAbs < 10 ^ 12) && plD d && plK r
  | (.inr x, d) :: r => (x.cps.toList.all fun c => decide (c < 16 ^ 8)) && plD d && plK r
end
mutual
def wgD : D → Nat
  | .int _ => 41
  | .str x => x.cps.size
  | .tup ds => wgL ds
  | .lst ds => wgL ds
  | .dic kvs => wgK kvs
  | _ => 0
def wgL : List D → Nat
  | [] => 0
  | d :: r => wgD d + 1 + wgL r
def wgK : List (Key × D) → Nat
  | [] => 0
  | (.inl _, d) :: r => 41 + wgD d + 2 + wgK r
  | (.inr x, d) :: r => x.cps.size + wgD d + 2 + wgK r
end
theorem log2_12 {i : Int} (h : i.natAbs < 10 ^ 12) : i.natAbs.log2 < 40 := by
  by_cases h0 : i.natAbs = 0
  · rw [h0]; decide
  · rw [Nat.log2_lt h0]
    exact Nat.lt_of_lt_of_le h (by decide)
theorem wg_int {i : Int} (h : i.natAbs < 10 ^ 12) : PyData.weight (.int i) ≤ 41 := by
  unfold PyData.weight
  have := log2_12 h
  split <;> omega
mutual
theorem pl_ok : ∀ d, plD d = true → datD d = true ∧ PyData.showable (toPy d) = true ∧ PyData.leavesShort 13 (toPy d) = true ∧ PyData.weight (toPy d) ≤ wgD d ∧ PyData.depth (toPy d) ≤ dpD d
  | .non, _ => by simp [datD, toPy, PyData.showable, PyData.leavesShort, PyData.weight, PyData.depth, dpD]
  | .bl _, _ => by simp [datD, toPy, PyData.showable, PyData.leavesShort, PyData.weight, PyData.depth, dpD]
  | .int i, h => by
    have h' : i.natAbs < 10 ^ 12 := by simpa [plD] using h
    have := log2_12 h'
    refine ⟨rfl, ?_, ?_, wg_int h', by simp [toPy, PyData.depth]⟩
    · simp only [toPy, PyData.showable, decide_eq_true_eq]; omega
    · simp only [toPy, PyData.leavesShort, decide_eq_true_eq]; exact PyData.shown_int_le h'
  | .str x, h => by
    refine ⟨rfl, by simp [toPy, PyData.showable], ?_, by simp [toPy, PyData.weight, wgD], by simp [toPy, PyData.depth]⟩
    simpa only [plD, toPy, PyData.leavesShort] using h
  | .tup ds, h => by
    obtain ⟨a, b, c, d, e⟩ := plL_ok ds (by simpa [plD] using h)
    simp only [datD, toPy, PyData.showable, PyData.leavesShort, PyData.weight, PyData.depth, dpD, wgD]
    exact ⟨a, b, c, d, by omega⟩
  | .lst ds, h => by
    obtain ⟨a, b, c, d, e⟩ := plL_ok ds (by simpa [plD] using h)
    simp only [datD, toPy, PyData.showable, PyData.leavesShort, PyData.weight, PyData.depth, dpD, wgD]
    exact ⟨a, b, c, d, by omega⟩
  | .dic _, h => by simp [plD] at h
  | .ty _, h => by simp [plD] at h
  | .dct _, h => by simp [plD] at h
  | .ref _, h => by simp [plD] at h
theorem plL_ok : ∀ ds, plL ds = true → datL ds = true ∧ PyData.showableAll (toPyL ds) = true ∧ PyData.leavesShortAll 13 (toPyL ds) = true ∧ PyData.weightAll (toPyL ds) ≤ wgL ds ∧ PyData.depthAll (toPyL ds) ≤ dpL ds
  | [], _ => by simp [datL, toPyL, PyData.showableAll, PyData.leavesShortAll, PyData.weightAll, PyData.depthAll]
  | d :: r, h => by
    simp only [plL, Bool.and_eq_true] at h
    obtain ⟨a, b, c, e, f⟩ := pl_ok d h.1
    obtain ⟨a', b', c', e', f'⟩ := plL_ok r h.2
    simp only [datL, toPyL, PyData.showableAll, PyData.leavesShortAll, PyData.weightAll, PyData.depthAll, dpL, wgL, Bool.and_eq_true]
    exact ⟨⟨a, a'⟩, ⟨b, b'⟩, ⟨c, c'⟩, by omega, by omega⟩
theorem plK_ok : ∀ ds, plK ds = true → datK ds = true ∧ PyData.showableKv (toPyK ds) = true ∧ PyData.leavesShortKv 13 (toPyK ds) = true ∧ PyData.weightKv (toPyK ds) ≤ wgK ds ∧ PyData.depthKv (toPyK ds) ≤ dpK ds
  | [], _ => by simp [datK, toPyK, PyData.showableKv, PyData.leavesShortKv, PyData.weightKv, PyData.depthKv]
  | (.inl i, d) :: r, h => by
    simp only [plK, Bool.and_eq_true, decide_eq_true_eq] at h
    obtain ⟨a, b, c, e, f⟩ := pl_ok d h.1.2
    obtain ⟨a', b', c', e', f'⟩ := plK_ok r h.2
    have h1 := log2_12 h.1.1
    have h2 := PyData.shown_int_le h.1.1
    have h3 := wg_int h.1.1
    simp only [datK, toPyK, keyPy, PyData.showableKv, PyData.leavesShortKv, PyData.weightKv, PyData.depthKv, dpK, wgK, Bool.and_eq_true, PyData.showable, PyData.leavesShort, decide_eq_true_eq, PyData.depth]
    exact ⟨⟨a, a'⟩, ⟨⟨by omega, b⟩, b'⟩, ⟨⟨h2, c⟩, c'⟩, by omega, by omega⟩
  | (.inr x, d) :: r, h => by
    simp only [plK, Bool.and_eq_true] at h
    obtain ⟨a, b, c, e, f⟩ := pl_ok d h.1.2
    obtain ⟨a', b', c', e', f'⟩ := plK_ok r h.2
    simp only [datK, toPyK, keyPy, PyData.showableKv, PyData.leavesShortKv, PyData.weightKv, PyData.depthKv, dpK, wgK, Bool.and_eq_true, PyData.showable, PyData.leavesShort, PyData.depth, PyData.weight]
    exact ⟨⟨a, a'⟩, ⟨⟨True.intro, b⟩, b'⟩, ⟨⟨h.1.1, c⟩, c'⟩, by omega, by omega⟩
end
mutual
theorem pl_nd : ∀ d, plD d = true → (toPy d).hasDict = false
  | .non, _ => by simp [toPy, PyData.hasDict]
  | .bl _, _ => by simp [toPy, PyData.hasDict]
  | .int _, _ => by simp [toPy, PyData.hasDict]
  | .str _, _ => by simp [toPy, PyData.hasDict]
  | .tup ds, h => by simp only [toPy, PyData.hasDict]; exact plL_nd ds (by simpa [plD] using h)
  | .lst ds, h => by simp only [toPy, PyData.hasDict]; exact plL_nd ds (by simpa [plD] using h)
  | .dic _, h => by simp [plD] at h
  | .ty _, h => by simp [plD] at h
  | .dct _, h => by simp [plD] at h
  | .ref _, h => by simp [plD] at h
theorem plL_nd : ∀ ds, plL ds = true → PyData.hasDictAll (toPyL ds) = false
  | [], _ => by simp [toPyL, PyData.hasDictAll]
  | d :: r, h => by
    simp only [plL, Bool.and_eq_true] at h
    simp only [toPyL, PyData.hasDictAll, pl_nd d h.1, plL_nd r h.2, Bool.or_self]
end
/-- repr of a small tree -/
theorem wRepr_pl {d : D} {O : OO} {Q : D → OO → Prop} (hr : refD d = true) (h : plD d = true) (hw : wgD d ≤ 1048576) (hd : dpD d ≤ 60) (q : Q (.str (reprD d)) O) : wRepr [d] O Q := by
  obtain ⟨a, b, c, e, f⟩ := pl_ok d h
  have hl : (reprD d).length ≤ sizeLine := PyData.shown_fits (B := 13) (by decide) (by decide) c (Nat.le_trans e (Nat.le_trans hw (by decide)))
  show wRepr1 d O Q
  cases d with
  | int i => simp [refD] at hr
  | _ => exact ⟨hr, pl_nd _ h, a, b, by omega, hl, q⟩
theorem plL_ints : ∀ {ns : List Int}, (∀ n ∈ ns, 0 ≤ n ∧ n < 10 ^ 12) → plL (ns.map D.int) = true
  | [], _ => rfl
  | n :: r, h => by
    have h1 := h n List.mem_cons_self
    simp only [List.map_cons, plL, plD, Bool.and_eq_true, decide_eq_true_eq]
    exact ⟨by omega, plL_ints fun m hm => h m (List.mem_cons_of_mem _ hm)⟩
theorem wgL_ints : ∀ (ns : List Int), wgL (ns.map D.int) = 42 * ns.length
  | [] => rfl
  | n :: r => by
    simp only [List.map_cons, wgL, wgD, List.length_cons, wgL_ints r]; omega
theorem dpL_ints : ∀ (ns : List Int), dpL (ns.map D.int) = 0
  | [] => rfl
  | n :: r => by
    simp only [List.map_cons, dpL, dpD, dpL_ints r]; omega

/-! ### walks with a plain body -/
theorem lcN_run {g : WG} {Wt : WT} {We : WE} {C : OO → Prop} {s0 : SD} {a : Addr} {Q : OO → Prop} {O0 : OO} {f : D → Option D} : ∀ {ds acc}
    (_ : ∀ d ∈ ds, ∀ (acc : List D) (R : OO → D → Prop) (N : OO → Prop), (match f d with | some y => R (updO O0 a (.lst acc)) y | none => N (updO O0 a (.lst acc))) →
      g d s0 (updO O0 a (.lst acc)) fun s2 O2 => Wt s2 O2 fun b O3 => if b = true then We s2 O3 fun y O4 => R O4 y else N O3)
    (_ : ∀ acc, C (updO O0 a (.lst acc))) (_ : acc.length + ds.length ≤ sizeLine) (_ : Q (updO O0 a (.lst (acc ++ ds.filterMap f)))), lcN g Wt We C s0 a Q ds acc (updO O0 a (.lst acc))
  | [], acc, _, hC, _, q => ⟨hC _, by simpa using q⟩
  | d :: r, acc, hb, hC, hl, q => by
    simp only [List.length_cons] at hl
    refine ⟨hC _, hb d List.mem_cons_self acc (fun O4 y => O4 a = some (.lst acc) ∧ acc.length < sizeLine ∧ lcN g Wt We C s0 a Q r (acc ++ [y]) (updO O4 a (.lst (acc ++ [y])))) (fun O3 => O3 a = some (.lst acc) ∧ lcN g Wt We C s0 a Q r acc O3) ?_⟩
    cases e : f d with
    | none =>
      rw [List.filterMap_cons, e] at q
      exact ⟨updO_same, lcN_run (fun d hd => hb d (List.mem_cons_of_mem _ hd)) hC (by omega) q⟩
    | some y =>
      rw [List.filterMap_cons, e] at q
      refine ⟨updO_same, by omega, ?_⟩
      rw [updO_updO]
      refine lcN_run (fun d hd => hb d (List.mem_cons_of_mem _ hd)) hC ?_ ?_
      · rw [List.length_append, List.length_singleton]; omega
      · rw [List.append_assoc]; exact q
theorem dcN_run {g : WG} {Wt : WT} {Wk We : WE} {C : OO → Prop} {s0 : SD} {a : Addr} {Q : OO → Prop} {O0 : OO} {f : D → Option (Key × D)} : ∀ {ds acc}
    (_ : ∀ d ∈ ds, ∀ (acc : List (Key × D)) (R : OO → D → D → Prop) (N : OO → Prop), (match f d with | some y => R (updO O0 a (.dic acc)) (keyE y.1) y.2 | none => N (updO O0 a (.dic acc))) →
      g d s0 (updO O0 a (.dic acc)) fun s2 O2 => Wt s2 O2 fun b O3 => if b = true then Wk s2 O3 fun y O4 => We s2 O4 fun z O5 => R O5 y z else N O3)
    (_ : ∀ acc, C (updO O0 a (.dic acc))) (_ : acc.length + ds.length ≤ sizeLine) (_ : Q (updO O0 a (.dic (mergeG acc (ds.filterMap f))))), dcN g Wt Wk We C s0 a Q ds acc (updO O0 a (.dic acc))
  | [], acc, _, hC, _, q => ⟨hC _, by simpa [mergeG] using q⟩
  | d :: r, acc, hb, hC, hl, q => by
    simp only [List.length_cons] at hl
    refine ⟨hC _, hb d List.mem_cons_self acc (fun O5 y z => O5 a = some (.dic acc) ∧ acc.length < sizeLine ∧ ∃ k, keyD y = some k ∧ dcN g Wt Wk We C s0 a Q r (putG acc k z) (updO O5 a (.dic (putG acc k z)))) (fun O3 => O3 a = some (.dic acc) ∧ dcN g Wt Wk We C s0 a Q r acc O3) ?_⟩
    cases e : f d with
    | none =>
      rw [List.filterMap_cons, e] at q
      exact ⟨updO_same, dcN_run (fun d hd => hb d (List.mem_cons_of_mem _ hd)) hC (by omega) q⟩
    | some y =>
      rw [List.filterMap_cons, e] at q
      refine ⟨updO_same, by omega, y.1, keyD_keyE _, ?_⟩
      rw [updO_updO]
      refine dcN_run (fun d hd => hb d (List.mem_cons_of_mem _ hd)) hC ?_ q
      have : (putG acc y.1 y.2).length ≤ acc.length + 1 := by
        unfold putG; split <;> simp
      omega
/-- a for over items, by an invariant on what is left -/
theorem forN_run {g : WG} {B : WS} {C : OO → Prop} {D' : DEnds} (P : List D → SD → OO → Prop)
    (hs : ∀ d r s O (K : SD → OO → Prop), (∀ s O, P r s O → K s O) → P (d :: r) s O → C O ∧ g d s O fun s2 O2 => B { D' with nx := K, ct := K, bk := D'.nx } s2 O2)
    (h0 : ∀ s O, P [] s O → C O ∧ D'.nx s O) : ∀ {ds s O}, P ds s O → forN g B C D' ds s O
  | [], s, O, p => h0 s O p
  | d :: r, s, O, p => hs d r s O _ (fun s O h => forN_run P hs h0 h) p
/-- a while, by a measured invariant -/
theorem while_run {Wc : WT} {B : WS} {D' : DEnds} (P : Nat → SD → OO → Prop)
    (hs : ∀ m s O (K : SD → OO → Prop), (∀ m' s O, m' < m → P m' s O → K s O) → P m s O → Wc s O fun k O1 => if k = true then B { D' with nx := K, ct := K, bk := D'.nx } s O1 else D'.nx s O1) {m : Nat} {s : SD} {O : OO} (p : P m s O) : wWhile Wc B D' s O := by
  have go : ∀ n m s O, m < n → P m s O → whileN Wc B D' n s O := by
    intro n
    induction n with
    | zero => intro m s O h; omega
    | succ n ih => intro m s O h p; exact hs m s O _ (fun m' s O hm pm => ih m' s O (by omega) pm) p
  exact ⟨m + 1, go _ m s O (by omega) p⟩
end TD

set_option Elab.async false
set_option linter.all false
set_option maxRecDepth 100000

/-! KH: the text by places -/
namespace KH
open PySem PySem.Spec PyProof.Rows L2 TD
def top (i : Nat) : Stmt := PySem.Challenge.pw_keptviews_k67_whole_histories_by_an_own.main.body.getD i (.Pass ⟨0, 0, 0, 0⟩)
abbrev s_is_integer : Stmt := top 6
abbrev N_is_integer : List Str := ["thing"]
theorem sc_is_integer : FnScope N_is_integer ["thing"] (defScope s_is_integer) := ⟨rfl, rfl, rfl, by decide +kernel, rfl, by decide +kernel, by decide +kernel⟩
abbrev s_is_within : Stmt := top 7
abbrev N_is_within : List Str := ["thing", "least", "most"]
theorem sc_is_within : FnScope N_is_within ["thing", "least", "most"] (defScope s_is_within) := ⟨rfl, rfl, rfl, by decide +kernel, rfl, by decide +kernel, by decide +kernel⟩
abbrev s_is_name : Stmt := top 8
abbrev N_is_name : List Str := ["thing", "sign"]
theorem sc_is_name : FnScope N_is_name ["thing"] (defScope s_is_name) := ⟨rfl, rfl, rfl, by decide +kernel, rfl, by decide +kernel, by decide +kernel⟩
abbrev s_is_word : Stmt := top 12
abbrev N_is_word : List Str := ["thing", "sign"]
theorem sc_is_word : FnScope N_is_word ["thing"] (defScope s_is_word) := ⟨rfl, rfl, rfl, by decide +kernel, rfl, by decide +kernel, by decide +kernel⟩
abbrev s_is_value : Stmt := top 13
abbrev N_is_value : List Str := ["thing"]
theorem sc_is_value : FnScope N_is_value ["thing"] (defScope s_is_value) := ⟨rfl, rfl, rfl, by decide +kernel, rfl, by decide +kernel, by decide +kernel⟩
abbrev s_is_flat_table : Stmt := top 16
abbrev N_is_flat_table : List Str := ["thing", "name", "value"]
theorem sc_is_flat_table : FnScope N_is_flat_table ["thing"] (defScope s_is_flat_table) := ⟨rfl, rfl, rfl, by decide +kernel, rfl, by decide +kernel, by decide +kernel⟩
abbrev s_check_flat : Stmt := top 17
abbrev N_check_flat : List Str := ["table"]
theorem sc_check_flat : FnScope N_check_flat ["table"] (defScope s_check_flat) := ⟨rfl, rfl, rfl, by decide +kernel, rfl, by decide +kernel, by decide +kernel⟩
abbrev s_all_names : Stmt := top 18
abbrev N_all_names : List Str := ["tables", "found", "table"]
theorem sc_all_names : FnScope N_all_names ["tables"] (defScope s_all_names) := ⟨rfl, rfl, rfl, by decide +kernel, rfl, by decide +kernel, by decide +kernel⟩
abbrev s_merged_value : Stmt := top 19
abbrev N_merged_value : List Str := ["old", "first", "second"]
theorem sc_merged_value : FnScope N_merged_value ["old", "first", "second"] (defScope s_merged_value) := ⟨rfl, rfl, rfl, by decide +kernel, rfl, by decide +kernel, by decide +kernel⟩
abbrev s_raw_merged : Stmt := top 20
abbrev N_raw_merged : List Str := ["base", "one", "other", "found", "clashes", "name", "told"]
theorem sc_raw_merged : FnScope N_raw_merged ["base", "one", "other"] (defScope s_raw_merged) := ⟨rfl, rfl, rfl, by decide +kernel, rfl, by decide +kernel, by decide +kernel⟩
abbrev s_merged : Stmt := top 21
abbrev N_merged : List Str := ["base", "one", "other"]
theorem sc_merged : FnScope N_merged ["base", "one", "other"] (defScope s_merged) := ⟨rfl, rfl, rfl, by decide +kernel, rfl, by decide +kernel, by decide +kernel⟩
abbrev s_History___init__ : Stmt := inClass (top 22) 0
abbrev N_History___init__ : List Str := ["self", "table"]
theorem sc_History___init__ : FnScope N_History___init__ ["self", "table"] (defScope s_History___init__) := ⟨rfl, rfl, rfl, by decide +kernel, rfl, by decide +kernel, by decide +kernel⟩
abbrev s_History_check_version : Stmt := inClass (top 22) 1
abbrev N_History_check_version : List Str := ["self", "version"]
theorem sc_History_check_version : FnScope N_History_check_version ["self", "version"] (defScope s_History_check_version) := ⟨rfl, rfl, rfl, by decide +kernel, rfl, by decide +kernel, by decide +kernel⟩
abbrev s_History_enter : Stmt := inClass (top 22) 2
abbrev N_History_enter : List Str := ["self", "table", "parents"]
theorem sc_History_enter : FnScope N_History_enter ["self", "table", "parents"] (defScope s_History_enter) := ⟨rfl, rfl, rfl, by decide +kernel, rfl, by decide +kernel, by decide +kernel⟩
abbrev s_History_commit : Stmt := inClass (top 22) 3
abbrev N_History_commit : List Str := ["self", "version", "table"]
theorem sc_History_commit : FnScope N_History_commit ["self", "version", "table"] (defScope s_History_commit) := ⟨rfl, rfl, rfl, by decide +kernel, rfl, by decide +kernel, by decide +kernel⟩
abbrev s_History_table_of : Stmt := inClass (top 22) 4
abbrev N_History_table_of : List Str := ["self", "version"]
theorem sc_History_table_of : FnScope N_History_table_of ["self", "version"] (defScope s_History_table_of) := ⟨rfl, rfl, rfl, by decide +kernel, rfl, by decide +kernel, by decide +kernel⟩
abbrev s_History_parents : Stmt := inClass (top 22) 5
abbrev N_History_parents : List Str := ["self", "version"]
theorem sc_History_parents : FnScope N_History_parents ["self", "version"] (defScope s_History_parents) := ⟨rfl, rfl, rfl, by decide +kernel, rfl, by decide +kernel, by decide +kernel⟩
abbrev s_History_line_of : Stmt := inClass (top 22) 6
abbrev N_History_line_of : List Str := ["self", "version", "found", "waiting", "parent"]
theorem sc_History_line_of : FnScope N_History_line_of ["self", "version"] (defScope s_History_line_of) := ⟨rfl, rfl, rfl, by decide +kernel, rfl, by decide +kernel, by decide +kernel⟩
abbrev s_History_elders : Stmt := inClass (top 22) 7
abbrev N_History_elders : List Str := ["self", "version", "one"]
theorem sc_History_elders : FnScope N_History_elders ["self", "version"] (defScope s_History_elders) := ⟨rfl, rfl, rfl, by decide +kernel, rfl, by decide +kernel, by decide +kernel⟩
abbrev s_History_raw_bases : Stmt := inClass (top 22) 8
abbrev N_History_raw_bases : List Str := ["self", "one", "other", "mine", "its", "common", "version", "passed", "line", "elder"]
theorem sc_History_raw_bases : FnScope N_History_raw_bases ["self", "one", "other"] (defScope s_History_raw_bases) := ⟨rfl, rfl, rfl, by decide +kernel, rfl, by decide +kernel, by decide +kernel⟩
abbrev s_History_bases : Stmt := inClass (top 22) 9
abbrev N_History_bases : List Str := ["self", "one", "other"]
theorem sc_History_bases : FnScope N_History_bases ["self", "one", "other"] (defScope s_History_bases) := ⟨rfl, rfl, rfl, by decide +kernel, rfl, by decide +kernel, by decide +kernel⟩
abbrev s_History_merge : Stmt := inClass (top 22) 10
abbrev N_History_merge : List Str := ["self", "one", "other", "base", "table", "clashes"]
theorem sc_History_merge : FnScope N_History_merge ["self", "one", "other"] (defScope s_History_merge) := ⟨rfl, rfl, rfl, by decide +kernel, rfl, by decide +kernel, by decide +kernel⟩
abbrev s_History_since : Stmt := inClass (top 22) 11
abbrev N_History_since : List Str := ["self", "one", "other", "mine", "version"]
theorem sc_History_since : FnScope N_History_since ["self", "one", "other"] (defScope s_History_since) := ⟨rfl, rfl, rfl, by decide +kernel, rfl, by decide +kernel, by decide +kernel⟩
abbrev s_law_tape : Stmt := top 24
abbrev N_law_tape : List Str := ["script", "cells", "cell"]
theorem sc_law_tape : FnScope N_law_tape ["script"] (defScope s_law_tape) := ⟨rfl, rfl, rfl, by decide +kernel, rfl, by decide +kernel, by decide +kernel⟩
abbrev s_law_pick : Stmt := top 25
abbrev N_law_pick : List Str := ["tape", "many", "cell", "digit", "number"]
theorem sc_law_pick : FnScope N_law_pick ["tape", "many"] (defScope s_law_pick) := ⟨rfl, rfl, rfl, by decide +kernel, rfl, by decide +kernel, by decide +kernel⟩
abbrev s_law_any : Stmt := top 26
abbrev N_law_any : List Str := ["tape", "things"]
theorem sc_law_any : FnScope N_law_any ["tape", "things"] (defScope s_law_any) := ⟨rfl, rfl, rfl, by decide +kernel, rfl, by decide +kernel, by decide +kernel⟩
abbrev s_law_table : Stmt := top 27
abbrev N_law_table : List Str := ["tape", "names", "found", "name"]
theorem sc_law_table : FnScope N_law_table ["tape", "names"] (defScope s_law_table) := ⟨rfl, rfl, rfl, by decide +kernel, rfl, by decide +kernel, by decide +kernel⟩
abbrev s_law_turned : Stmt := top 28
abbrev N_law_turned : List Str := ["tape", "names", "table", "found", "name", "way"]
theorem sc_law_turned : FnScope N_law_turned ["tape", "names", "table"] (defScope s_law_turned) := ⟨rfl, rfl, rfl, by decide +kernel, rfl, by decide +kernel, by decide +kernel⟩
abbrev s_law_merged : Stmt := top 29
abbrev N_law_merged : List Str := ["base", "one", "other", "found", "clashes", "name", "stood", "mine", "its", "told"]
theorem sc_law_merged : FnScope N_law_merged ["base", "one", "other"] (defScope s_law_merged) := ⟨rfl, rfl, rfl, by decide +kernel, rfl, by decide +kernel, by decide +kernel⟩
abbrev s_law_elders : Stmt := top 30
abbrev N_law_elders : List Str := ["lines", "version", "found", "left", "here"]
theorem sc_law_elders : FnScope N_law_elders ["lines", "version"] (defScope s_law_elders) := ⟨rfl, rfl, rfl, by decide +kernel, rfl, by decide +kernel, by decide +kernel⟩
abbrev s_law_bases : Stmt := top 31
abbrev N_law_bases : List Str := ["lines", "one", "other", "both", "here", "found", "later"]
theorem sc_law_bases : FnScope N_law_bases ["lines", "one", "other"] (defScope s_law_bases) := ⟨rfl, rfl, rfl, by decide +kernel, rfl, by decide +kernel, by decide +kernel⟩
abbrev s_law_grown : Stmt := top 32
abbrev N_law_grown : List Str := ["tape", "history", "lines", "names", "one", "other", "table", "told", "clashes"]
theorem sc_law_grown : FnScope N_law_grown ["tape", "history", "lines", "names"] (defScope s_law_grown) := ⟨rfl, rfl, rfl, by decide +kernel, rfl, by decide +kernel, by decide +kernel⟩
abbrev s_law_stands : Stmt := top 33
abbrev N_law_stands : List Str := ["tape", "history", "lines", "one", "other", "mine", "its", "told", "own", "here", "handed"]
theorem sc_law_stands : FnScope N_law_stands ["tape", "history", "lines"] (defScope s_law_stands) := ⟨rfl, rfl, rfl, by decide +kernel, rfl, by decide +kernel, by decide +kernel⟩
abbrev s_law_known_right : Stmt := top 34
abbrev N_law_known_right : List Str := ["history", "told", "own"]
theorem sc_law_known_right : FnScope N_law_known_right [] (defScope s_law_known_right) := ⟨rfl, rfl, rfl, by decide +kernel, rfl, by decide +kernel, by decide +kernel⟩
abbrev s_law : Stmt := top 35
abbrev N_law : List Str := ["script", "tape", "names", "first", "history", "lines", "turn", "version", "one", "other", "base"]
theorem sc_law : FnScope N_law ["script"] (defScope s_law) := ⟨rfl, rfl, rfl, by decide +kernel, rfl, by decide +kernel, by decide +kernel⟩
structure TX (K : PySem.W.Frag) (mg : Str → Option Value) : Type where
  C_History : Addr
  c_History : Cls K C_History
  m_History : mg "History" = some (.ref C_History)
  n_History_kept_parents : NoAttr K C_History "kept_parents"
  n_History_kept_tables : NoAttr K C_History "kept_tables"
  a_is_integer : Addr
  d_is_integer : FuncData
  F_is_integer : Fun K "is_integer" "is_integer" s_is_integer a_is_integer d_is_integer
  b_is_integer : Binds K d_is_integer ["thing"] []
  m_is_integer : mg "is_integer" = some (.ref a_is_integer)
  a_is_within : Addr
  d_is_within : FuncData
  F_is_within : Fun K "is_within" "is_within" s_is_within a_is_within d_is_within
  b_is_within : Binds K d_is_within ["thing", "least", "most"] []
  m_is_within : mg "is_within" = some (.ref a_is_within)
  a_is_name : Addr
  d_is_name : FuncData
  F_is_name : Fun K "is_name" "is_name" s_is_name a_is_name d_is_name
  b_is_name : Binds K d_is_name ["thing"] []
  m_is_name : mg "is_name" = some (.ref a_is_name)
  a_is_word : Addr
  d_is_word : FuncData
  F_is_word : Fun K "is_word" "is_word" s_is_word a_is_word d_is_word
  b_is_word : Binds K d_is_word ["thing"] []
  m_is_word : mg "is_word" = some (.ref a_is_word)
  a_is_value : Addr
  d_is_value : FuncData
  F_is_value : Fun K "is_value" "is_value" s_is_value a_is_value d_is_value
  b_is_value : Binds K d_is_value ["thing"] []
  m_is_value : mg "is_value" = some (.ref a_is_value)
  a_is_flat_table : Addr
  d_is_flat_table : FuncData
  F_is_flat_table : Fun K "is_flat_table" "is_flat_table" s_is_flat_table a_is_flat_table d_is_flat_table
  b_is_flat_table : Binds K d_is_flat_table ["thing"] []
  m_is_flat_table : mg "is_flat_table" = some (.ref a_is_flat_table)
  a_check_flat : Addr
  d_check_flat : FuncData
  F_check_flat : Fun K "check_flat" "check_flat" s_check_flat a_check_flat d_check_flat
  b_check_flat : Binds K d_check_flat ["table"] []
  m_check_flat : mg "check_flat" = some (.ref a_check_flat)
  a_all_names : Addr
  d_all_names : FuncData
  F_all_names : Fun K "all_names" "all_names" s_all_names a_all_names d_all_names
  b_all_names : Binds K d_all_names ["tables"] []
  m_all_names : mg "all_names" = some (.ref a_all_names)
  a_merged_value : Addr
  d_merged_value : FuncData
  F_merged_value : Fun K "merged_value" "merged_value" s_merged_value a_merged_value d_merged_value
  b_merged_value : Binds K d_merged_value ["old", "first", "second"] []
  m_merged_value : mg "merged_value" = some (.ref a_merged_value)
  a_raw_merged : Addr
  d_raw_merged : FuncData
  F_raw_merged : Fun K "raw_merged" "raw_merged" s_raw_merged a_raw_merged d_raw_merged
  b_raw_merged : Binds K d_raw_merged ["base", "one", "other"] []
  m_raw_merged : mg "raw_merged" = some (.ref a_raw_merged)
  a_merged : Addr
  d_merged : FuncData
  F_merged : Fun K "merged" "merged" s_merged a_merged d_merged
  b_merged : Binds K d_merged ["base", "one", "other"] []
  m_merged : mg "merged" = some (.ref a_merged)
  a_History___init__ : Addr
  d_History___init__ : FuncData
  F_History___init__ : Fun K "__init__" "History.__init__" s_History___init__ a_History___init__ d_History___init__
  b_History___init__ : Binds K d_History___init__ ["self", "table"] []
  M_History : Mk K C_History a_History___init__
  a_History_check_version : Addr
  d_History_check_version : FuncData
  F_History_check_version : Fun K "check_version" "History.check_version" s_History_check_version a_History_check_version d_History_check_version
  b_History_check_version : Binds K d_History_check_version ["self", "version"] []
  M_History_check_version : Meth K C_History "check_version" a_History_check_version
  a_History_enter : Addr
  d_History_enter : FuncData
  F_History_enter : Fun K "enter" "History.enter" s_History_enter a_History_enter d_History_enter
  b_History_enter : Binds K d_History_enter ["self", "table", "parents"] []
  M_History_enter : Meth K C_History "enter" a_History_enter
  a_History_commit : Addr
  d_History_commit : FuncData
  F_History_commit : Fun K "commit" "History.commit" s_History_commit a_History_commit d_History_commit
  b_History_commit : Binds K d_History_commit ["self", "version", "table"] []
  M_History_commit : Meth K C_History "commit" a_History_commit
  a_History_table_of : Addr
  d_History_table_of : FuncData
  F_History_table_of : Fun K "table_of" "History.table_of" s_History_table_of a_History_table_of d_History_table_of
  b_History_table_of : Binds K d_History_table_of ["self", "version"] []
  M_History_table_of : Meth K C_History "table_of" a_History_table_of
  a_History_parents : Addr
  d_History_parents : FuncData
  F_History_parents : Fun K "parents" "History.parents" s_History_parents a_History_parents d_History_parents
  b_History_parents : Binds K d_History_parents ["self", "version"] []
  M_History_parents : Meth K C_History "parents" a_History_parents
  a_History_line_of : Addr
  d_History_line_of : FuncData
  F_History_line_of : Fun K "line_of" "History.line_of" s_History_line_of a_History_line_of d_History_line_of
  b_History_line_of : Binds K d_History_line_of ["self", "version"] []
  M_History_line_of : Meth K C_History "line_of" a_History_line_of
  a_History_elders : Addr
  d_History_elders : FuncData
  F_History_elders : Fun K "elders" "History.elders" s_History_elders a_History_elders d_History_elders
  b_History_elders : Binds K d_History_elders ["self", "version"] []
  M_History_elders : Meth K C_History "elders" a_History_elders
  a_History_raw_bases : Addr
  d_History_raw_bases : FuncData
  F_History_raw_bases : Fun K "raw_bases" "History.raw_bases" s_History_raw_bases a_History_raw_bases d_History_raw_bases
  b_History_raw_bases : Binds K d_History_raw_bases ["self", "one", "other"] []
  M_History_raw_bases : Meth K C_History "raw_bases" a_History_raw_bases
  a_History_bases : Addr
  d_History_bases : FuncData
  F_History_bases : Fun K "bases" "History.bases" s_History_bases a_History_bases d_History_bases
  b_History_bases : Binds K d_History_bases ["self", "one", "other"] []
  M_History_bases : Meth K C_History "bases" a_History_bases
  a_History_merge : Addr
  d_History_merge : FuncData
  F_History_merge : Fun K "merge" "History.merge" s_History_merge a_History_merge d_History_merge
  b_History_merge : Binds K d_History_merge ["self", "one", "other"] []
  M_History_merge : Meth K C_History "merge" a_History_merge
  a_History_since : Addr
  d_History_since : FuncData
  F_History_since : Fun K "since" "History.since" s_History_since a_History_since d_History_since
  b_History_since : Binds K d_History_since ["self", "one", "other"] []
  M_History_since : Meth K C_History "since" a_History_since
  a_law_tape : Addr
  d_law_tape : FuncData
  F_law_tape : Fun K "_law_tape" "_law_tape" s_law_tape a_law_tape d_law_tape
  b_law_tape : Binds K d_law_tape ["script"] []
  m_law_tape : mg "_law_tape" = some (.ref a_law_tape)
  a_law_pick : Addr
  d_law_pick : FuncData
  F_law_pick : Fun K "_law_pick" "_law_pick" s_law_pick a_law_pick d_law_pick
  b_law_pick : Binds K d_law_pick ["tape", "many"] []
  m_law_pick : mg "_law_pick" = some (.ref a_law_pick)
  a_law_any : Addr
  d_law_any : FuncData
  F_law_any : Fun K "_law_any" "_law_any" s_law_any a_law_any d_law_any
  b_law_any : Binds K d_law_any ["tape", "things"] []
  m_law_any : mg "_law_any" = some (.ref a_law_any)
  a_law_table : Addr
  d_law_table : FuncData
  F_law_table : Fun K "_law_table" "_law_table" s_law_table a_law_table d_law_table
  b_law_table : Binds K d_law_table ["tape", "names"] []
  m_law_table : mg "_law_table" = some (.ref a_law_table)
  a_law_turned : Addr
  d_law_turned : FuncData
  F_law_turned : Fun K "_law_turned" "_law_turned" s_law_turned a_law_turned d_law_turned
  b_law_turned : Binds K d_law_turned ["tape", "names", "table"] []
  m_law_turned : mg "_law_turned" = some (.ref a_law_turned)
  a_law_merged : Addr
  d_law_merged : FuncData
  F_law_merged : Fun K "_law_merged" "_law_merged" s_law_merged a_law_merged d_law_merged
  b_law_merged : Binds K d_law_merged ["base", "one", "other"] []
  m_law_merged : mg "_law_merged" = some (.ref a_law_merged)
  a_law_elders : Addr
  d_law_elders : FuncData
  F_law_elders : Fun K "_law_elders" "_law_elders" s_law_elders a_law_elders d_law_elders
  b_law_elders : Binds K d_law_elders ["lines", "version"] []
  m_law_elders : mg "_law_elders" = some (.ref a_law_elders)
  a_law_bases : Addr
  d_law_bases : FuncData
  F_law_bases : Fun K "_law_bases" "_law_bases" s_law_bases a_law_bases d_law_bases
  b_law_bases : Binds K d_law_bases ["lines", "one", "other"] []
  m_law_bases : mg "_law_bases" = some (.ref a_law_bases)
  a_law_grown : Addr
  d_law_grown : FuncData
  F_law_grown : Fun K "_law_grown" "_law_grown" s_law_grown a_law_grown d_law_grown
  b_law_grown : Binds K d_law_grown ["tape", "history", "lines", "names"] []
  m_law_grown : mg "_law_grown" = some (.ref a_law_grown)
  a_law_stands : Addr
  d_law_stands : FuncData
  F_law_stands : Fun K "_law_stands" "_law_stands" s_law_stands a_law_stands d_law_stands
  b_law_stands : Binds K d_law_stands ["tape", "history", "lines"] []
  m_law_stands : mg "_law_stands" = some (.ref a_law_stands)
  a_law_known_right : Addr
  d_law_known_right : FuncData
  F_law_known_right : Fun K "_law_known_right" "_law_known_right" s_law_known_right a_law_known_right d_law_known_right
  b_law_known_right : Binds K d_law_known_right [] []
  m_law_known_right : mg "_law_known_right" = some (.ref a_law_known_right)
  a_law : Addr
  d_law : FuncData
  F_law : Fun K "law" "law" s_law a_law d_law
  b_law : Binds K d_law ["script"] []
  m_law : mg "law" = some (.ref a_law)
  z_all : mg "all" = none
  z_any : mg "any" = none
  z_bool : mg "bool" = none
  z_dict : mg "dict" = none
  z_int : mg "int" = none
  z_isinstance : mg "isinstance" = none
  z_len : mg "len" = none
  z_list : mg "list" = none
  z_range : mg "range" = none
  z_repr : mg "repr" = none
  z_sorted : mg "sorted" = none
  z_str : mg "str" = none
  z_tuple : mg "tuple" = none
  k_MOST_NAMES : ∃ t, mg "MOST_NAMES" = some (.int 200 t)
  k_MOST_SIGNS : ∃ t, mg "MOST_SIGNS" = some (.int 8 t)
  k_MOST_VALUE : ∃ t, mg "MOST_VALUE" = some (.int 1000000 t)
structure CSt where
  C_History : Addr

def TX.cs {K : PySem.W.Frag} {mg : Str → Option Value} (T : TX K mg) : CSt := ⟨T.C_History⟩
end KH

set_option Elab.async false
set_option linter.all false
set_option maxRecDepth 100000
/-! KH: what each def promises -/
namespace KH
open PySem PySem.Spec PyProof.Rows L2 TD
/-! ### the data -/
def names4 : List Str := ["a", "b", "c", "dd"]
def words : List Str := ["", "a", "zz", "abcdefgh", "b"]
def vals : List D := [.int 0, .int 1, .int (-1), .int 7, .int 1000000, .int (-1000000), .int 2, .int 3, .str "", .str "a", .str "zz", .str "abcdefgh", .str "b"]
abbrev Tab := List (Key × D)
structure TabOK (t : Tab) : Prop where
  mem : ∀ kv ∈ t, (∃ n ∈ names4, kv.1 = .inr n) ∧ kv.2 ∈ vals
  nd : (t.map (·.1)).Nodup
/-- a version's line: within so many steps -/
def rch (ps : List (List Int)) : Nat → Int → Int → Bool
  | 0, v, x => decide (v = x)
  | f + 1, v, x => decide (v = x) || (ps[v.toNat]?.getD []).any fun p => rch ps f p x
structure Hist where
  tabs : List Tab
  pars : List (List Int)
def Hist.n (S : Hist) : Nat := S.pars.length
def Hist.add (S : Hist) (t : Tab) (ps : List Int) : Hist := ⟨S.tabs ++ [t], S.pars ++ [ps]⟩
def Hist.rc (S : Hist) (v x : Int) : Bool := rch S.pars S.n v x
structure Wf (S : Hist) : Prop where
  len : S.tabs.length = S.n
  pos : 0 < S.n
  few : S.n ≤ 40
  tab : ∀ t ∈ S.tabs, TabOK t
  par : ∀ (i : Nat) ps, S.pars[i]? = some ps → ps.length ≤ 2 ∧ (∀ p ∈ ps, 0 ≤ p ∧ p < i) ∧ (0 < i → ps ≠ [])
def tupI (ps : List Int) : D := .tup (ps.map D.int)
def setL (n : Nat) (P : Int → Bool) : List Int := ((List.range n).map fun i : Nat => (i : Int)).filter P
def visD (l : List Int) : D := .dic (l.map fun i => (.inl i, .bl true))
def basesL (S : Hist) (u v : Int) : List Int :=
  let c := setL S.n fun x => S.rc u x && S.rc v x
  c.filter fun x => !c.any fun y => decide (y ≠ x) && S.rc y x
def tabsD (S : Hist) : List D := S.tabs.map D.dic
def parsD (S : Hist) : List D := S.pars.map tupI
def lineD (t : Tab) (ps : List Int) : D := .tup [.dic t, tupI ps]
def linesD (S : Hist) : List D := List.zipWith lineD S.tabs S.pars
structure IsH (CS : CSt) (O : OO) (h t p : Addr) (S : Hist) : Prop where
  oh : O h = some (.ins CS.C_History [("kept_tables", .ref t), ("kept_parents", .ref p)])
  ot : O t = some (.lst (tabsD S))
  op : O p = some (.lst (parsD S))
  tp : t ≠ p
def putH (O : OO) (t p : Addr) (S : Hist) : OO := updO (updO O t (.lst (tabsD S))) p (.lst (parsD S))
/-! ### merges -/
def strK (t : Tab) : List Str := t.filterMap fun kv => match kv.1 with | .inr n => some n | .inl _ => none
def namesOf (b x y : Tab) : List Str := sortS (strK (mergeG (mergeG (mergeG [] b) x) y))
def getT (t : Tab) (n : Str) : D := (valG t (.inr n)).getD .non
def mv (o x y : D) : D × Bool := if eqvD x y || eqvD y o then (x, false) else if eqvD x o then (y, false) else (x, true)
def mstep (b x y : Tab) (acc : Tab × List Str) (n : Str) : Tab × List Str :=
  let v := mv (getT b n) (getT x n) (getT y n)
  (if isNonD v.1 then acc.1 else putG acc.1 (.inr n) v.1, if v.2 then acc.2 ++ [n] else acc.2)
def mrg (b x y : Tab) : Tab × List Str := (namesOf b x y).foldl (mstep b x y) ([], [])
/-- each merged version holds what the merge of its parents tells -/
def MOK (S : Hist) : Prop := ∀ (i : Nat) u v, S.pars[i]? = some [u, v] → ∀ b tb tu tv, (basesL S u v)[0]? = some b → S.tabs[b.toNat]? = some tb → S.tabs[u.toNat]? = some tu → S.tabs[v.toNat]? = some tv → S.tabs[i]? = some (mrg tb tu tv).1
def mrgD (b x y : Tab) : D := .tup [.dic (mrg b x y).1, .tup ((mrg b x y).2.map D.str)]

/-! ### the promises -/
def S_is_integer (CS : CSt) : SpD := fun ds O Q => ∃ i, ds = [.int i] ∧ Q (.bl true) O
def S_is_within (CS : CSt) : SpD := fun ds O Q => ∃ i l m, ds = [.int i, .int l, .int m] ∧ Q (.bl (decide (l ≤ i) && decide (i ≤ m))) O
def S_is_name (CS : CSt) : SpD := fun ds O Q => ∃ n ∈ names4, ds = [.str n] ∧ Q (.bl true) O
def S_is_word (CS : CSt) : SpD := fun ds O Q => (∃ i, ds = [.int i] ∧ Q (.bl false) O) ∨ ∃ x ∈ words, ds = [.str x] ∧ Q (.bl true) O
def S_is_value (CS : CSt) : SpD := fun ds O Q => ∃ v ∈ vals, ds = [v] ∧ Q (.bl true) O
def S_is_flat_table (CS : CSt) : SpD := fun ds O Q => ∃ d t, ds = [d] ∧ asK d O = some t ∧ TabOK t ∧ Q (.bl true) O
def S_check_flat (CS : CSt) : SpD := fun ds O Q => ∃ d t, ds = [d] ∧ asK d O = some t ∧ TabOK t ∧ Q .non O
def S_all_names (CS : CSt) : SpD := fun ds O Q => ∃ a b x y, ds = [.ref a] ∧ O a = some (.lst [.dic b, .dic x, .dic y]) ∧ TabOK b ∧ TabOK x ∧ TabOK y ∧ Q (.lst ((namesOf b x y).map D.str)) O
def valN (d : D) : Prop := d = .non ∨ d ∈ vals
def S_merged_value (CS : CSt) : SpD := fun ds O Q => ∃ o x y, ds = [o, x, y] ∧ valN o ∧ valN x ∧ valN y ∧ Q (.tup [(mv o x y).1, .bl (mv o x y).2]) O
def S_raw_merged (CS : CSt) : SpD := fun ds O Q => ∃ b x y, ds = [.dic b, .dic x, .dic y] ∧ TabOK b ∧ TabOK x ∧ TabOK y ∧ Q (mrgD b x y) O
def S_merged (CS : CSt) : SpD := S_raw_merged CS
def S_History___init__ (CS : CSt) : SpD := fun ds O Q => ∃ h d tb, ds = [.ref h, d] ∧ O h = some (.ins CS.C_History []) ∧ asK d O = some tb ∧ TabOK tb ∧
  ∀ t p, O t = none → O p = none → t ≠ p → Q .non (putH (updO O h (.ins CS.C_History [("kept_tables", .ref t), ("kept_parents", .ref p)])) t p ⟨[tb], [[]]⟩)
def S_History_check_version (CS : CSt) : SpD := fun ds O Q => ∃ h t p S v, ds = [.ref h, .int v] ∧ IsH CS O h t p S ∧ Wf S ∧ 0 ≤ v ∧ v < S.n ∧ Q .non O
def S_History_enter (CS : CSt) : SpD := fun ds O Q => ∃ h t p S d tb ps, ds = [.ref h, d, tupI ps] ∧ IsH CS O h t p S ∧ Wf S ∧ asK d O = some tb ∧ Q (.int S.n) (putH O t p (S.add tb ps))
def S_History_commit (CS : CSt) : SpD := fun ds O Q => ∃ h t p S v d tb, ds = [.ref h, .int v, d] ∧ IsH CS O h t p S ∧ Wf S ∧ 0 ≤ v ∧ v < S.n ∧ asK d O = some tb ∧ TabOK tb ∧ Q (.int S.n) (putH O t p (S.add tb [v]))
def S_History_table_of (CS : CSt) : SpD := fun ds O Q => ∃ h t p S v tb, ds = [.ref h, .int v] ∧ IsH CS O h t p S ∧ Wf S ∧ 0 ≤ v ∧ v < S.n ∧ S.tabs[v.toNat]? = some tb ∧ ∀ a, O a = none → Q (.ref a) (updO O a (.dic tb))
def S_History_parents (CS : CSt) : SpD := fun ds O Q => ∃ h t p S v ps, ds = [.ref h, .int v] ∧ IsH CS O h t p S ∧ Wf S ∧ 0 ≤ v ∧ v < S.n ∧ S.pars[v.toNat]? = some ps ∧ Q (tupI ps) O
def S_History_line_of (CS : CSt) : SpD := fun ds O Q => ∃ h t p S v, ds = [.ref h, .int v] ∧ IsH CS O h t p S ∧ Wf S ∧ 0 ≤ v ∧ v < S.n ∧ ∀ l : List Int, l.Nodup → (∀ x, x ∈ l ↔ S.rc v x = true) → Q (visD l) O
def S_History_elders (CS : CSt) : SpD := fun ds O Q => ∃ h t p S v, ds = [.ref h, .int v] ∧ IsH CS O h t p S ∧ Wf S ∧ 0 ≤ v ∧ v < S.n ∧ Q (tupI (setL S.n fun x => S.rc v x && decide (x ≠ v))) O
def S_History_raw_bases (CS : CSt) : SpD := fun ds O Q => ∃ h t p S u v, ds = [.ref h, .int u, .int v] ∧ IsH CS O h t p S ∧ Wf S ∧ 0 ≤ u ∧ u < S.n ∧ 0 ≤ v ∧ v < S.n ∧ Q (.lst ((basesL S u v).map D.int)) O
def S_History_bases (CS : CSt) : SpD := fun ds O Q => ∃ h t p S u v, ds = [.ref h, .int u, .int v] ∧ IsH CS O h t p S ∧ Wf S ∧ 0 ≤ u ∧ u < S.n ∧ 0 ≤ v ∧ v < S.n ∧ Q (tupI (basesL S u v)) O
/-- what merge does -/
def mrgS (S : Hist) (u v : Int) (Q : D → Hist → Prop) : Prop :=
  if S.rc v u = true then Q (.tup [.int v, .tup []]) S else if S.rc u v = true then Q (.tup [.int u, .tup []]) S else
    ∀ b tb tu tv, (basesL S u v)[0]? = some b → S.tabs[b.toNat]? = some tb → S.tabs[u.toNat]? = some tu → S.tabs[v.toNat]? = some tv → Q (.tup [.int S.n, .tup ((mrg tb tu tv).2.map D.str)]) (S.add (mrg tb tu tv).1 [u, v])
def S_History_merge (CS : CSt) : SpD := fun ds O Q => ∃ h t p S u v, ds = [.ref h, .int u, .int v] ∧ IsH CS O h t p S ∧ Wf S ∧ 0 ≤ u ∧ u < S.n ∧ 0 ≤ v ∧ v < S.n ∧ mrgS S u v fun d S' => Q d (putH O t p S')
def S_History_since (CS : CSt) : SpD := fun ds O Q => ∃ h t p S u v, ds = [.ref h, .int u, .int v] ∧ IsH CS O h t p S ∧ Wf S ∧ 0 ≤ u ∧ u < S.n ∧ 0 ≤ v ∧ v < S.n ∧ Q (tupI (setL S.n fun x => S.rc v x && !S.rc u x)) O
/-! the law's own -/
def S_law_pick (CS : CSt) : SpD := fun ds O Q => ∃ a m, ds = [.ref a, .int m] ∧ O a = some .tape ∧ 0 < m ∧ m < 1073741824 ∧ ∀ k, 0 ≤ k → k < m → Q (.int k) O
def S_law_any (CS : CSt) : SpD := fun ds O Q => ∃ a d xs, ds = [.ref a, d] ∧ O a = some .tape ∧ asL d O = some xs ∧ 0 < xs.length ∧ xs.length < 1000 ∧ (∀ x ∈ xs, flatD x = true) ∧ ∀ x ∈ xs, Q x O
def NmOK (ns : List Str) : Prop := ns.Nodup ∧ ∀ n ∈ ns, n ∈ names4
def S_law_table (CS : CSt) : SpD := fun ds O Q => ∃ a ns, ds = [.ref a, .lst (ns.map D.str)] ∧ O a = some .tape ∧ NmOK ns ∧ ∀ tb b, TabOK tb → O b = none → Q (.ref b) (updO O b (.dic tb))
def S_law_turned (CS : CSt) : SpD := fun ds O Q => ∃ a ns tb, ds = [.ref a, .lst (ns.map D.str), .dic tb] ∧ O a = some .tape ∧ NmOK ns ∧ TabOK tb ∧ ∀ tb', TabOK tb' → Q (.dic tb') O
def S_law_merged (CS : CSt) : SpD := S_raw_merged CS
def S_law_elders (CS : CSt) : SpD := fun ds O Q => ∃ ln S v, ds = [.ref ln, .int v] ∧ O ln = some (.lst (linesD S)) ∧ Wf S ∧ 0 ≤ v ∧ v < S.n ∧ ∀ l : List Int, l.Nodup → (∀ x, x ∈ l ↔ S.rc v x = true) → Q (visD l) O
def S_law_bases (CS : CSt) : SpD := fun ds O Q => ∃ ln S u v, ds = [.ref ln, .int u, .int v] ∧ O ln = some (.lst (linesD S)) ∧ Wf S ∧ 0 ≤ u ∧ u < S.n ∧ 0 ≤ v ∧ v < S.n ∧ Q (tupI (basesL S u v)) O
structure Two (CS : CSt) (O : OO) (tp h t p ln : Addr) (S : Hist) : Prop where
  tape : O tp = some .tape
  isH : IsH CS O h t p S
  lines : O ln = some (.lst (linesD S))
  lt : ln ≠ t
  lp : ln ≠ p
  wf : Wf S
def putL (O : OO) (t p ln : Addr) (S : Hist) : OO := updO (putH O t p S) ln (.lst (linesD S))
def S_law_grown (CS : CSt) : SpD := fun ds O Q => ∃ tp h t p ln S ns, ds = [.ref tp, .ref h, .ref ln, .lst (ns.map D.str)] ∧ Two CS O tp h t p ln S ∧ NmOK ns ∧ S.n < 40 ∧ MOK S ∧ ∀ S', Wf S' → MOK S' → S'.n ≤ S.n + 1 → Q (.bl true) (putL O t p ln S')
def S_law_stands (CS : CSt) : SpD := fun ds O Q => ∃ tp h t p ln S, ds = [.ref tp, .ref h, .ref ln] ∧ Two CS O tp h t p ln S ∧ Q (.bl true) O
def S_law_known_right (CS : CSt) : SpD := fun ds O Q => ds = [] ∧ Q (.bl true) O
end KH

set_option Elab.async false
set_option linter.all false
set_option maxRecDepth 100000

/-! KH: what each def asks -/
namespace KH
open PySem PySem.Spec PyProof.Rows L2 TD
def W_is_integer (CS : CSt) : WS := (wRet (wFrz (wAnd (wCB wIsi (wCons (wVar 0) (wCons (wC (.ty "int")) wNil))) (wNot (wCB wIsi (wCons (wVar 0) (wCons (wC (.ty "bool")) wNil)))))))
def W_is_within (CS : CSt) : WS := (wRet (wFrz (wAnd (wCall (S_is_integer CS) (wCons (wVar 0) wNil)) (wChain wLe wLe (wVar 1) (wVar 0) (wVar 2)))))
def W_is_name (CS : CSt) : WS := (wRet (wFrz (wAnd (wCB wIsi (wCons (wVar 0) (wCons (wC (.ty "str")) wNil))) (wAnd (wChain wLe wLe (wC (.int 1)) (wCB wLen (wCons (wVar 0) wNil)) (wC (.int 12))) (wCB wAll (wCons (wLc (wiS (wVar 0)) (wgName 1) (fun _ O Q => Q true O) (wFrz (wChain wLe wLe (wC (.str "a")) (wVar 1) (wC (.str "z")))) [1]) wNil))))))
def W_is_word (CS : CSt) : WS := (wRet (wFrz (wAnd (wCB wIsi (wCons (wVar 0) (wCons (wC (.ty "str")) wNil))) (wAnd (wOp wLe (wCB wLen (wCons (wVar 0) wNil)) (wC (.int 8))) (wCB wAll (wCons (wLc (wiS (wVar 0)) (wgName 1) (fun _ O Q => Q true O) (wFrz (wChain wLe wLe (wC (.str "a")) (wVar 1) (wC (.str "z")))) [1]) wNil))))))
def W_is_value (CS : CSt) : WS := (wRet (wFrz (wOr (wCall (S_is_word CS) (wCons (wVar 0) wNil)) (wCall (S_is_within CS) (wCons (wVar 0) (wCons (wUn wNeg (wC (.int 1000000))) (wCons (wC (.int 1000000)) wNil)))))))
def W_is_flat_table (CS : CSt) : WS := (wSeq (wIfS (tOrW (tNotW (wTst (wCB wIsi (wCons (wVar 0) (wCons (wC (.ty "dict")) wNil))))) (wTst (wOp wGt (wCB wLen (wCons (wVar 0) wNil)) (wC (.int 200))))) (wRet (wC (.bl false))) wNext) (wRet (wFrz (wCB wAll (wCons (wLock 0 (wLc (wiIt (wVar 0)) (wgTup 2 (wgCons (wgName 1) (wgCons (wgName 2) wgNil))) (fun _ O Q => Q true O) (wFrz (wAnd (wCall (S_is_name CS) (wCons (wVar 1) wNil)) (wCall (S_is_value CS) (wCons (wVar 2) wNil)))) [1, 2])) wNil)))))
def W_check_flat (CS : CSt) : WS := (wIfS (tNotW (wTst (wCall (S_is_flat_table CS) (wCons (wVar 0) wNil)))) wNever wNext)
def W_all_names (CS : CSt) : WS := (wSeq (wAsg wNewK (wgName 1)) (wSeq (wFor (wiL (wVar 0)) (wgName 2) (wDrop (wBm "dict" mUpd (wVar 1) (wCons (wFrz (wVar 2)) wNil)))) (wRet (wFrz (wCB wSorted (wCons (wVar 1) wNil))))))
def W_merged_value (CS : CSt) : WS := (wSeq (wIfS (tOrW (wTst (wOp wEq (wFrz (wVar 1)) (wFrz (wVar 2)))) (wTst (wOp wEq (wFrz (wVar 2)) (wFrz (wVar 0))))) (wRet (wTup (wCons (wFrz (wVar 1)) (wCons (wC (.bl false)) wNil)))) wNext) (wRet (wFrz (wIf (wTst (wOp wEq (wFrz (wVar 1)) (wFrz (wVar 0)))) (wTup (wCons (wFrz (wVar 2)) (wCons (wC (.bl false)) wNil))) (wTup (wCons (wFrz (wVar 1)) (wCons (wC (.bl true)) wNil)))))))
def W_raw_merged (CS : CSt) : WS := (wSeq (wPar 3 4 (wCons wNewK (wCons (wLst wNil) wNil))) (wSeq (wFor (wiL (wCall (S_all_names CS) (wCons (wLst (wCons (wFrz (wVar 0)) (wCons (wFrz (wVar 1)) (wCons (wFrz (wVar 2)) wNil)))) wNil))) (wgName 5) (wSeq (wAsg (wCall (S_merged_value CS) (wCons (wGet2 (wVar 0) (wVar 5) (wC .non)) (wCons (wGet2 (wVar 1) (wVar 5) (wC .non)) (wCons (wGet2 (wVar 2) (wVar 5) (wC .non)) wNil)))) (wgName 6)) (wSeq (wIfS (wTst (wOp wNotN (wOp wIx (wVar 6) (wC (.int 0))) (wC .non))) (wAsg (wFrz (wOp wIx (wVar 6) (wC (.int 0)))) (wgSub (wVar 3) (wVar 5))) wNext) (wIfS (wTst (wOp wIx (wVar 6) (wC (.int 1)))) (wDrop (wBm "list" mApp (wVar 4) (wCons (wFrz (wVar 5)) wNil))) wNext)))) (wRet (wTup (wCons (wFrz (wVar 3)) (wCons (wFrz (wCB wTuple (wCons (wVar 4) wNil))) wNil))))))
def W_merged (CS : CSt) : WS := (wSeq (wDrop (wCall (S_check_flat CS) (wCons (wVar 0) wNil))) (wSeq (wDrop (wCall (S_check_flat CS) (wCons (wVar 1) wNil))) (wSeq (wDrop (wCall (S_check_flat CS) (wCons (wVar 2) wNil))) (wRet (wFrz (wCall (S_raw_merged CS) (wCons (wVar 0) (wCons (wVar 1) (wCons (wVar 2) wNil)))))))))
def W_History___init__ (CS : CSt) : WS := (wSeq (wDrop (wCall (S_check_flat CS) (wCons (wVar 1) wNil))) (wSeq (wSFld CS.C_History "kept_tables" (wVar 0) (wLst (wCons (wFrz (wCB wDict2 (wCons (wVar 1) wNil))) wNil))) (wSFld CS.C_History "kept_parents" (wVar 0) (wLst (wCons (wTup wNil) wNil)))))
def W_History_check_version (CS : CSt) : WS := (wIfS (tNotW (wTst (wCall (S_is_within CS) (wCons (wVar 1) (wCons (wC (.int 0)) (wCons (wOp wSub (wCB wLen (wCons (wFld CS.C_History "kept_tables" (wVar 0)) wNil)) (wC (.int 1))) wNil)))))) wNever wNext)
def W_History_enter (CS : CSt) : WS := (wSeq (wDrop (wBm "list" mApp (wFld CS.C_History "kept_tables" (wVar 0)) (wCons (wFrz (wCB wDict2 (wCons (wVar 1) wNil))) wNil))) (wSeq (wDrop (wBm "list" mApp (wFld CS.C_History "kept_parents" (wVar 0)) (wCons (wFrz (wVar 2)) wNil))) (wRet (wFrz (wOp wSub (wCB wLen (wCons (wFld CS.C_History "kept_tables" (wVar 0)) wNil)) (wC (.int 1)))))))
def W_History_commit (CS : CSt) : WS := (wSeq (wDrop (wMeth CS.C_History "check_version" (S_History_check_version CS) (wVar 0) (wCons (wVar 1) wNil))) (wSeq (wDrop (wCall (S_check_flat CS) (wCons (wVar 2) wNil))) (wRet (wFrz (wMeth CS.C_History "enter" (S_History_enter CS) (wVar 0) (wCons (wVar 2) (wCons (wTup (wCons (wFrz (wVar 1)) wNil)) wNil)))))))
def W_History_table_of (CS : CSt) : WS := (wSeq (wDrop (wMeth CS.C_History "check_version" (S_History_check_version CS) (wVar 0) (wCons (wVar 1) wNil))) (wRet (wCB wDict2 (wCons (wOp wIx (wFld CS.C_History "kept_tables" (wVar 0)) (wVar 1)) wNil))))
def W_History_parents (CS : CSt) : WS := (wSeq (wDrop (wMeth CS.C_History "check_version" (S_History_check_version CS) (wVar 0) (wCons (wVar 1) wNil))) (wRet (wFrz (wOp wIx (wFld CS.C_History "kept_parents" (wVar 0)) (wVar 1)))))
def W_History_line_of (CS : CSt) : WS := (wSeq (wPar 2 3 (wCons (wDisp (wpCons (wVar 1) (wC (.bl true)) wpNil)) (wCons (wLst (wCons (wFrz (wVar 1)) wNil)) wNil))) (wSeq (wWhile (wTst (wOp wGt (wCB wLen (wCons (wVar 3) wNil)) (wC (.int 0)))) (wFor (wiT (wOp wIx (wFld CS.C_History "kept_parents" (wVar 0)) (wBm "list" mPop (wVar 3) wNil))) (wgName 4) (wIfS (wTst (wOp wNotIn (wVar 4) (wVar 2))) (wSeq (wAsg (wC (.bl true)) (wgSub (wVar 2) (wVar 4))) (wDrop (wBm "list" mApp (wVar 3) (wCons (wFrz (wVar 4)) wNil)))) wNext))) (wRet (wFrz (wVar 2)))))
def W_History_elders (CS : CSt) : WS := (wSeq (wDrop (wMeth CS.C_History "check_version" (S_History_check_version CS) (wVar 0) (wCons (wVar 1) wNil))) (wRet (wFrz (wCB wTuple (wCons (wLc (wiL (wCB wSorted (wCons (wMeth CS.C_History "line_of" (S_History_line_of CS) (wVar 0) (wCons (wVar 1) wNil)) wNil))) (wgName 2) (wTst (wOp wNe (wFrz (wVar 2)) (wFrz (wVar 1)))) (wFrz (wVar 2)) [2]) wNil)))))
def W_History_raw_bases (CS : CSt) : WS := (wSeq (wAsg (wTup (wCons (wFrz (wMeth CS.C_History "line_of" (S_History_line_of CS) (wVar 0) (wCons (wVar 1) wNil))) (wCons (wFrz (wMeth CS.C_History "line_of" (S_History_line_of CS) (wVar 0) (wCons (wVar 2) wNil))) wNil))) (wgTup 2 (wgCons (wgName 3) (wgCons (wgName 4) wgNil)))) (wSeq (wAsg (wLc (wiL (wCB wSorted (wCons (wVar 3) wNil))) (wgName 6) (wTst (wOp wIn (wVar 6) (wVar 4))) (wFrz (wVar 6)) [6]) (wgName 5)) (wSeq (wAsg wNewK (wgName 7)) (wSeq (wFor (wiL (wVar 5)) (wgName 6) (wSeq (wAsg (wMeth CS.C_History "line_of" (S_History_line_of CS) (wVar 0) (wCons (wVar 6) wNil)) (wgName 8)) (wDrop (wBm "dict" mUpd (wVar 7) (wCons (wFrz (wDc (wiK (wVar 8)) (wgName 9) (wTst (wOp wNe (wFrz (wVar 9)) (wFrz (wVar 6)))) (wVar 9) (wC (.bl true)) [9])) wNil))))) (wRet (wFrz (wLc (wiL (wVar 5)) (wgName 6) (wTst (wOp wNotIn (wVar 6) (wVar 7))) (wFrz (wVar 6)) [6])))))))
def W_History_bases (CS : CSt) : WS := (wSeq (wDrop (wMeth CS.C_History "check_version" (S_History_check_version CS) (wVar 0) (wCons (wVar 1) wNil))) (wSeq (wDrop (wMeth CS.C_History "check_version" (S_History_check_version CS) (wVar 0) (wCons (wVar 2) wNil))) (wRet (wFrz (wCB wTuple (wCons (wMeth CS.C_History "raw_bases" (S_History_raw_bases CS) (wVar 0) (wCons (wVar 1) (wCons (wVar 2) wNil))) wNil))))))
def W_History_merge (CS : CSt) : WS := (wSeq (wDrop (wMeth CS.C_History "check_version" (S_History_check_version CS) (wVar 0) (wCons (wVar 1) wNil))) (wSeq (wDrop (wMeth CS.C_History "check_version" (S_History_check_version CS) (wVar 0) (wCons (wVar 2) wNil))) (wSeq (wIfS (wTst (wOp wIn (wVar 1) (wMeth CS.C_History "line_of" (S_History_line_of CS) (wVar 0) (wCons (wVar 2) wNil)))) (wRet (wTup (wCons (wFrz (wVar 2)) (wCons (wTup wNil) wNil)))) wNext) (wSeq (wIfS (wTst (wOp wIn (wVar 2) (wMeth CS.C_History "line_of" (S_History_line_of CS) (wVar 0) (wCons (wVar 1) wNil)))) (wRet (wTup (wCons (wFrz (wVar 1)) (wCons (wTup wNil) wNil)))) wNext) (wSeq (wAsg (wOp wIx (wMeth CS.C_History "raw_bases" (S_History_raw_bases CS) (wVar 0) (wCons (wVar 1) (wCons (wVar 2) wNil))) (wC (.int 0))) (wgName 3)) (wSeq (wAsg (wCall (S_raw_merged CS) (wCons (wOp wIx (wFld CS.C_History "kept_tables" (wVar 0)) (wVar 3)) (wCons (wOp wIx (wFld CS.C_History "kept_tables" (wVar 0)) (wVar 1)) (wCons (wOp wIx (wFld CS.C_History "kept_tables" (wVar 0)) (wVar 2)) wNil)))) (wgTup 2 (wgCons (wgName 4) (wgCons (wgName 5) wgNil)))) (wRet (wTup (wCons (wFrz (wMeth CS.C_History "enter" (S_History_enter CS) (wVar 0) (wCons (wVar 4) (wCons (wTup (wCons (wFrz (wVar 1)) (wCons (wFrz (wVar 2)) wNil))) wNil)))) (wCons (wFrz (wVar 5)) wNil))))))))))
def W_History_since (CS : CSt) : WS := (wSeq (wDrop (wMeth CS.C_History "check_version" (S_History_check_version CS) (wVar 0) (wCons (wVar 1) wNil))) (wSeq (wDrop (wMeth CS.C_History "check_version" (S_History_check_version CS) (wVar 0) (wCons (wVar 2) wNil))) (wSeq (wAsg (wMeth CS.C_History "line_of" (S_History_line_of CS) (wVar 0) (wCons (wVar 1) wNil)) (wgName 3)) (wRet (wFrz (wCB wTuple (wCons (wLc (wiL (wCB wSorted (wCons (wMeth CS.C_History "line_of" (S_History_line_of CS) (wVar 0) (wCons (wVar 2) wNil)) wNil))) (wgName 4) (wTst (wOp wNotIn (wVar 4) (wVar 3))) (wFrz (wVar 4)) [4]) wNil)))))))
def W_law_pick (CS : CSt) : WS := (wSeq (wIfS (tAndW (wTst (wOp wEq (wFrz (wOp wIx (wVar 0) (wC (.int 2)))) (wC (.int 0)))) (wTst (wOp wLt (wOp wIx (wVar 0) (wC (.int 1))) (wCB wLen (wCons (wOp wIx (wVar 0) (wC (.int 0))) wNil))))) (wSeq (wAsg (wOp wIx (wOp wIx (wVar 0) (wC (.int 0))) (wOp wIx (wVar 0) (wC (.int 1)))) (wgName 2)) (wSeq (wAsg (wFrz (wOp wAdd (wOp wIx (wVar 0) (wC (.int 1))) (wC (.int 1)))) (wgSub (wVar 0) (wC (.int 1)))) (wSeq (wAsg (wFrz (wOp wMod (wCB wInt1 (wCons (wOp wAdd (wOp wAdd (wOp wMul (wOp wIx (wVar 0) (wC (.int 3))) (wC (.int 69621))) (wVar 2)) (wC (.int 11))) wNil)) (wC (.int 2147483629)))) (wgSub (wVar 0) (wC (.int 3)))) (wIfS (wTst (wOp wGe (wVar 2) (wOp wPow (wC (.int 10)) (wC (.int 18))))) (wAsg (wFrz (wVar 2)) (wgSub (wVar 0) (wC (.int 2)))) wNext)))) wNext) (wSeq (wIfS (wTst (wOp wGt (wOp wIx (wVar 0) (wC (.int 2))) (wC (.int 0)))) (wSeq (wAsg (wOp wMod (wCB wInt1 (wCons (wOp wIx (wVar 0) (wC (.int 2))) wNil)) (wVar 1)) (wgName 3)) (wSeq (wAsg (wFrz (wOp wDiv (wOp wIx (wVar 0) (wC (.int 2))) (wVar 1))) (wgSub (wVar 0) (wC (.int 2)))) (wRet (wFrz (wVar 3))))) wNext) (wSeq (wAsg (wFrz (wOp wAdd (wOp wIx (wVar 0) (wC (.int 4))) (wC (.int 1)))) (wgSub (wVar 0) (wC (.int 4)))) (wSeq (wAsg (wOp wMod (wCB wInt1 (wCons (wOp wMul (wCB wInt1 (wCons (wOp wAdd (wOp wIx (wVar 0) (wC (.int 3))) (wOp wMul (wC (.int 7919)) (wOp wIx (wVar 0) (wC (.int 4))))) wNil)) (wC (.int 48271))) wNil)) (wC (.int 2147483647))) (wgName 4)) (wSeq (wAsg (wOp wMod (wCB wInt1 (wCons (wOp wMul (wVar 4) (wOp wAdd (wOp wDiv (wVar 4) (wC (.int 1009))) (wC (.int 69621)))) wNil)) (wC (.int 2147483647))) (wgName 4)) (wSeq (wAsg (wOp wMod (wCB wInt1 (wCons (wOp wMul (wVar 4) (wOp wAdd (wOp wDiv (wVar 4) (wC (.int 2003))) (wC (.int 40692)))) wNil)) (wC (.int 2147483399))) (wgName 4)) (wRet (wFrz (wOp wMod (wCB wInt1 (wCons (wOp wDiv (wVar 4) (wC (.int 16))) wNil)) (wVar 1))))))))))
def W_law_any (CS : CSt) : WS := (wRet (wFrz (wOp wIx (wVar 1) (wCall (S_law_pick CS) (wCons (wVar 0) (wCons (wCB wLen (wCons (wVar 1) wNil)) wNil))))))
def W_law_table (CS : CSt) : WS := (wSeq (wAsg wNewK (wgName 2)) (wSeq (wFor (wiL (wVar 1)) (wgName 3) (wIfS (wTst (wOp wGt (wCall (S_law_pick CS) (wCons (wVar 0) (wCons (wC (.int 3)) wNil))) (wC (.int 0)))) (wAsg (wFrz (wCall (S_law_any CS) (wCons (wVar 0) (wCons (wLst (wCons (wC (.int 0)) (wCons (wC (.int 1)) (wCons (wFrz (wUn wNeg (wC (.int 1)))) (wCons (wC (.int 7)) (wCons (wC (.int 1000000)) (wCons (wFrz (wUn wNeg (wC (.int 1000000)))) (wCons (wC (.str "")) (wCons (wC (.str "a")) (wCons (wC (.str "zz")) (wCons (wC (.str "abcdefgh")) wNil))))))))))) wNil)))) (wgSub (wVar 2) (wVar 3))) wNext)) (wRet (wVar 2))))
def W_law_turned (CS : CSt) : WS := (wSeq (wAsg (wCB wDict2 (wCons (wItems (wVar 2)) wNil)) (wgName 3)) (wSeq (wFor (wiL (wVar 1)) (wgName 4) (wSeq (wAsg (wCall (S_law_pick CS) (wCons (wVar 0) (wCons (wC (.int 5)) wNil))) (wgName 5)) (wSeq (wIfS (wTst (wOp wEq (wFrz (wVar 5)) (wC (.int 0)))) (wAsg (wFrz (wCall (S_law_any CS) (wCons (wVar 0) (wCons (wLst (wCons (wC (.int 0)) (wCons (wC (.int 1)) (wCons (wC (.int 2)) (wCons (wC (.str "a")) (wCons (wC (.str "b")) (wCons (wC (.str "")) wNil))))))) wNil)))) (wgSub (wVar 3) (wVar 4))) wNext) (wIfS (tAndW (wTst (wOp wEq (wFrz (wVar 5)) (wC (.int 1)))) (wTst (wOp wIn (wVar 4) (wVar 3)))) (wDrop (wDPop (wVar 3) (wVar 4))) wNext)))) (wRet (wFrz (wVar 3)))))
def W_law_merged (CS : CSt) : WS := (wSeq (wPar 3 4 (wCons wNewK (wCons (wLst wNil) wNil))) (wSeq (wFor (wiL (wCB wSorted (wCons (wCB wDict2 (wCons (wOp wAdd (wOp wAdd (wItems (wVar 0)) (wItems (wVar 1))) (wItems (wVar 2))) wNil)) wNil))) (wgName 5) (wSeq (wPar3 6 7 8 (wCons (wGet2 (wVar 0) (wVar 5) (wC .non)) (wCons (wGet2 (wVar 1) (wVar 5) (wC .non)) (wCons (wGet2 (wVar 2) (wVar 5) (wC .non)) wNil)))) (wSeq (wAsg (wIf (wTst (wOp wEq (wFrz (wVar 7)) (wFrz (wVar 6)))) (wVar 8) (wVar 7)) (wgName 9)) (wSeq (wIfS (tAndW (wTst (wOp wNe (wFrz (wVar 7)) (wFrz (wVar 8)))) (tAndW (wTst (wOp wNe (wFrz (wVar 7)) (wFrz (wVar 6)))) (wTst (wOp wNe (wFrz (wVar 8)) (wFrz (wVar 6)))))) (wDrop (wBm "list" mApp (wVar 4) (wCons (wFrz (wVar 5)) wNil))) wNext) (wIfS (wTst (wOp wNotN (wVar 9) (wC .non))) (wAsg (wFrz (wVar 9)) (wgSub (wVar 3) (wVar 5))) wNext))))) (wRet (wTup (wCons (wFrz (wVar 3)) (wCons (wFrz (wCB wTuple (wCons (wVar 4) wNil))) wNil))))))
def W_law_elders (CS : CSt) : WS := (wSeq (wPar 2 3 (wCons wNewK (wCons (wLst (wCons (wFrz (wVar 1)) wNil)) wNil))) (wSeq (wWhile (wTst (wOp wGt (wCB wLen (wCons (wVar 3) wNil)) (wC (.int 0)))) (wSeq (wAsg (wBm "list" mPop (wVar 3) wNil) (wgName 4)) (wIfS (wTst (wOp wNotIn (wVar 4) (wVar 2))) (wSeq (wAsg (wC (.bl true)) (wgSub (wVar 2) (wVar 4))) (wAsg (wOp wAdd (wVar 3) (wCB wList (wCons (wOp wIx (wOp wIx (wVar 0) (wVar 4)) (wC (.int 1))) wNil))) (wgName 3))) wNext))) (wRet (wFrz (wVar 2)))))
def W_law_bases (CS : CSt) : WS := (wSeq (wAsg (wLc (wiK (wCall (S_law_elders CS) (wCons (wVar 0) (wCons (wVar 1) wNil)))) (wgName 4) (wTst (wOp wIn (wVar 4) (wCall (S_law_elders CS) (wCons (wVar 0) (wCons (wVar 2) wNil))))) (wFrz (wVar 4)) [4]) (wgName 3)) (wSeq (wAsg (wLst wNil) (wgName 5)) (wSeq (wFor (wiL (wVar 3)) (wgName 4) (wIfS (tNotW (wTst (wCB wAny (wCons (wLc (wiL (wVar 3)) (wgName 6) (fun _ O Q => Q true O) (wFrz (wAnd (wOp wNe (wFrz (wVar 4)) (wFrz (wVar 6))) (wOp wIn (wVar 4) (wCall (S_law_elders CS) (wCons (wVar 0) (wCons (wVar 6) wNil)))))) [6]) wNil)))) (wDrop (wBm "list" mApp (wVar 5) (wCons (wFrz (wVar 4)) wNil))) wNext)) (wRet (wFrz (wCB wTuple (wCons (wCB wSorted (wCons (wVar 5) wNil)) wNil)))))))
def W_law_grown (CS : CSt) : WS := (wSeq (wPar 4 5 (wCons (wCall (S_law_pick CS) (wCons (wVar 0) (wCons (wCB wLen (wCons (wVar 2) wNil)) wNil))) (wCons (wCall (S_law_pick CS) (wCons (wVar 0) (wCons (wCB wLen (wCons (wVar 2) wNil)) wNil))) wNil))) (wSeq (wIfS (wTst (wOp wIn (wVar 5) (wCall (S_law_elders CS) (wCons (wVar 2) (wCons (wVar 4) wNil))))) (wPar 4 5 (wCons (wVar 5) (wCons (wVar 4) wNil))) wNext) (wSeq (wIfS (wTst (wOp wEq (wFrz (wCall (S_law_pick CS) (wCons (wVar 0) (wCons (wC (.int 2)) wNil)))) (wC (.int 0)))) (wSeq (wAsg (wFrz (wCall (S_law_turned CS) (wCons (wVar 0) (wCons (wVar 3) (wCons (wOp wIx (wOp wIx (wVar 2) (wVar 4)) (wC (.int 0))) wNil))))) (wgName 6)) (wSeq (wDrop (wBm "list" mApp (wVar 2) (wCons (wTup (wCons (wFrz (wFrz (wVar 6))) (wCons (wTup (wCons (wFrz (wVar 4)) wNil)) wNil))) wNil))) (wRet (wFrz (wOp wEq (wFrz (wCB wRepr (wCons (wFrz (wMeth CS.C_History "commit" (S_History_commit CS) (wVar 1) (wCons (wVar 4) (wCons (wFrz (wVar 6)) wNil)))) wNil))) (wFrz (wCB wRepr (wCons (wFrz (wOp wSub (wCB wLen (wCons (wVar 2) wNil)) (wC (.int 1)))) wNil)))))))) wNext) (wSeq (wAsg (wMeth CS.C_History "merge" (S_History_merge CS) (wVar 1) (wCons (wVar 4) (wCons (wVar 5) wNil))) (wgName 7)) (wSeq (wIfS (wTst (wOp wIn (wVar 4) (wCall (S_law_elders CS) (wCons (wVar 2) (wCons (wVar 5) wNil))))) (wRet (wFrz (wOp wEq (wFrz (wCB wRepr (wCons (wFrz (wVar 7)) wNil))) (wFrz (wCB wRepr (wCons (wTup (wCons (wFrz (wVar 5)) (wCons (wTup wNil) wNil))) wNil)))))) wNext) (wSeq (wAsg (wCall (S_law_merged CS) (wCons (wOp wIx (wOp wIx (wVar 2) (wOp wIx (wCall (S_law_bases CS) (wCons (wVar 2) (wCons (wVar 4) (wCons (wVar 5) wNil)))) (wC (.int 0)))) (wC (.int 0))) (wCons (wOp wIx (wOp wIx (wVar 2) (wVar 4)) (wC (.int 0))) (wCons (wOp wIx (wOp wIx (wVar 2) (wVar 5)) (wC (.int 0))) wNil)))) (wgTup 2 (wgCons (wgName 6) (wgCons (wgName 8) wgNil)))) (wSeq (wDrop (wBm "list" mApp (wVar 2) (wCons (wTup (wCons (wFrz (wFrz (wVar 6))) (wCons (wTup (wCons (wFrz (wVar 4)) (wCons (wFrz (wVar 5)) wNil))) wNil))) wNil))) (wRet (wFrz (wOp wEq (wFrz (wCB wRepr (wCons (wFrz (wVar 7)) wNil))) (wFrz (wCB wRepr (wCons (wTup (wCons (wFrz (wOp wSub (wCB wLen (wCons (wVar 2) wNil)) (wC (.int 1)))) (wCons (wFrz (wVar 8)) wNil))) wNil)))))))))))))
def W_law_stands (CS : CSt) : WS := (wSeq (wAsg (wTup (wCons (wFrz (wCall (S_law_pick CS) (wCons (wVar 0) (wCons (wCB wLen (wCons (wVar 2) wNil)) wNil)))) (wCons (wFrz (wCall (S_law_pick CS) (wCons (wVar 0) (wCons (wCB wLen (wCons (wVar 2) wNil)) wNil)))) wNil))) (wgTup 2 (wgCons (wgName 3) (wgCons (wgName 4) wgNil)))) (wSeq (wIfS (tOrW (wTst (wOp wNe (wFrz (wMeth CS.C_History "table_of" (S_History_table_of CS) (wVar 1) (wCons (wVar 3) wNil))) (wFrz (wOp wIx (wOp wIx (wVar 2) (wVar 3)) (wC (.int 0)))))) (wTst (wOp wNe (wFrz (wCB wRepr (wCons (wFrz (wMeth CS.C_History "parents" (S_History_parents CS) (wVar 1) (wCons (wVar 3) wNil))) wNil))) (wFrz (wCB wRepr (wCons (wFrz (wOp wIx (wOp wIx (wVar 2) (wVar 3)) (wC (.int 1)))) wNil)))))) (wRet (wC (.bl false))) wNext) (wSeq (wAsg (wTup (wCons (wFrz (wCall (S_law_elders CS) (wCons (wVar 2) (wCons (wVar 3) wNil)))) (wCons (wFrz (wCall (S_law_elders CS) (wCons (wVar 2) (wCons (wVar 4) wNil)))) wNil))) (wgTup 2 (wgCons (wgName 5) (wgCons (wgName 6) wgNil)))) (wSeq (wAsg (wLst (wCons (wFrz (wMeth CS.C_History "elders" (S_History_elders CS) (wVar 1) (wCons (wVar 3) wNil))) (wCons (wFrz (wMeth CS.C_History "bases" (S_History_bases CS) (wVar 1) (wCons (wVar 3) (wCons (wVar 4) wNil)))) (wCons (wFrz (wMeth CS.C_History "bases" (S_History_bases CS) (wVar 1) (wCons (wVar 4) (wCons (wVar 3) wNil)))) (wCons (wFrz (wMeth CS.C_History "since" (S_History_since CS) (wVar 1) (wCons (wVar 3) (wCons (wVar 4) wNil)))) wNil))))) (wgName 7)) (wSeq (wAsg (wLst (wCons (wFrz (wCB wTuple (wCons (wCB wSorted (wCons (wLc (wiK (wVar 5)) (wgName 9) (wTst (wOp wNe (wFrz (wVar 9)) (wFrz (wVar 3)))) (wFrz (wVar 9)) [9]) wNil)) wNil))) (wCons (wFrz (wCall (S_law_bases CS) (wCons (wVar 2) (wCons (wVar 3) (wCons (wVar 4) wNil))))) wNil))) (wgName 8)) (wSeq (wAsg (wOp wAdd (wVar 8) (wLst (wCons (wFrz (wCall (S_law_bases CS) (wCons (wVar 2) (wCons (wVar 4) (wCons (wVar 3) wNil))))) (wCons (wFrz (wCB wTuple (wCons (wCB wSorted (wCons (wLc (wiK (wVar 6)) (wgName 9) (wTst (wOp wNotIn (wVar 9) (wVar 5))) (wFrz (wVar 9)) [9]) wNil)) wNil))) wNil)))) (wgName 8)) (wSeq (wIfS (wTst (wOp wNe (wFrz (wCB wRepr (wCons (wFrz (wVar 7)) wNil))) (wFrz (wCB wRepr (wCons (wFrz (wVar 8)) wNil))))) (wRet (wC (.bl false))) wNext) (wSeq (wAsg (wMeth CS.C_History "table_of" (S_History_table_of CS) (wVar 1) (wCons (wVar 3) wNil)) (wgName 10)) (wSeq (wAsg (wC (.int 5)) (wgSub (wVar 10) (wC (.str "more")))) (wRet (wFrz (wOp wEq (wFrz (wMeth CS.C_History "table_of" (S_History_table_of CS) (wVar 1) (wCons (wVar 3) wNil))) (wFrz (wOp wIx (wOp wIx (wVar 2) (wVar 3)) (wC (.int 0))))))))))))))))
def W_law_known_right (CS : CSt) : WS := (wSeq (wAsg (wMake CS.C_History (S_History___init__ CS) (wCons (wDisp (wpCons (wC (.str "a")) (wC (.int 0)) wpNil)) wNil)) (wgName 0)) (wSeq (wAsg (wLst (wCons (wFrz (wMeth CS.C_History "commit" (S_History_commit CS) (wVar 0) (wCons (wC (.int 0)) (wCons (wDisp (wpCons (wC (.str "a")) (wC (.int 1)) wpNil)) wNil)))) (wCons (wFrz (wMeth CS.C_History "commit" (S_History_commit CS) (wVar 0) (wCons (wC (.int 0)) (wCons (wDisp (wpCons (wC (.str "a")) (wC (.int 0)) (wpCons (wC (.str "b")) (wC (.int 2)) wpNil))) wNil)))) (wCons (wFrz (wMeth CS.C_History "merge" (S_History_merge CS) (wVar 0) (wCons (wC (.int 1)) (wCons (wC (.int 2)) wNil)))) wNil)))) (wgName 1)) (wSeq (wDrop (wBm "list" mApp (wVar 1) (wCons (wFrz (wMeth CS.C_History "merge" (S_History_merge CS) (wVar 0) (wCons (wC (.int 2)) (wCons (wC (.int 1)) wNil)))) wNil))) (wSeq (wAsg (wOp wAdd (wVar 1) (wLst (wCons (wFrz (wMeth CS.C_History "table_of" (S_History_table_of CS) (wVar 0) (wCons (wC (.int 3)) wNil))) (wCons (wFrz (wMeth CS.C_History "bases" (S_History_bases CS) (wVar 0) (wCons (wC (.int 3)) (wCons (wC (.int 4)) wNil)))) (wCons (wFrz (wMeth CS.C_History "commit" (S_History_commit CS) (wVar 0) (wCons (wC (.int 3)) (wCons (wDisp (wpCons (wC (.str "a")) (wC (.int 1)) (wpCons (wC (.str "b")) (wC (.int 3)) wpNil))) wNil)))) wNil))))) (wgName 1)) (wSeq (wAsg (wOp wAdd (wVar 1) (wLst (wCons (wFrz (wMeth CS.C_History "commit" (S_History_commit CS) (wVar 0) (wCons (wC (.int 4)) (wCons (wDisp (wpCons (wC (.str "b")) (wC (.int 2)) wpNil)) wNil)))) (wCons (wFrz (wMeth CS.C_History "merge" (S_History_merge CS) (wVar 0) (wCons (wC (.int 5)) (wCons (wC (.int 6)) wNil)))) (wCons (wFrz (wMeth CS.C_History "table_of" (S_History_table_of CS) (wVar 0) (wCons (wC (.int 7)) wNil))) (wCons (wFrz (wMeth CS.C_History "parents" (S_History_parents CS) (wVar 0) (wCons (wC (.int 7)) wNil))) wNil)))))) (wgName 1)) (wSeq (wAsg (wOp wAdd (wVar 1) (wLst (wCons (wFrz (wMeth CS.C_History "elders" (S_History_elders CS) (wVar 0) (wCons (wC (.int 7)) wNil))) (wCons (wFrz (wMeth CS.C_History "since" (S_History_since CS) (wVar 0) (wCons (wC (.int 5)) (wCons (wC (.int 7)) wNil)))) (wCons (wFrz (wMeth CS.C_History "merge" (S_History_merge CS) (wVar 0) (wCons (wC (.int 0)) (wCons (wC (.int 7)) wNil)))) (wCons (wFrz (wMeth CS.C_History "merge" (S_History_merge CS) (wVar 0) (wCons (wC (.int 7)) (wCons (wC (.int 7)) wNil)))) wNil)))))) (wgName 1)) (wSeq (wDrop (wBm "list" mApp (wVar 1) (wCons (wFrz (wMeth CS.C_History "bases" (S_History_bases CS) (wVar 0) (wCons (wC (.int 0)) (wCons (wC (.int 7)) wNil)))) wNil))) (wSeq (wAsg (wLst (wCons (wC (.int 1)) (wCons (wC (.int 2)) (wCons (wTup (wCons (wC (.int 3)) (wCons (wTup wNil) wNil))) (wCons (wTup (wCons (wC (.int 4)) (wCons (wTup wNil) wNil))) (wCons (wFrz (wDisp (wpCons (wC (.str "a")) (wC (.int 1)) (wpCons (wC (.str "b")) (wC (.int 2)) wpNil)))) (wCons (wTup (wCons (wC (.int 1)) (wCons (wC (.int 2)) wNil))) (wCons (wC (.int 5)) (wCons (wC (.int 6)) (wCons (wTup (wCons (wC (.int 7)) (wCons (wTup (wCons (wC (.str "b")) wNil)) wNil))) (wCons (wFrz (wDisp (wpCons (wC (.str "b")) (wC (.int 3)) wpNil))) (wCons (wTup (wCons (wC (.int 5)) (wCons (wC (.int 6)) wNil))) wNil)))))))))))) (wgName 2)) (wSeq (wAsg (wOp wAdd (wVar 2) (wLst (wCons (wTup (wCons (wC (.int 0)) (wCons (wC (.int 1)) (wCons (wC (.int 2)) (wCons (wC (.int 3)) (wCons (wC (.int 4)) (wCons (wC (.int 5)) (wCons (wC (.int 6)) wNil)))))))) (wCons (wTup (wCons (wC (.int 4)) (wCons (wC (.int 6)) (wCons (wC (.int 7)) wNil)))) (wCons (wTup (wCons (wC (.int 7)) (wCons (wTup wNil) wNil))) (wCons (wTup (wCons (wC (.int 7)) (wCons (wTup wNil) wNil))) (wCons (wTup (wCons (wC (.int 0)) wNil)) wNil))))))) (wgName 2)) (wRet (wFrz (wOp wEq (wFrz (wVar 1)) (wFrz (wVar 2))))))))))))))
def W_law (CS : CSt) : WS := (wSeq (wIfS (tNotW (wTst (wCall (S_law_known_right CS) wNil))) (wRet (wC (.bl false))) wNext) (wSeq (wAsg (wFrz (wSl (wLst (wCons (wC (.str "a")) (wCons (wC (.str "b")) (wCons (wC (.str "c")) (wCons (wC (.str "dd")) wNil))))) wNoP (wPart (wOp wAdd (wC (.int 1)) (wCall (S_law_pick CS) (wCons (wVar 1) (wCons (wC (.int 4)) wNil))))))) (wgName 2)) (wSeq (wAsg (wCall (S_law_table CS) (wCons (wVar 1) (wCons (wFrz (wVar 2)) wNil))) (wgName 3)) (wSeq (wPar 4 5 (wCons (wMake CS.C_History (S_History___init__ CS) (wCons (wVar 3) wNil)) (wCons (wLst (wCons (wTup (wCons (wFrz (wCB wDict2 (wCons (wItems (wVar 3)) wNil))) (wCons (wTup wNil) wNil))) wNil)) wNil))) (wSeq (wAsg (wC (.int 1)) (wgSub (wVar 3) (wC (.str "later")))) (wSeq (wFor (wiR1 (wCons (wOp wAdd (wC (.int 8)) (wCall (S_law_pick CS) (wCons (wVar 1) (wCons (wC (.int 12)) wNil)))) wNil)) (wgName 6) (wIfS (tOrW (tNotW (wTst (wCall (S_law_grown CS) (wCons (wVar 1) (wCons (wVar 4) (wCons (wVar 5) (wCons (wFrz (wVar 2)) wNil))))))) (tNotW (wTst (wCall (S_law_stands CS) (wCons (wVar 1) (wCons (wVar 4) (wCons (wVar 5) wNil))))))) (wRet (wC (.bl false))) wNext)) (wSeq (wFor (wiR1 (wCons (wCB wLen (wCons (wVar 5) wNil)) wNil)) (wgName 7) (wSeq (wIfS (wTst (wOp wNe (wFrz (wMeth CS.C_History "table_of" (S_History_table_of CS) (wVar 4) (wCons (wVar 7) wNil))) (wFrz (wOp wIx (wOp wIx (wVar 5) (wVar 7)) (wC (.int 0)))))) (wRet (wC (.bl false))) wNext) (wIfS (wTst (wOp wEq (wFrz (wCB wLen (wCons (wOp wIx (wOp wIx (wVar 5) (wVar 7)) (wC (.int 1))) wNil))) (wC (.int 2)))) (wSeq (wAsg (wOp wIx (wOp wIx (wVar 5) (wVar 7)) (wC (.int 1))) (wgTup 2 (wgCons (wgName 8) (wgCons (wgName 9) wgNil)))) (wSeq (wAsg (wFrz (wMeth CS.C_History "table_of" (S_History_table_of CS) (wVar 4) (wCons (wOp wIx (wMeth CS.C_History "bases" (S_History_bases CS) (wVar 4) (wCons (wVar 8) (wCons (wVar 9) wNil))) (wC (.int 0))) wNil))) (wgName 10)) (wIfS (wTst (wOp wNe (wFrz (wOp wIx (wCall (S_merged CS) (wCons (wFrz (wVar 10)) (wCons (wFrz (wMeth CS.C_History "table_of" (S_History_table_of CS) (wVar 4) (wCons (wVar 8) wNil))) (wCons (wFrz (wMeth CS.C_History "table_of" (S_History_table_of CS) (wVar 4) (wCons (wVar 9) wNil))) wNil)))) (wC (.int 0)))) (wFrz (wOp wIx (wOp wIx (wVar 5) (wVar 7)) (wC (.int 0)))))) (wRet (wC (.bl false))) wNext))) wNext))) (wRet (wC (.bl true))))))))))
end KH

set_option Elab.async false
set_option linter.all false
set_option maxRecDepth 100000
/-! KH: lines of versions, plain -/
namespace KH
open PySem PySem.Spec PyProof.Rows L2 TD
def ParOK (ps : List (List Int)) : Prop := ∀ (i : Nat) qs, ps[i]? = some qs → ∀ p ∈ qs, 0 ≤ p ∧ p < i
theorem Wf.ok {S : Hist} (w : Wf S) : ParOK S.pars := fun i qs h => (w.par i qs h).2.1
theorem par_lt {ps : List (List Int)} (h : ParOK ps) {v p : Int} (hv : 0 ≤ v) (hp : p ∈ ps[v.toNat]?.getD []) : 0 ≤ p ∧ p < v := by
  cases e : ps[v.toNat]? with
  | none => rw [e] at hp; simp at hp
  | some qs =>
    rw [e] at hp
    have := h _ _ e p hp
    omega
theorem rch_fuel {ps : List (List Int)} (h : ParOK ps) {x : Int} : ∀ (f : Nat) (v : Int), 0 ≤ v → v.toNat ≤ f → rch ps (f + 1) v x = rch ps f v x
  | 0, v, hv, hf => by
    have : v = 0 := by omega
    subst this
    show (decide ((0 : Int) = x) || _) = decide ((0 : Int) = x)
    have : (ps[(0 : Int).toNat]?.getD []).any (fun p => rch ps 0 p x) = false := by
      rw [List.any_eq_false]
      intro p hp
      have := par_lt h (Int.le_refl 0) hp
      omega
    rw [this, Bool.or_false]
  | f + 1, v, hv, hf => by
    show (decide (v = x) || (ps[v.toNat]?.getD []).any fun p => rch ps (f + 1) p x) = (decide (v = x) || (ps[v.toNat]?.getD []).any fun p => rch ps f p x)
    congr 1
    rw [Bool.eq_iff_iff, List.any_eq_true, List.any_eq_true]
    constructor
    · rintro ⟨p, hp, q⟩
      have := par_lt h hv hp
      exact ⟨p, hp, by rw [← rch_fuel h f p this.1 (by omega)]; exact q⟩
    · rintro ⟨p, hp, q⟩
      have := par_lt h hv hp
      exact ⟨p, hp, by rw [rch_fuel h f p this.1 (by omega)]; exact q⟩
theorem rch_self (ps : List (List Int)) (f : Nat) (v : Int) : rch ps f v v = true := by cases f <;> simp [rch]
theorem rc_self (S : Hist) (v : Int) : S.rc v v = true := rch_self _ _ _
theorem rc_step {S : Hist} (w : Wf S) {v x : Int} (hv : 0 ≤ v) (hn : v < S.n) : S.rc v x = (decide (v = x) || (S.pars[v.toNat]?.getD []).any fun p => S.rc p x) := by
  have hp := w.pos
  unfold Hist.rc
  obtain ⟨m, hm⟩ : ∃ m, S.n = m + 1 := ⟨S.n - 1, by omega⟩
  rw [hm]
  show (decide (v = x) || (S.pars[v.toNat]?.getD []).any fun p => rch S.pars m p x) = _
  congr 1
  rw [Bool.eq_iff_iff, List.any_eq_true, List.any_eq_true]
  constructor
  · rintro ⟨p, hp, q⟩
    have := par_lt w.ok hv hp
    exact ⟨p, hp, by rw [rch_fuel w.ok m p this.1 (by omega)]; exact q⟩
  · rintro ⟨p, hp, q⟩
    have := par_lt w.ok hv hp
    exact ⟨p, hp, by rw [← rch_fuel w.ok m p this.1 (by omega)]; exact q⟩
/-- induction along the parents -/
theorem along {S : Hist} (w : Wf S) {P : Int → Prop} (h : ∀ v : Int, 0 ≤ v → v < S.n → (∀ p ∈ S.pars[v.toNat]?.getD [], P p) → P v) : ∀ v : Int, 0 ≤ v → v < S.n → P v := by
  have go : ∀ (k : Nat) (v : Int), 0 ≤ v → v < S.n → v.toNat < k → P v := by
    intro k
    induction k with
    | zero => intro v _ _ h; omega
    | succ k ih =>
      intro v hv hn hk
      refine h v hv hn fun p hp => ?_
      have := par_lt w.ok hv hp
      exact ih p this.1 (by omega) (by omega)
  exact fun v hv hn => go (v.toNat + 1) v hv hn (by omega)
theorem rc_iff {S : Hist} (w : Wf S) {v x : Int} (hv : 0 ≤ v) (hn : v < S.n) : S.rc v x = true ↔ v = x ∨ ∃ p ∈ S.pars[v.toNat]?.getD [], S.rc p x = true := by
  rw [rc_step w hv hn]
  simp
theorem rc_le {S : Hist} (w : Wf S) {v x : Int} (hv : 0 ≤ v) (hn : v < S.n) (h : S.rc v x = true) : 0 ≤ x ∧ x ≤ v := by
  revert h
  refine along w (P := fun v => S.rc v x = true → 0 ≤ x ∧ x ≤ v) (fun v hv hn ih h => ?_) v hv hn
  rcases (rc_iff w hv hn).mp h with rfl | ⟨p, hp, q⟩
  · exact ⟨hv, Int.le_refl _⟩
  · have := par_lt w.ok hv hp
    have := ih p hp q
    omega
theorem rc_trans {S : Hist} (w : Wf S) {u v x : Int} (hu : 0 ≤ u) (hn : u < S.n) (h : S.rc u v = true) (k : S.rc v x = true) : S.rc u x = true := by
  revert h
  refine along w (P := fun u => S.rc u v = true → S.rc u x = true) (fun u hu hn ih h => ?_) u hu hn
  rcases (rc_iff w hu hn).mp h with rfl | ⟨p, hp, q⟩
  · exact k
  · exact (rc_iff w hu hn).mpr (.inr ⟨p, hp, ih p hp q⟩)
theorem rc_root {S : Hist} (w : Wf S) {v : Int} (hv : 0 ≤ v) (hn : v < S.n) : S.rc v 0 = true := by
  refine along w (P := fun v => S.rc v 0 = true) (fun v hv hn ih => ?_) v hv hn
  by_cases h0 : v = 0
  · subst h0; exact rc_self _ _
  · have hl : v.toNat < S.pars.length := by
      have : (S.n : Int) = S.pars.length := rfl
      omega
    have e : S.pars[v.toNat]? = some S.pars[v.toNat] := List.getElem?_eq_getElem hl
    obtain ⟨h1, h2, h3⟩ := w.par _ _ e
    have hne := h3 (by omega)
    cases e2 : S.pars[v.toNat] with
    | nil => exact absurd e2 hne
    | cons p r =>
      have hp : p ∈ S.pars[v.toNat]?.getD [] := by rw [e]; simp [e2]
      exact (rc_iff w hv hn).mpr (.inr ⟨p, hp, ih p hp⟩)
/-- a closed set holds the whole line -/
theorem rc_closed {S : Hist} (w : Wf S) {l : List Int} (hc : ∀ x ∈ l, ∀ p ∈ S.pars[x.toNat]?.getD [], p ∈ l) {v x : Int} (hv : 0 ≤ v) (hn : v < S.n) (hl : v ∈ l) (h : S.rc v x = true) : x ∈ l := by
  revert h hl
  refine along w (P := fun v => v ∈ l → S.rc v x = true → x ∈ l) (fun v hv hn ih hl h => ?_) v hv hn
  rcases (rc_iff w hv hn).mp h with rfl | ⟨p, hp, q⟩
  · exact hl
  · exact ih p hp (hc v hl p hp) q
/-! ### a version more -/
theorem rch_app {ps : List (List Int)} (h : ParOK ps) {q : List Int} {x : Int} : ∀ (f : Nat) (v : Int), 0 ≤ v → v < ps.length → rch (ps ++ [q]) f v x = rch ps f v x
  | 0, v, _, _ => rfl
  | f + 1, v, hv, hn => by
    show (decide (v = x) || ((ps ++ [q])[v.toNat]?.getD []).any fun p => rch (ps ++ [q]) f p x) = (decide (v = x) || (ps[v.toNat]?.getD []).any fun p => rch ps f p x)
    have e : (ps ++ [q])[v.toNat]? = ps[v.toNat]? := List.getElem?_append_left (by omega)
    rw [e]
    congr 1
    rw [Bool.eq_iff_iff, List.any_eq_true, List.any_eq_true]
    constructor
    · rintro ⟨p, hp, z⟩
      have := par_lt h hv hp
      exact ⟨p, hp, by rw [← rch_app h f p this.1 (by omega)]; exact z⟩
    · rintro ⟨p, hp, z⟩
      have := par_lt h hv hp
      exact ⟨p, hp, by rw [rch_app h f p this.1 (by omega)]; exact z⟩
/-! ### lists of versions in their order -/
theorem mem_setL {n : Nat} {P : Int → Bool} {x : Int} : x ∈ setL n P ↔ 0 ≤ x ∧ x < n ∧ P x = true := by
  unfold setL
  rw [List.mem_filter, List.mem_map]
  constructor
  · rintro ⟨⟨i, hi, rfl⟩, hp⟩
    have := List.mem_range.mp hi
    exact ⟨by omega, by omega, hp⟩
  · rintro ⟨h0, h1, hp⟩
    exact ⟨⟨x.toNat, List.mem_range.mpr (by omega), by omega⟩, hp⟩
theorem setL_lt (n : Nat) (P : Int → Bool) : (setL n P).Pairwise (· < ·) := by
  refine List.Pairwise.filter P ?_
  rw [List.pairwise_map]
  exact (List.pairwise_lt_range (n := n)).imp fun h => by omega
theorem setL_nodup (n : Nat) (P : Int → Bool) : (setL n P).Nodup := (setL_lt n P).imp fun h e => by omega
theorem perm_nodup {α : Type} [DecidableEq α] : ∀ {l m : List α}, l.Nodup → m.Nodup → (∀ x, x ∈ l ↔ x ∈ m) → l.Perm m
  | [], m, _, _, h => by
    cases m with
    | nil => exact .refl _
    | cons a r => exact absurd ((h a).mpr List.mem_cons_self) List.not_mem_nil
  | a :: r, m, hl, hm, h => by
    have h1 := List.nodup_cons.mp hl
    have ha : a ∈ m := (h a).mp List.mem_cons_self
    refine (List.Perm.cons a (perm_nodup (m := m.erase a) h1.2 (hm.erase a) fun x => ?_)).trans (List.perm_cons_erase ha).symm
    rw [hm.mem_erase_iff, ← h x]
    constructor
    · intro hx
      exact ⟨fun e => h1.1 (e ▸ hx), List.mem_cons_of_mem _ hx⟩
    · rintro ⟨hne, hx⟩
      exact (List.mem_cons.mp hx).resolve_left hne
theorem sort_setL {n : Nat} {P : Int → Bool} {l : List Int} (hn : l.Nodup) (h : ∀ x, x ∈ l ↔ 0 ≤ x ∧ x < n ∧ P x = true) : sortI l = setL n P :=
  (sortI_of (perm_nodup (setL_nodup n P) hn fun x => mem_setL.trans (h x).symm) ((setL_lt n P).imp fun h => by omega)).symm
theorem setL_filter (n : Nat) (P R : Int → Bool) : (setL n P).filter R = setL n fun x => P x && R x := by
  unfold setL
  rw [List.filter_filter]
  congr 1
  funext x
  exact Bool.and_comm _ _
theorem setL_len (n : Nat) (P : Int → Bool) : (setL n P).length ≤ n := by
  have := List.length_filter_le P ((List.range n).map fun i : Nat => (i : Int))
  simpa [setL] using this
theorem setL_congr {n : Nat} {P R : Int → Bool} (h : ∀ x, 0 ≤ x → x < n → P x = R x) : setL n P = setL n R := by
  unfold setL
  refine List.filter_congr fun x hx => ?_
  obtain ⟨i, hi, rfl⟩ := List.mem_map.mp hx
  have := List.mem_range.mp hi
  exact h _ (by omega) (by omega)
/-! ### bases -/
theorem mem_bases {S : Hist} {u v x : Int} : x ∈ basesL S u v ↔ (0 ≤ x ∧ x < S.n ∧ S.rc u x = true ∧ S.rc v x = true) ∧ ∀ y : Int, 0 ≤ y → y < S.n → S.rc u y = true → S.rc v y = true → y ≠ x → S.rc y x = false := by
  unfold basesL
  simp only [List.mem_filter, mem_setL, Bool.and_eq_true, Bool.not_eq_true', List.any_eq_false, decide_eq_true_eq]
  constructor
  · rintro ⟨⟨a, b, c, d⟩, e⟩
    refine ⟨⟨a, b, c, d⟩, fun y h0 h1 h2 h3 h4 => ?_⟩
    have := e y ⟨h0, h1, h2, h3⟩
    cases q : S.rc y x with
    | false => rfl
    | true => exact absurd ⟨h4, q⟩ this
  · rintro ⟨⟨a, b, c, d⟩, e⟩
    refine ⟨⟨a, b, c, d⟩, fun y ⟨h0, h1, h2, h3⟩ ⟨h4, h5⟩ => ?_⟩
    rw [e y h0 h1 h2 h3 h4] at h5
    cases h5
theorem bases_ne {S : Hist} (w : Wf S) {u v : Int} (hu : 0 ≤ u) (hun : u < S.n) (hv : 0 ≤ v) (hvn : v < S.n) : ∃ b r, basesL S u v = b :: r := by
  -- the greatest common elder
  have ex : ∀ (k : Nat), (∃ x : Int, 0 ≤ x ∧ x < S.n ∧ S.n - x.toNat ≤ k ∧ S.rc u x = true ∧ S.rc v x = true) → ∃ x, x ∈ basesL S u v := by
    intro k
    induction k with
    | zero => rintro ⟨x, h0, h1, h2, _⟩; omega
    | succ k ih =>
      rintro ⟨x, h0, h1, h2, h3, h4⟩
      by_cases hx : x ∈ basesL S u v
      · exact ⟨x, hx⟩
      · rw [mem_bases] at hx
        have : ∃ y : Int, 0 ≤ y ∧ y < S.n ∧ S.rc u y = true ∧ S.rc v y = true ∧ y ≠ x ∧ S.rc y x = true := by
          refine Classical.byContradiction fun hno => hx ⟨⟨h0, h1, h3, h4⟩, fun y a b c d e => ?_⟩
          cases q : S.rc y x with
          | false => rfl
          | true => exact absurd ⟨y, a, b, c, d, e, q⟩ hno
        obtain ⟨y, a, b, c, d, e, q⟩ := this
        have := rc_le w a b q
        exact ih ⟨y, a, b, by omega, c, d⟩
  obtain ⟨x, hx⟩ := ex S.n ⟨0, Int.le_refl _, by have := w.pos; omega, by omega, rc_root w hu hun, rc_root w hv hvn⟩
  cases e : basesL S u v with
  | nil => rw [e] at hx; cases hx
  | cons b r => exact ⟨b, r, rfl⟩
theorem bases_setL (S : Hist) (u v : Int) : basesL S u v = setL S.n fun x => (S.rc u x && S.rc v x) && !(setL S.n fun x => S.rc u x && S.rc v x).any fun y => decide (y ≠ x) && S.rc y x := by
  unfold basesL
  exact setL_filter _ _ _
theorem bases_sub {S : Hist} {u v x : Int} (h : x ∈ basesL S u v) : 0 ≤ x ∧ x < S.n := let q := (mem_bases.mp h).1; ⟨q.1, q.2.1⟩
/-! ### a history that grows -/
theorem Wf.add {S : Hist} (w : Wf S) (hf : S.n < 40) {t : Tab} (ht : TabOK t) {ps : List Int} (h2 : ps.length ≤ 2) (hp : ∀ p ∈ ps, 0 ≤ p ∧ p < S.n) (hne : ps ≠ []) : Wf (S.add t ps) where
  len := by
    have := w.len
    simp only [Hist.add, Hist.n, List.length_append, List.length_singleton] at this ⊢
    omega
  pos := by simp [Hist.add, Hist.n]
  few := by
    simp only [Hist.add, Hist.n, List.length_append, List.length_singleton]
    have : S.n = S.pars.length := rfl
    omega
  tab := fun u hu => by
    rcases List.mem_append.mp hu with h | h
    · exact w.tab u h
    · rw [List.mem_singleton.mp h]; exact ht
  par := fun i qs h => by
    by_cases hi : i < S.pars.length
    · rw [show (S.add t ps).pars = S.pars ++ [ps] from rfl, List.getElem?_append_left hi] at h
      exact w.par i qs h
    · rw [show (S.add t ps).pars = S.pars ++ [ps] from rfl, List.getElem?_append_right (by omega)] at h
      have : i - S.pars.length = 0 := by
        cases e : i - S.pars.length with
        | zero => rfl
        | succ k => rw [e] at h; simp at h
      rw [this] at h
      simp at h
      subst h
      have hi' : i = S.n := by
        have : S.n = S.pars.length := rfl
        omega
      refine ⟨h2, fun p hp' => ?_, fun _ => hne⟩
      have := hp p hp'
      omega
theorem rc_add {S : Hist} (w : Wf S) {t : Tab} {ps : List Int} {v x : Int} (hv : 0 ≤ v) (hn : v < S.n) : (S.add t ps).rc v x = S.rc v x := by
  unfold Hist.rc
  have e : (S.add t ps).n = S.n + 1 := by simp [Hist.add, Hist.n]
  rw [e, show (S.add t ps).pars = S.pars ++ [ps] from rfl, rch_app w.ok _ _ hv hn]
  exact rch_fuel w.ok _ _ hv (by omega)
end KH

set_option Elab.async false
set_option linter.all false
set_option maxRecDepth 100000
/-! KH: the plain defs of the package -/
namespace KH
open PySem PySem.Spec PyProof.Rows L2 TD
theorem ret0 {O : OO} {d : D} {Q : D → OO → Prop} (q : Q d O) : ∃ O2, Le O2 O ∧ Q d O2 := ⟨O, Le.refl _, q⟩
theorem retL {O O' : OO} {d : D} {Q : D → OO → Prop} (l : Le O O') (q : Q d O) : ∃ O2, Le O2 O' ∧ Q d O2 := ⟨O, l, q⟩
theorem asB_all {α : Type} (xs : List α) : asB (xs.map fun _ => D.bl true) = some (xs.map fun _ => true) := by
  induction xs with
  | nil => rfl
  | cons a r ih => simp [asB, ih]
theorem all_true {α : Type} (xs : List α) : ((xs.map fun _ => true).all id) = true := by simp
theorem fm_some {α β : Type} (f : α → β) (xs : List α) : (xs.filterMap fun x => some (f x)) = xs.map f := by simp
variable {CS : CSt} {ds : List D} {O : OO} {Q : D → OO → Prop}
theorem law_is_integer (h : S_is_integer CS ds O Q) : W_is_integer CS (retE Q) (sstart N_is_integer ds) O := by
  obtain ⟨i, rfl, q⟩ := h
  simp [W_is_integer, wSeq, wAsg, wgName, wPar, wPar3, wDrop, wRet, wRetN, wIfS, wNext, wTst, wOp, wUn, wFrz, frzD, frzM, wAnd, wOr, wNot, wIf, tAndW, tOrW, tNotW, wChain, wC, wVar, look, wNil, wCons, wTup, wLst, wNewK, wCB, w1, w2, wCall, wMeth, wMake, wIsi, isaQ, tyD, tyM, isaB, blQ, wLen, lenD, lenM, wLe, wLt, wGt, wGe, wAdd, wSub, wMul, wDiv, wMod, wPow, wNeg, wInt2, wInt1, wAbs, wIx, ixL, ixM, ixK, wIn, wNotIn, inD, inM, inK, keyD, wIsN, wNotN, isNonD, wBm, mApp, appM, mPop, popM, mUpd, updM, wDict2, dctM, wgSub, setM, wFld, fldM, wSFld, sfldM, wGet2, wGet1, wEq, wNe, asL, asLM, asK, asKM, asS, sstart, wFor, wgTup, wgCons, wgNil, wTuple, wList, wiL, wiT, wiS, wiK, wiIt, wiR1, wiR2, seqI, seqM, dicI, dicM, wSorted, wAll, wAny, wLc, wDc, wDisp, wpCons, wpNil, wLock, lockD, lockM, wItems, wDPop, dpopM, isDicM, wSl, slD, slM, wPart, wNoP, wipeS, wNever, retE, -List.lookup_eq_none_iff]
  exact ret0 q
theorem law_is_within (h : S_is_within CS ds O Q) : W_is_within CS (retE Q) (sstart N_is_within ds) O := by
  obtain ⟨i, l, m, rfl, q⟩ := h
  simp [W_is_within, S_is_integer, wSeq, wAsg, wgName, wPar, wPar3, wDrop, wRet, wRetN, wIfS, wNext, wTst, wOp, wUn, wFrz, frzD, frzM, wAnd, wOr, wNot, wIf, tAndW, tOrW, tNotW, wChain, wC, wVar, look, wNil, wCons, wTup, wLst, wNewK, wCB, w1, w2, wCall, wMeth, wMake, wIsi, isaQ, tyD, tyM, isaB, blQ, wLen, lenD, lenM, wLe, wLt, wGt, wGe, wAdd, wSub, wMul, wDiv, wMod, wPow, wNeg, wInt2, wInt1, wAbs, wIx, ixL, ixM, ixK, wIn, wNotIn, inD, inM, inK, keyD, wIsN, wNotN, isNonD, wBm, mApp, appM, mPop, popM, mUpd, updM, wDict2, dctM, wgSub, setM, wFld, fldM, wSFld, sfldM, wGet2, wGet1, wEq, wNe, asL, asLM, asK, asKM, asS, sstart, wFor, wgTup, wgCons, wgNil, wTuple, wList, wiL, wiT, wiS, wiK, wiIt, wiR1, wiR2, seqI, seqM, dicI, dicM, wSorted, wAll, wAny, wLc, wDc, wDisp, wpCons, wpNil, wLock, lockD, lockM, wItems, wDPop, dpopM, isDicM, wSl, slD, slM, wPart, wNoP, wipeS, wNever, retE, -List.lookup_eq_none_iff]
  by_cases h1 : l ≤ i
  · simp [h1] at q ⊢
    by_cases h2 : i ≤ m <;> simp [h2] at q ⊢ <;> exact ret0 q
  · simp [h1] at q ⊢
    exact ret0 q
/-- the letters of a text, one by one -/
theorem letters {n : Str} {a : Addr} {C Qf : OO → Prop} {O0 : OO} {z : D} (hl : ∀ c ∈ n.cps.toList, 97 ≤ c ∧ c ≤ 122) (hz : n.cps.toList.length ≤ sizeLine) (hC : ∀ acc, C (updO O0 a (.lst acc)))
    (q : Qf (updO O0 a (.lst (n.cps.toList.map fun _ => D.bl true)))) :
    lcN (wgName 1) (fun _ O Q => Q true O) (wFrz (wChain wLe wLe (wC (D.str "a")) (wVar 1) (wC (D.str "z")))) C [some z, none] a Qf (n.cps.toList.map fun c => D.str ⟨#[c]⟩) [] (updO O0 a (.lst [])) := by
  refine lcN_run (f := fun _ => some (.bl true)) (fun d hd acc R N h => ?_) hC (by simpa using hz) ?_
  · obtain ⟨c, hc, rfl⟩ := List.mem_map.mp hd
    obtain ⟨h1, h2⟩ := hl c hc
    have f1 : (Str.ofString "a").cps ≤ #[c] := by
      rw [show (Str.ofString "a").cps = #[97] by decide]
      show ¬ ([c] : List Nat) < [97]
      rw [List.cons_lt_cons_iff]
      simp
      omega
    have f2 : ¬ (Str.ofString "z").cps < #[c] := by
      rw [show (Str.ofString "z").cps = #[122] by decide]
      show ¬ ([122] : List Nat) < [c]
      rw [List.cons_lt_cons_iff]
      simp
      omega
    simp [wSeq, wAsg, wgName, wPar, wPar3, wDrop, wRet, wRetN, wIfS, wNext, wTst, wOp, wUn, wFrz, frzD, frzM, wAnd, wOr, wNot, wIf, tAndW, tOrW, tNotW, wChain, wC, wVar, look, wNil, wCons, wTup, wLst, wNewK, wCB, w1, w2, wCall, wMeth, wMake, wIsi, isaQ, tyD, tyM, isaB, blQ, wLen, lenD, lenM, wLe, wLt, wGt, wGe, wAdd, wSub, wMul, wDiv, wMod, wPow, wNeg, wInt2, wInt1, wAbs, wIx, ixL, ixM, ixK, wIn, wNotIn, inD, inM, inK, keyD, wIsN, wNotN, isNonD, wBm, mApp, appM, mPop, popM, mUpd, updM, wDict2, dctM, wgSub, setM, wFld, fldM, wSFld, sfldM, wGet2, wGet1, wEq, wNe, asL, asLM, asK, asKM, asS, sstart, wFor, wgTup, wgCons, wgNil, wTuple, wList, wiL, wiT, wiS, wiK, wiIt, wiR1, wiR2, seqI, seqM, dicI, dicM, wSorted, wAll, wAny, wLc, wDc, wDisp, wpCons, wpNil, wLock, lockD, lockM, wItems, wDPop, dpopM, isDicM, wSl, slD, slM, wPart, wNoP, wipeS, wNever, retE, -List.lookup_eq_none_iff, f1, f2]
    exact h
  · simpa [fm_some, Function.comp_def] using q
theorem law_is_name (h : S_is_name CS ds O Q) : W_is_name CS (retE Q) (sstart N_is_name ds) O := by
  obtain ⟨n, hn, rfl, q⟩ := h
  simp [W_is_name, wSeq, wAsg, wgName, wPar, wPar3, wDrop, wRet, wRetN, wIfS, wNext, wTst, wOp, wUn, wFrz, frzD, frzM, wAnd, wOr, wNot, wIf, tAndW, tOrW, tNotW, wChain, wC, wVar, look, wNil, wCons, wTup, wLst, wNewK, wCB, w1, w2, wCall, wMeth, wMake, wIsi, isaQ, tyD, tyM, isaB, blQ, wLen, lenD, lenM, wLe, wLt, wGt, wGe, wAdd, wSub, wMul, wDiv, wMod, wPow, wNeg, wInt2, wInt1, wAbs, wIx, ixL, ixM, ixK, wIn, wNotIn, inD, inM, inK, keyD, wIsN, wNotN, isNonD, wBm, mApp, appM, mPop, popM, mUpd, updM, wDict2, dctM, wgSub, setM, wFld, fldM, wSFld, sfldM, wGet2, wGet1, wEq, wNe, asL, asLM, asK, asKM, asS, sstart, wFor, wgTup, wgCons, wgNil, wTuple, wList, wiL, wiT, wiS, wiK, wiIt, wiR1, wiR2, seqI, seqM, dicI, dicM, wSorted, wAll, wAny, wLc, wDc, wDisp, wpCons, wpNil, wLock, lockD, lockM, wItems, wDPop, dpopM, isDicM, wSl, slD, slM, wPart, wNoP, wipeS, wNever, retE, -List.lookup_eq_none_iff]
  have hl : n.length ≤ 2 ∧ 1 ≤ n.length ∧ ∀ c ∈ n.cps.toList, 97 ≤ c ∧ c ≤ 122 := by
    simp only [names4, List.mem_cons, List.mem_nil_iff, or_false] at hn
    rcases hn with rfl | rfl | rfl | rfl <;> decide
  obtain ⟨l1, l2, l3⟩ := hl
  have lc : n.cps.toList.length = n.length := by simp [Str.length]
  have sz := sizeLine_eq
  have g1 : (1 : Int) ≤ (n.length : Int) := by omega
  have g2 : (n.length : Int) ≤ 12 := by omega
  refine ⟨by omega, ?_⟩
  simp only [g1, g2, if_true]
  intro a ha
  refine letters l3 (by omega) (fun _ => trivial) ?_
  simp only [updO_same, Option.some.injEq, exists_eq_left', asB_all, all_true]
  exact retL ((Le.refl _).upd ha) q
theorem law_is_word (h : S_is_word CS ds O Q) : W_is_word CS (retE Q) (sstart N_is_word ds) O := by
  rcases h with ⟨i, rfl, q⟩ | ⟨n, hn, rfl, q⟩
  · simp [W_is_word, wSeq, wAsg, wgName, wPar, wPar3, wDrop, wRet, wRetN, wIfS, wNext, wTst, wOp, wUn, wFrz, frzD, frzM, wAnd, wOr, wNot, wIf, tAndW, tOrW, tNotW, wChain, wC, wVar, look, wNil, wCons, wTup, wLst, wNewK, wCB, w1, w2, wCall, wMeth, wMake, wIsi, isaQ, tyD, tyM, isaB, blQ, wLen, lenD, lenM, wLe, wLt, wGt, wGe, wAdd, wSub, wMul, wDiv, wMod, wPow, wNeg, wInt2, wInt1, wAbs, wIx, ixL, ixM, ixK, wIn, wNotIn, inD, inM, inK, keyD, wIsN, wNotN, isNonD, wBm, mApp, appM, mPop, popM, mUpd, updM, wDict2, dctM, wgSub, setM, wFld, fldM, wSFld, sfldM, wGet2, wGet1, wEq, wNe, asL, asLM, asK, asKM, asS, sstart, wFor, wgTup, wgCons, wgNil, wTuple, wList, wiL, wiT, wiS, wiK, wiIt, wiR1, wiR2, seqI, seqM, dicI, dicM, wSorted, wAll, wAny, wLc, wDc, wDisp, wpCons, wpNil, wLock, lockD, lockM, wItems, wDPop, dpopM, isDicM, wSl, slD, slM, wPart, wNoP, wipeS, wNever, retE, -List.lookup_eq_none_iff]
    exact ret0 q
  simp [W_is_word, wSeq, wAsg, wgName, wPar, wPar3, wDrop, wRet, wRetN, wIfS, wNext, wTst, wOp, wUn, wFrz, frzD, frzM, wAnd, wOr, wNot, wIf, tAndW, tOrW, tNotW, wChain, wC, wVar, look, wNil, wCons, wTup, wLst, wNewK, wCB, w1, w2, wCall, wMeth, wMake, wIsi, isaQ, tyD, tyM, isaB, blQ, wLen, lenD, lenM, wLe, wLt, wGt, wGe, wAdd, wSub, wMul, wDiv, wMod, wPow, wNeg, wInt2, wInt1, wAbs, wIx, ixL, ixM, ixK, wIn, wNotIn, inD, inM, inK, keyD, wIsN, wNotN, isNonD, wBm, mApp, appM, mPop, popM, mUpd, updM, wDict2, dctM, wgSub, setM, wFld, fldM, wSFld, sfldM, wGet2, wGet1, wEq, wNe, asL, asLM, asK, asKM, asS, sstart, wFor, wgTup, wgCons, wgNil, wTuple, wList, wiL, wiT, wiS, wiK, wiIt, wiR1, wiR2, seqI, seqM, dicI, dicM, wSorted, wAll, wAny, wLc, wDc, wDisp, wpCons, wpNil, wLock, lockD, lockM, wItems, wDPop, dpopM, isDicM, wSl, slD, slM, wPart, wNoP, wipeS, wNever, retE, -List.lookup_eq_none_iff]
  have hl : n.length ≤ 8 ∧ ∀ c ∈ n.cps.toList, 97 ≤ c ∧ c ≤ 122 := by
    simp only [words, List.mem_cons, List.mem_nil_iff, or_false] at hn
    rcases hn with rfl | rfl | rfl | rfl | rfl <;> decide
  obtain ⟨l1, l3⟩ := hl
  have lc : n.cps.toList.length = n.length := by simp [Str.length]
  have sz := sizeLine_eq
  have g2 : (n.length : Int) ≤ 8 := by omega
  refine ⟨by omega, ?_⟩
  simp only [g2, if_true]
  intro a ha
  refine letters l3 (by omega) (fun _ => trivial) ?_
  simp only [updO_same, Option.some.injEq, exists_eq_left', asB_all, all_true]
  exact retL ((Le.refl _).upd ha) q
theorem law_is_value (h : S_is_value CS ds O Q) : W_is_value CS (retE Q) (sstart N_is_value ds) O := by
  obtain ⟨v, hv, rfl, q⟩ := h
  simp [W_is_value, wSeq, wAsg, wgName, wPar, wPar3, wDrop, wRet, wRetN, wIfS, wNext, wTst, wOp, wUn, wFrz, frzD, frzM, wAnd, wOr, wNot, wIf, tAndW, tOrW, tNotW, wChain, wC, wVar, look, wNil, wCons, wTup, wLst, wNewK, wCB, w1, w2, wCall, wMeth, wMake, wIsi, isaQ, tyD, tyM, isaB, blQ, wLen, lenD, lenM, wLe, wLt, wGt, wGe, wAdd, wSub, wMul, wDiv, wMod, wPow, wNeg, wInt2, wInt1, wAbs, wIx, ixL, ixM, ixK, wIn, wNotIn, inD, inM, inK, keyD, wIsN, wNotN, isNonD, wBm, mApp, appM, mPop, popM, mUpd, updM, wDict2, dctM, wgSub, setM, wFld, fldM, wSFld, sfldM, wGet2, wGet1, wEq, wNe, asL, asLM, asK, asKM, asS, sstart, wFor, wgTup, wgCons, wgNil, wTuple, wList, wiL, wiT, wiS, wiK, wiIt, wiR1, wiR2, seqI, seqM, dicI, dicM, wSorted, wAll, wAny, wLc, wDc, wDisp, wpCons, wpNil, wLock, lockD, lockM, wItems, wDPop, dpopM, isDicM, wSl, slD, slM, wPart, wNoP, wipeS, wNever, retE, -List.lookup_eq_none_iff]
  have : (∃ i : Int, v = .int i ∧ -1000000 ≤ i ∧ i ≤ 1000000) ∨ ∃ x ∈ words, v = .str x := by
    simp only [vals, List.mem_cons, List.mem_nil_iff, or_false] at hv
    rcases hv with rfl | rfl | rfl | rfl | rfl | rfl | rfl | rfl | rfl | rfl | rfl | rfl | rfl
    all_goals first
      | exact .inl ⟨_, rfl, by decide, by decide⟩
      | exact .inr ⟨_, by decide, rfl⟩
  rcases this with ⟨i, rfl, h1, h2⟩ | ⟨x, hx, rfl⟩
  · refine .inl ⟨i, rfl, ?_⟩
    refine ⟨_, _, _, rfl, ?_⟩
    simp [h1, h2]
    exact ret0 q
  · refine .inr ⟨x, hx, rfl, ?_⟩
    simp
    exact ret0 q
end KH

set_option Elab.async false
set_option linter.all false
set_option maxRecDepth 100000
/-! KH: tables -/
namespace KH
open PySem PySem.Spec PyProof.Rows L2 TD
theorem nodup_le {α : Type} : ∀ {l m : List α}, l.Nodup → (∀ x ∈ l, x ∈ m) → l.length ≤ m.length
  | [], m, _, _ => Nat.zero_le _
  | a :: r, m, hn, hs => by
    have h1 := List.nodup_cons.mp hn
    obtain ⟨p, q, e⟩ := List.append_of_mem (hs a List.mem_cons_self)
    have ih := nodup_le (l := r) (m := p ++ q) h1.2 fun x hx => by
      have := hs x (List.mem_cons_of_mem _ hx)
      rw [e] at this
      rcases List.mem_append.mp this with z | z
      · exact List.mem_append_left _ z
      · rcases List.mem_cons.mp z with z | z
        · subst z; exact absurd hx h1.1
        · exact List.mem_append_right _ z
    rw [e]
    simp at ih ⊢
    omega
theorem TabOK.len {t : Tab} (h : TabOK t) : t.length ≤ 4 := by
  have := nodup_le (l := t.map (·.1)) (m := names4.map Sum.inr) h.nd fun k hk => by
    obtain ⟨kv, hkv, rfl⟩ := List.mem_map.mp hk
    obtain ⟨n, hn, e⟩ := (h.mem kv hkv).1
    rw [e]
    exact List.mem_map_of_mem hn
  simpa [names4] using this
variable {CS : CSt} {ds : List D} {O : OO} {Q : D → OO → Prop}
theorem flat_items {t : Tab} (ht : TabOK t) {z : Option D} {a : Addr} {C Qf : OO → Prop} {O0 : OO} (hC : ∀ acc, C (updO O0 a (.lst acc))) (q : Qf (updO O0 a (.lst (t.map fun _ => D.bl true)))) :
    lcN (wgTup 2 (wgCons (wgName 1) (wgCons (wgName 2) wgNil))) (fun _ O Q => Q true O) (wFrz (wAnd (wCall (S_is_name CS) (wCons (wVar 1) wNil)) (wCall (S_is_value CS) (wCons (wVar 2) wNil)))) C [z, none, none] a Qf (t.map fun kv => .tup [keyE kv.1, kv.2]) [] (updO O0 a (.lst [])) := by
  have hl := ht.len
  have sz := sizeLine_eq
  refine lcN_run (f := fun _ => some (.bl true)) (fun d hd acc R N h => ?_) hC (by simp; omega) ?_
  · obtain ⟨kv, hkv, rfl⟩ := List.mem_map.mp hd
    obtain ⟨⟨n, hn, e⟩, hv⟩ := ht.mem kv hkv
    simp [wSeq, wAsg, wgName, wPar, wPar3, wDrop, wRet, wRetN, wIfS, wNext, wTst, wOp, wUn, wFrz, frzD, frzM, wAnd, wOr, wNot, wIf, tAndW, tOrW, tNotW, wChain, wC, wVar, look, wNil, wCons, wTup, wLst, wNewK, wCB, w1, w2, wCall, wMeth, wMake, wIsi, isaQ, tyD, tyM, isaB, blQ, wLen, lenD, lenM, wLe, wLt, wGt, wGe, wAdd, wSub, wMul, wDiv, wMod, wPow, wNeg, wInt2, wInt1, wAbs, wIx, ixL, ixM, ixK, wIn, wNotIn, inD, inM, inK, keyD, wIsN, wNotN, isNonD, wBm, mApp, appM, mPop, popM, mUpd, updM, wDict2, dctM, wgSub, setM, wFld, fldM, wSFld, sfldM, wGet2, wGet1, wEq, wNe, asL, asLM, asK, asKM, asS, sstart, wFor, wgTup, wgCons, wgNil, wTuple, wList, wiL, wiT, wiS, wiK, wiIt, wiR1, wiR2, seqI, seqM, dicI, dicM, wSorted, wAll, wAny, wLc, wDc, wDisp, wpCons, wpNil, wLock, lockD, lockM, wItems, wDPop, dpopM, isDicM, wSl, slD, slM, wPart, wNoP, wipeS, wNever, retE, -List.lookup_eq_none_iff, e, keyE, S_is_name, S_is_value]
    exact ⟨n, hn, rfl, _, hv, rfl, h⟩
  · simpa [fm_some, Function.comp_def] using q
theorem law_is_flat_table (h : S_is_flat_table CS ds O Q) : W_is_flat_table CS (retE Q) (sstart N_is_flat_table ds) O := by
  obtain ⟨d, t, rfl, hd, ht, q⟩ := h
  have hl := ht.len
  have g1 : ¬ (200 : Int) < (t.length : Int) := by omega
  cases d with
  | dic kvs =>
    cases hd
    simp [W_is_flat_table, wSeq, wAsg, wgName, wPar, wPar3, wDrop, wRet, wRetN, wIfS, wNext, wTst, wOp, wUn, wFrz, frzD, frzM, wAnd, wOr, wNot, wIf, tAndW, tOrW, tNotW, wChain, wC, wVar, look, wNil, wCons, wTup, wLst, wNewK, wCB, w1, w2, wCall, wMeth, wMake, wIsi, isaQ, tyD, tyM, isaB, blQ, wLen, lenD, lenM, wLe, wLt, wGt, wGe, wAdd, wSub, wMul, wDiv, wMod, wPow, wNeg, wInt2, wInt1, wAbs, wIx, ixL, ixM, ixK, wIn, wNotIn, inD, inM, inK, keyD, wIsN, wNotN, isNonD, wBm, mApp, appM, mPop, popM, mUpd, updM, wDict2, dctM, wgSub, setM, wFld, fldM, wSFld, sfldM, wGet2, wGet1, wEq, wNe, asL, asLM, asK, asKM, asS, sstart, wFor, wgTup, wgCons, wgNil, wTuple, wList, wiL, wiT, wiS, wiK, wiIt, wiR1, wiR2, seqI, seqM, dicI, dicM, wSorted, wAll, wAny, wLc, wDc, wDisp, wpCons, wpNil, wLock, lockD, lockM, wItems, wDPop, dpopM, isDicM, wSl, slD, slM, wPart, wNoP, wipeS, wNever, retE, -List.lookup_eq_none_iff, g1]
    intro a ha
    refine flat_items ht (fun _ => trivial) ?_
    simp only [updO_same, Option.some.injEq, exists_eq_left', asB_all, all_true]
    exact retL ((Le.refl _).upd ha) q
  | ref b =>
    replace hd : asKM (O b) = some t := hd
    cases e : O b with
    | none => rw [e] at hd; cases hd
    | some m =>
      rw [e] at hd
      cases m with
      | dic kvs =>
        cases hd
        simp [W_is_flat_table, wSeq, wAsg, wgName, wPar, wPar3, wDrop, wRet, wRetN, wIfS, wNext, wTst, wOp, wUn, wFrz, frzD, frzM, wAnd, wOr, wNot, wIf, tAndW, tOrW, tNotW, wChain, wC, wVar, look, wNil, wCons, wTup, wLst, wNewK, wCB, w1, w2, wCall, wMeth, wMake, wIsi, isaQ, tyD, tyM, isaB, blQ, wLen, lenD, lenM, wLe, wLt, wGt, wGe, wAdd, wSub, wMul, wDiv, wMod, wPow, wNeg, wInt2, wInt1, wAbs, wIx, ixL, ixM, ixK, wIn, wNotIn, inD, inM, inK, keyD, wIsN, wNotN, isNonD, wBm, mApp, appM, mPop, popM, mUpd, updM, wDict2, dctM, wgSub, setM, wFld, fldM, wSFld, sfldM, wGet2, wGet1, wEq, wNe, asL, asLM, asK, asKM, asS, sstart, wFor, wgTup, wgCons, wgNil, wTuple, wList, wiL, wiT, wiS, wiK, wiIt, wiR1, wiR2, seqI, seqM, dicI, dicM, wSorted, wAll, wAny, wLc, wDc, wDisp, wpCons, wpNil, wLock, lockD, lockM, wItems, wDPop, dpopM, isDicM, wSl, slD, slM, wPart, wNoP, wipeS, wNever, retE, -List.lookup_eq_none_iff, g1, e]
        intro od us a ha
        have hab : a ≠ b := fun z => by subst z; simp at ha
        have ha' : O a = none := by rwa [updO_ne hab] at ha
        refine flat_items ht (fun acc => by rw [updO_ne hab.symm, updO_same]) ?_
        simp only [updO_ne hab.symm, updO_same, true_and, updO_ne hab, Option.some.injEq, exists_eq_left', asB_all, all_true]
        refine retL (fun x m hx => ?_) q
        by_cases h1 : x = b
        · subst h1; rw [updO_same, ← e, hx]
        · have h2 : x ≠ a := fun z => by subst z; rw [ha'] at hx; cases hx
          rw [updO_ne h1, updO_ne h2, updO_ne h1, hx]
      | lkd od us kvs =>
        cases hd
        simp [W_is_flat_table, wSeq, wAsg, wgName, wPar, wPar3, wDrop, wRet, wRetN, wIfS, wNext, wTst, wOp, wUn, wFrz, frzD, frzM, wAnd, wOr, wNot, wIf, tAndW, tOrW, tNotW, wChain, wC, wVar, look, wNil, wCons, wTup, wLst, wNewK, wCB, w1, w2, wCall, wMeth, wMake, wIsi, isaQ, tyD, tyM, isaB, blQ, wLen, lenD, lenM, wLe, wLt, wGt, wGe, wAdd, wSub, wMul, wDiv, wMod, wPow, wNeg, wInt2, wInt1, wAbs, wIx, ixL, ixM, ixK, wIn, wNotIn, inD, inM, inK, keyD, wIsN, wNotN, isNonD, wBm, mApp, appM, mPop, popM, mUpd, updM, wDict2, dctM, wgSub, setM, wFld, fldM, wSFld, sfldM, wGet2, wGet1, wEq, wNe, asL, asLM, asK, asKM, asS, sstart, wFor, wgTup, wgCons, wgNil, wTuple, wList, wiL, wiT, wiS, wiK, wiIt, wiR1, wiR2, seqI, seqM, dicI, dicM, wSorted, wAll, wAny, wLc, wDc, wDisp, wpCons, wpNil, wLock, lockD, lockM, wItems, wDPop, dpopM, isDicM, wSl, slD, slM, wPart, wNoP, wipeS, wNever, retE, -List.lookup_eq_none_iff, g1, e]
        intro a ha
        have hab : b ≠ a := neO e ha
        refine flat_items ht (fun acc => by rw [updO_ne hab, e]) ?_
        simp only [updO_same, Option.some.injEq, exists_eq_left', asB_all, all_true]
        exact retL ((Le.refl _).upd ha) q
      | _ => cases hd
  | _ => cases hd
theorem law_check_flat (h : S_check_flat CS ds O Q) : W_check_flat CS (retE Q) (sstart N_check_flat ds) O := by
  obtain ⟨d, t, rfl, hd, ht, q⟩ := h
  simp [W_check_flat, wSeq, wAsg, wgName, wPar, wPar3, wDrop, wRet, wRetN, wIfS, wNext, wTst, wOp, wUn, wFrz, frzD, frzM, wAnd, wOr, wNot, wIf, tAndW, tOrW, tNotW, wChain, wC, wVar, look, wNil, wCons, wTup, wLst, wNewK, wCB, w1, w2, wCall, wMeth, wMake, wIsi, isaQ, tyD, tyM, isaB, blQ, wLen, lenD, lenM, wLe, wLt, wGt, wGe, wAdd, wSub, wMul, wDiv, wMod, wPow, wNeg, wInt2, wInt1, wAbs, wIx, ixL, ixM, ixK, wIn, wNotIn, inD, inM, inK, keyD, wIsN, wNotN, isNonD, wBm, mApp, appM, mPop, popM, mUpd, updM, wDict2, dctM, wgSub, setM, wFld, fldM, wSFld, sfldM, wGet2, wGet1, wEq, wNe, asL, asLM, asS, sstart, wFor, wgTup, wgCons, wgNil, wTuple, wList, wiL, wiT, wiS, wiK, wiIt, wiR1, wiR2, seqI, seqM, dicI, dicM, wSorted, wAll, wAny, wLc, wDc, wDisp, wpCons, wpNil, wLock, lockD, lockM, wItems, wDPop, dpopM, isDicM, wSl, slD, slM, wPart, wNoP, wipeS, wNever, retE, -List.lookup_eq_none_iff]
  refine ⟨d, t, rfl, hd, ht, ?_⟩
  exact ⟨rfl, ret0 q⟩
theorem putG_keys {κ ν : Type} [DecidableEq κ] (t : List (κ × ν)) (k : κ) (v : ν) : (putG t k v).map (·.1) = if k ∈ t.map (·.1) then t.map (·.1) else t.map (·.1) ++ [k] := by
  unfold putG
  by_cases h : (t.any fun kv => decide (kv.1 = k)) = true
  · rw [if_pos h]
    have : k ∈ t.map (·.1) := by
      obtain ⟨kv, h1, h2⟩ := List.any_eq_true.mp h
      rw [← of_decide_eq_true h2]
      exact List.mem_map_of_mem h1
    rw [if_pos this, List.map_map]
    exact List.map_congr_left fun kv _ => by
      show (if kv.1 = k then (kv.1, v) else kv).1 = kv.1
      split <;> rfl
  · rw [if_neg h]
    have : k ∉ t.map (·.1) := fun z => by
      obtain ⟨kv, h1, h2⟩ := List.mem_map.mp z
      exact h (List.any_eq_true.mpr ⟨kv, h1, decide_eq_true h2⟩)
    rw [if_neg this]
    simp
theorem mem_putG {κ ν : Type} [DecidableEq κ] {t : List (κ × ν)} {k : κ} {v : ν} {kv : κ × ν} (h : kv ∈ putG t k v) : kv = (k, v) ∨ kv ∈ t := by
  unfold putG at h
  split at h
  · obtain ⟨x, h1, h2⟩ := List.mem_map.mp h
    split at h2
    · rename_i e
      left
      rw [← h2, e]
    · right
      rw [← h2]; exact h1
  · rcases List.mem_append.mp h with h | h
    · exact .inr h
    · exact .inl (by simpa using h)
theorem nodup_put {κ ν : Type} [DecidableEq κ] {t : List (κ × ν)} (h : (t.map (·.1)).Nodup) (k : κ) (v : ν) : ((putG t k v).map (·.1)).Nodup := by
  rw [putG_keys]
  split
  · exact h
  · rename_i hk
    rw [List.nodup_append]
    exact ⟨h, by simp, fun a ha b hb e => by simp at hb; subst hb; subst e; exact hk ha⟩
theorem TabOK.nil : TabOK [] := { mem := fun _ h => (List.not_mem_nil h).elim, nd := List.Pairwise.nil }
theorem TabOK.put {t : Tab} (h : TabOK t) {n : Str} (hn : n ∈ names4) {v : D} (hv : v ∈ vals) : TabOK (putG t (.inr n) v) where
  mem := fun kv hk => by
    rcases mem_putG hk with e | hk
    · rw [e]; exact ⟨⟨n, hn, rfl⟩, hv⟩
    · exact h.mem kv hk
  nd := nodup_put h.nd _ _
theorem TabOK.merge {t u : Tab} (h : TabOK t) (k : TabOK u) : TabOK (mergeG t u) := by
  have go : ∀ (u : Tab), (∀ kv ∈ u, (∃ n ∈ names4, kv.1 = .inr n) ∧ kv.2 ∈ vals) → ∀ t, TabOK t → TabOK (mergeG t u) := by
    intro u
    induction u with
    | nil => intro _ t h; exact h
    | cons kv r ih =>
      intro hu t h
      obtain ⟨⟨n, hn, e⟩, hv⟩ := hu kv List.mem_cons_self
      have := ih (fun x hx => hu x (List.mem_cons_of_mem _ hx)) (putG t kv.1 kv.2) (by rw [e]; exact h.put hn hv)
      exact this
  exact go u k.mem t h
theorem TabOK.drop {t : Tab} (h : TabOK t) (k : Key) : TabOK (dropG t k) :=
  ⟨fun kv hk => h.mem kv ((List.mem_filter.mp hk).1), (h.nd.sublist ((List.filter_sublist (l := t)).map _))⟩
theorem keysS_strK : ∀ {t : Tab}, (∀ kv ∈ t, ∃ n, kv.1 = .inr n) → keysS (t.map (·.1)) = some (strK t)
  | [], _ => rfl
  | (.inr n, v) :: r, h => by
    have ih := keysS_strK (t := r) fun x hx => h x (List.mem_cons_of_mem _ hx)
    simp only [List.map_cons, keysS, ih, strK, List.filterMap_cons, Option.map_some]
  | (.inl n, v) :: r, h => by
    obtain ⟨m, e⟩ := h _ List.mem_cons_self
    cases e
theorem strK_len (t : Tab) : (strK t).length ≤ t.length := List.length_filterMap_le _ _
theorem TabOK.keys {t : Tab} (h : TabOK t) : keysS (t.map (·.1)) = some (strK t) := keysS_strK fun kv hk => (h.mem kv hk).1.imp fun _ q => q.2
theorem none_upd {O : OO} {a c : Addr} {m : MO} (h : updO O a m c = none) : c ≠ a ∧ O c = none := by
  unfold updO at h
  split at h
  · cases h
  · exact ⟨by assumption, h⟩
theorem sortedK_s {d : D} {O : OO} {Q : D → OO → Prop} {kvs : Tab} {ns : List Str} (h : asK d O = some kvs) (hk : keysS (kvs.map (·.1)) = some ns) (hl : ns.length < 64) (q : ∀ a, O a = none → Q (.ref a) (updO O a (.lst ((sortS ns).map D.str)))) : wSorted [d] O Q :=
  .inr (.inr (.inr ⟨kvs, ns, h, hk, hl, q⟩))
theorem sortedK_i {d : D} {O : OO} {Q : D → OO → Prop} {kvs : Tab} {ns : List Int} (h : asK d O = some kvs) (hk : keysI (kvs.map (·.1)) = some ns) (hl : ns.length < 64) (q : ∀ a, O a = none → Q (.ref a) (updO O a (.lst ((sortI ns).map D.int)))) : wSorted [d] O Q :=
  .inr (.inr (.inl ⟨kvs, ns, h, hk, hl, q⟩))
theorem sortedL_i {d : D} {O : OO} {Q : D → OO → Prop} {es : List D} {ns : List Int} (h : asL d O = some es) (hk : asI es = some ns) (q : ∀ a, O a = none → Q (.ref a) (updO O a (.lst ((sortI ns).map D.int)))) : wSorted [d] O Q :=
  .inl ⟨es, ns, h, hk, q⟩
theorem law_all_names (h : S_all_names CS ds O Q) : W_all_names CS (retE Q) (sstart N_all_names ds) O := by
  obtain ⟨a, b, x, y, rfl, ha, hb, hx, hy, q⟩ := h
  have h3 := ((TabOK.nil.merge hb).merge hx).merge hy
  have l1 := (TabOK.nil.merge hb).len
  have l2 := ((TabOK.nil.merge hb).merge hx).len
  have l3 := hb.len
  have l4 := hx.len
  have l5 := hy.len
  have sz := sizeLine_eq
  simp [W_all_names, wSeq, wAsg, wgName, wPar, wPar3, wDrop, wRet, wRetN, wIfS, wNext, wTst, wOp, wUn, wFrz, frzD, frzM, wAnd, wOr, wNot, wIf, tAndW, tOrW, tNotW, wChain, wC, wVar, look, wNil, wCons, wTup, wLst, wNewK, wCB, w1, w2, wCall, wMeth, wMake, wIsi, isaQ, tyD, tyM, isaB, blQ, wLen, lenD, lenM, wLe, wLt, wGt, wGe, wAdd, wSub, wMul, wDiv, wMod, wPow, wNeg, wInt2, wInt1, wAbs, wIx, ixL, ixM, ixK, wIn, wNotIn, inD, inM, inK, keyD, wIsN, wNotN, isNonD, wBm, mApp, appM, mPop, popM, mUpd, updM, wDict2, dctM, wgSub, setM, wFld, fldM, wSFld, sfldM, wGet2, wGet1, wEq, wNe, asL, asLM, asS, sstart, wFor, wgTup, wgCons, wgNil, wTuple, wList, wiL, wiT, wiS, wiK, wiIt, wiR1, wiR2, seqI, seqM, dicI, dicM, wAll, wAny, wLc, wDc, wDisp, wpCons, wpNil, wLock, lockD, lockM, wItems, wDPop, dpopM, isDicM, wSl, slD, slM, wPart, wNoP, wipeS, wNever, retE, -List.lookup_eq_none_iff, ha]
  intro d hd
  have hda : a ≠ d := neO ha hd
  simp [updO_ne hda, ha, forN, wSeq, wAsg, wgName, wPar, wPar3, wDrop, wRet, wRetN, wIfS, wNext, wTst, wOp, wUn, wFrz, frzD, frzM, wAnd, wOr, wNot, wIf, tAndW, tOrW, tNotW, wChain, wC, wVar, look, wNil, wCons, wTup, wLst, wNewK, wCB, w1, w2, wCall, wMeth, wMake, wIsi, isaQ, tyD, tyM, isaB, blQ, wLen, lenD, lenM, wLe, wLt, wGt, wGe, wAdd, wSub, wMul, wDiv, wMod, wPow, wNeg, wInt2, wInt1, wAbs, wIx, ixL, ixM, ixK, wIn, wNotIn, inD, inM, inK, keyD, wIsN, wNotN, isNonD, wBm, mApp, appM, mPop, popM, mUpd, updM, wDict2, dctM, wgSub, setM, wFld, fldM, wSFld, sfldM, wGet2, wGet1, wEq, wNe, asL, asLM, asS, sstart, wFor, wgTup, wgCons, wgNil, wTuple, wList, wiL, wiT, wiS, wiK, wiIt, wiR1, wiR2, seqI, seqM, dicI, dicM, wAll, wAny, wLc, wDc, wDisp, wpCons, wpNil, wLock, lockD, lockM, wItems, wDPop, dpopM, isDicM, wSl, slD, slM, wPart, wNoP, wipeS, wNever, retE, -List.lookup_eq_none_iff, TvD.dic]
  refine ⟨b, rfl, by omega, x, rfl, by omega, y, rfl, by omega, ?_⟩
  refine sortedK_s (by simp [asK, asKM]) h3.keys (Nat.lt_of_le_of_lt (strK_len _) (by have := h3.len; omega)) fun c hc => ?_
  obtain ⟨hcd, hc0⟩ := none_upd hc
  simp
  exact retL ((((Le.refl O).upd hd).upd hc0).rem hc0) q

/-! ### merges -/
def fl (d : D) : Prop := d = .non ∨ (∃ i, d = .int i) ∨ ∃ x, d = .str x
theorem vals_fl {d : D} (h : d ∈ vals) : fl d := by
  simp only [vals, List.mem_cons, List.mem_nil_iff, or_false] at h
  rcases h with rfl | rfl | rfl | rfl | rfl | rfl | rfl | rfl | rfl | rfl | rfl | rfl | rfl
  all_goals first
    | exact .inr (.inl ⟨_, rfl⟩)
    | exact .inr (.inr ⟨_, rfl⟩)
theorem valN.fl {d : D} (h : valN d) : fl d := h.elim .inl vals_fl
theorem fl_cmp {x y : D} (hx : fl x) (hy : fl y) : cmpD x y = true := by
  rcases hx with rfl | ⟨i, rfl⟩ | ⟨i, rfl⟩ <;> rcases hy with rfl | ⟨j, rfl⟩ | ⟨j, rfl⟩ <;> rfl
theorem fl_dp {x : D} (hx : fl x) : dpD x = 0 := by rcases hx with rfl | ⟨i, rfl⟩ | ⟨i, rfl⟩ <;> rfl
theorem fl_frz {x : D} (hx : fl x) {O : OO} {Q : D → OO → Prop} : frzD x O Q = Q x O := by rcases hx with rfl | ⟨i, rfl⟩ | ⟨i, rfl⟩ <;> rfl
theorem fl_eqv {x y : D} (hx : fl x) (hy : fl y) : eqvD x y = true ↔ x = y := by
  rcases hx with rfl | ⟨i, rfl⟩ | ⟨i, rfl⟩ <;> rcases hy with rfl | ⟨j, rfl⟩ | ⟨j, rfl⟩ <;> simp [eqvD]
theorem fl_ne {x y : D} (hx : fl x) : neK x y = true := by rcases hx with rfl | ⟨i, rfl⟩ | ⟨i, rfl⟩ <;> simp [neK]
theorem fl_flat {x : D} (hx : fl x) : flatD x = true := by rcases hx with rfl | ⟨i, rfl⟩ | ⟨i, rfl⟩ <;> rfl
theorem law_merged_value (h : S_merged_value CS ds O Q) : W_merged_value CS (retE Q) (sstart N_merged_value ds) O := by
  obtain ⟨o, x, y, rfl, ho, hx, hy, q⟩ := h
  have fo := ho.fl
  have fx := hx.fl
  have fy := hy.fl
  simp [W_merged_value, wSeq, wAsg, wgName, wPar, wPar3, wDrop, wRet, wRetN, wIfS, wNext, wTst, wOp, wUn, wFrz, frzM, wAnd, wOr, wNot, wIf, tAndW, tOrW, tNotW, wChain, wC, wVar, look, wNil, wCons, wTup, wLst, wNewK, wCB, w1, w2, wCall, wMeth, wMake, wIsi, isaQ, tyD, tyM, isaB, blQ, wLen, lenD, lenM, wLe, wLt, wGt, wGe, wAdd, wSub, wMul, wDiv, wMod, wPow, wNeg, wInt2, wInt1, wAbs, wIx, ixL, ixM, ixK, wIn, wNotIn, inD, inM, inK, keyD, wIsN, wNotN, isNonD, wBm, mApp, appM, mPop, popM, mUpd, updM, wDict2, dctM, wgSub, setM, wFld, fldM, wSFld, sfldM, wGet2, wGet1, wEq, wNe, asL, asLM, asK, asKM, asS, sstart, wFor, wgTup, wgCons, wgNil, wTuple, wList, wiL, wiT, wiS, wiK, wiIt, wiR1, wiR2, seqI, seqM, dicI, dicM, wSorted, wAll, wAny, wLc, wDc, wDisp, wpCons, wpNil, wLock, lockD, lockM, wItems, wDPop, dpopM, isDicM, wSl, slD, slM, wPart, wNoP, wipeS, wNever, retE, -List.lookup_eq_none_iff, fl_frz fo, fl_frz fx, fl_frz fy, fl_cmp fx fy, fl_cmp fy fo, fl_cmp fx fo, fl_dp fx, fl_dp fy]
  unfold mv at q
  by_cases h1 : eqvD x y = true
  · simp [h1] at q ⊢
    exact ret0 q
  · by_cases h2 : eqvD y o = true
    · simp [h1, h2] at q ⊢
      exact ret0 q
    · by_cases h3 : eqvD x o = true
      · simp [h1, h2, h3, frzD] at q ⊢
        exact ret0 q
      · simp [h1, h2, h3, frzD] at q ⊢
        exact ret0 q
end KH

set_option Elab.async false
set_option linter.all false
set_option maxRecDepth 100000
/-! KH: merges -/
namespace KH
open PySem PySem.Spec PyProof.Rows L2 TD
variable {CS : CSt} {ds : List D} {O : OO} {Q : D → OO → Prop}
theorem valG_mem {κ ν : Type} [DecidableEq κ] {t : List (κ × ν)} {k : κ} {v : ν} (h : valG t k = some v) : (k, v) ∈ t := by
  unfold valG at h
  obtain ⟨kv, h1, h2⟩ := Option.map_eq_some_iff.mp h
  have := List.find?_some h1
  rw [← of_decide_eq_true this, ← h2]
  exact List.mem_of_find?_eq_some h1
theorem getT_valN {t : Tab} (h : TabOK t) (n : Str) : valN (getT t n) := by
  unfold getT
  cases e : valG t (.inr n) with
  | none => exact .inl rfl
  | some v => exact .inr (h.mem _ (valG_mem e)).2
theorem mv_valN {o x y : D} (hx : valN x) (hy : valN y) : valN (mv o x y).1 := by
  unfold mv
  split
  · exact hx
  · split
    · exact hy
    · exact hx
theorem valN_vals {d : D} (h : valN d) (hn : isNonD d = false) : d ∈ vals := by
  rcases h with rfl | h
  · cases hn
  · exact h
theorem isNon_iff {d : D} : isNonD d = true ↔ d = .non := by cases d <;> simp [isNonD]
theorem at0 {d : D} {r : List D} : atI (d :: r) 0 = some d := by simp [atI, ixN]
theorem at1 {d e : D} {r : List D} : atI (d :: e :: r) 1 = some e := by
  have : (1 : Int) < (r.length : Int) + 1 + 1 := by omega
  simp [atI, ixN, this]
theorem mstep_ok {b x y : Tab} (hx : TabOK x) (hy : TabOK y) {acc : Tab × List Str} (h : TabOK acc.1) {n : Str} (hn : n ∈ names4) : TabOK (mstep b x y acc n).1 := by
  unfold mstep
  show TabOK (if isNonD (mv (getT b n) (getT x n) (getT y n)).1 = true then acc.1 else putG acc.1 (.inr n) (mv (getT b n) (getT x n) (getT y n)).1)
  split
  · exact h
  · rename_i h2
    exact h.put hn (valN_vals (mv_valN (getT_valN hx n) (getT_valN hy n)) (by simpa using h2))
theorem names_ok {b x y : Tab} (hb : TabOK b) (hx : TabOK x) (hy : TabOK y) : (∀ n ∈ namesOf b x y, n ∈ names4) ∧ (namesOf b x y).length ≤ 4 := by
  have h3 := ((TabOK.nil.merge hb).merge hx).merge hy
  have hp := isort_perm leS (strK (mergeG (mergeG (mergeG [] b) x) y))
  refine ⟨fun n hn => ?_, ?_⟩
  · have := hp.mem_iff.mp hn
    obtain ⟨kv, h1, h2⟩ := List.mem_filterMap.mp this
    obtain ⟨m, hm, e⟩ := (h3.mem kv h1).1
    rw [e] at h2
    cases h2
    exact hm
  · have : (namesOf b x y).length = (strK (mergeG (mergeG (mergeG [] b) x) y)).length := hp.length_eq
    rw [this]
    exact Nat.le_trans (strK_len _) h3.len
theorem law_raw_merged (h : S_raw_merged CS ds O Q) : W_raw_merged CS (retE Q) (sstart N_raw_merged ds) O := by
  obtain ⟨b, x, y, rfl, hb, hx, hy, q⟩ := h
  obtain ⟨hn4, hl4⟩ := names_ok hb hx hy
  have sz := sizeLine_eq
  simp [W_raw_merged, wSeq, wAsg, wgName, wPar, wPar3, wDrop, wRet, wRetN, wIfS, wNext, wTst, wOp, wUn, wFrz, frzD, frzM, wAnd, wOr, wNot, wIf, tAndW, tOrW, tNotW, wChain, wC, wVar, look, wNil, wCons, wTup, wLst, wNewK, wCB, w1, w2, wCall, wMeth, wMake, wIsi, isaQ, tyD, tyM, isaB, blQ, wLen, lenD, lenM, wLe, wLt, wGt, wGe, wAdd, wSub, wMul, wDiv, wMod, wPow, wNeg, wInt2, wInt1, wAbs, ixL, ixM, ixK, wIn, wNotIn, inD, inM, inK, keyD, wIsN, wNotN, isNonD, wBm, mApp, appM, mPop, popM, mUpd, updM, wDict2, dctM, wgSub, setM, wFld, fldM, wSFld, sfldM, wGet1, wEq, wNe, asL, asLM, asS, sstart, wFor, wgTup, wgCons, wgNil, wTuple, wList, wiL, wiT, wiS, wiK, wiIt, wiR1, wiR2, seqI, seqM, dicI, dicM, wSorted, wAll, wAny, wLc, wDc, wDisp, wpCons, wpNil, wLock, lockD, lockM, wItems, wDPop, dpopM, isDicM, wSl, slD, slM, wPart, wNoP, wipeS, wNever, retE, -List.lookup_eq_none_iff]
  intro f hf c hc
  obtain ⟨hcf, hc0⟩ := none_upd hc
  intro a ha
  obtain ⟨hac, ha1⟩ := none_upd ha
  obtain ⟨haf, ha0⟩ := none_upd ha1
  refine ⟨a, b, x, y, rfl, updO_same, hb, hx, hy, ?_⟩
  refine forN_run (fun r s O' => ∃ acc n t, s = [some (.dic b), some (.dic x), some (.dic y), some (.ref f), some (.ref c), n, t] ∧ Le O O' ∧ O' f = some (.dic acc.1) ∧ O' c = some (.lst (acc.2.map D.str)) ∧
    TabOK acc.1 ∧ acc.2.length + (r : List D).length ≤ 4 ∧ ∃ ns : List Str, r = ns.map D.str ∧ (∀ n ∈ ns, n ∈ names4) ∧ ns.foldl (mstep b x y) acc = mrg b x y) ?_ ?_ ?_
  · rintro d r s O' K hK ⟨acc, n, t, rfl, hle, of, oc, hT, hlen, ns, e, h4, hfold⟩
    cases ns with
    | nil => cases e
    | cons m ns =>
      simp only [List.map_cons, List.cons.injEq] at e
      obtain ⟨rfl, rfl⟩ := e
      have hm := h4 m List.mem_cons_self
      refine ⟨trivial, ?_⟩
      simp [wSeq, wAsg, wgName, wPar, wPar3, wDrop, wRet, wRetN, wIfS, wNext, wTst, wOp, wUn, wFrz, frzM, wAnd, wOr, wNot, wIf, tAndW, tOrW, tNotW, wChain, wC, wVar, look, wNil, wCons, wTup, wLst, wNewK, wCB, w1, w2, wCall, wMeth, wMake, wIsi, isaQ, tyD, tyM, isaB, blQ, wLen, lenD, lenM, wLe, wLt, wGt, wGe, wAdd, wSub, wMul, wDiv, wMod, wPow, wNeg, wInt2, wInt1, wAbs, ixL, ixM, ixK, wIn, wNotIn, inD, inM, inK, keyD, wIsN, wNotN, wBm, mApp, appM, mPop, popM, mUpd, updM, wDict2, dctM, wgSub, setM, wFld, fldM, wSFld, sfldM, wGet2, wGet1, wEq, wNe, asL, asLM, asS, sstart, wFor, wgTup, wgCons, wgNil, wTuple, wList, wiL, wiT, wiS, wiK, wiIt, wiR1, wiR2, seqI, seqM, dicI, dicM, wSorted, wAll, wAny, wLc, wDc, wDisp, wpCons, wpNil, wLock, lockD, lockM, wItems, wDPop, dpopM, isDicM, wSl, slD, slM, wPart, wNoP, wipeS, wNever, retE, -List.lookup_eq_none_iff]
      refine ⟨⟨b, rfl⟩, b, rfl, ⟨x, rfl⟩, x, rfl, ⟨y, rfl⟩, y, rfl, ?_⟩
      have v1 := getT_valN hb m
      have v2 := getT_valN hx m
      have v3 := getT_valN hy m
      have vm := mv_valN (o := getT b m) v2 v3
      have hst := mstep_ok (b := b) hx hy hT hm
      have hcf' : f ≠ c := fun z => hcf z.symm
      simp at hlen
      refine ⟨getT b m, getT x m, getT y m, rfl, v1, v2, v3, ?_⟩
      have efold : List.foldl (mstep b x y) (mstep b x y acc m) ns = mrg b x y := hfold
      have lf := hT.len
      have key : ∀ (O1 : OO) (s : SD), s = [some (.dic b), some (.dic x), some (.dic y), some (.ref f), some (.ref c), some (.str m), some (.tup [(mv (getT b m) (getT x m) (getT y m)).1, .bl (mv (getT b m) (getT x m) (getT y m)).2])] → Le O O1 → O1 f = some (.dic (mstep b x y acc m).1) → O1 c = some (.lst ((mstep b x y acc m).2.map D.str)) → K s O1 := by
        intro O1 s es l1 l2 l3
        refine hK s O1 ⟨_, _, _, es, l1, l2, l3, hst, ?_, ns, rfl, fun n hn => h4 n (List.mem_cons_of_mem _ hn), efold⟩
        have : (mstep b x y acc m).2.length ≤ acc.2.length + 1 := by
          unfold mstep
          show (if (mv (getT b m) (getT x m) (getT y m)).2 = true then acc.2 ++ [m] else acc.2).length ≤ _
          split <;> simp
        simp
        omega
      have e1 : (mstep b x y acc m).1 = if isNonD (mv (getT b m) (getT x m) (getT y m)).1 = true then acc.1 else putG acc.1 (.inr m) (mv (getT b m) (getT x m) (getT y m)).1 := rfl
      have e2 : (mstep b x y acc m).2 = if (mv (getT b m) (getT x m) (getT y m)).2 = true then acc.2 ++ [m] else acc.2 := rfl
      generalize mv (getT b m) (getT x m) (getT y m) = v at *
      obtain ⟨v, k⟩ := v
      simp [wIx, ixL, at0, at1, fl_frz vm.fl] at e1 e2 ⊢
      cases hv : isNonD v <;> cases k <;> simp [hv, of, oc, wSeq, wAsg, wgName, wPar, wPar3, wDrop, wRet, wRetN, wIfS, wNext, wTst, wOp, wUn, wFrz, frzM, wAnd, wOr, wNot, wIf, tAndW, tOrW, tNotW, wChain, wC, wVar, look, wNil, wCons, wTup, wLst, wNewK, wCB, w1, w2, wCall, wMeth, wMake, wIsi, isaQ, tyD, tyM, isaB, blQ, wLen, lenD, lenM, wLe, wLt, wGt, wGe, wAdd, wSub, wMul, wDiv, wMod, wPow, wNeg, wInt2, wInt1, wAbs, wIx, ixL, ixM, ixK, wIn, wNotIn, inD, inM, inK, keyD, wIsN, wNotN, wBm, mApp, appM, mPop, popM, mUpd, updM, wDict2, dctM, wgSub, setM, wFld, fldM, wSFld, sfldM, wGet2, wGet1, wEq, wNe, asL, asLM, asS, sstart, wFor, wgTup, wgCons, wgNil, wTuple, wList, wiL, wiT, wiS, wiK, wiIt, wiR1, wiR2, seqI, seqM, dicI, dicM, wSorted, wAll, wAny, wLc, wDc, wDisp, wpCons, wpNil, wLock, lockD, lockM, wItems, wDPop, dpopM, isDicM, wSl, slD, slM, wPart, wNoP, wipeS, wNever, retE, -List.lookup_eq_none_iff, updO_ne hcf', updO_ne hcf, at0, at1] at e1 e2 ⊢
      · exact ⟨by omega, key _ _ rfl (hle.upd hf) (by simp [e1]) (by simp [e2, updO_ne hcf, oc])⟩
      · refine ⟨by omega, TvD.lst (ds := acc.2.map D.str) (by simp [asL, asLM, updO_ne hcf, oc]), ?_⟩
        simp [frzD, updO_ne hcf, oc]
        exact ⟨by omega, key _ _ rfl ((hle.upd hf).upd hc0) (by simp [e1, updO_ne hcf']) (by simp [e2])⟩
      · exact key _ _ rfl hle (by simp [e1, of]) (by simp [e2, oc])
      · refine ⟨TvD.lst (ds := acc.2.map D.str) (by simp [asL, asLM, oc]), ?_⟩
        simp [frzD, oc]
        exact ⟨by omega, key _ _ rfl (hle.upd hc0) (by simp [e1, updO_ne hcf', of]) (by simp [e2])⟩
  · rintro s O' ⟨acc, n, t, rfl, hle, of, oc, hT, hlen, ns, e, h4, hfold⟩
    cases ns with
    | cons m ns => cases e
    | nil =>
      refine ⟨trivial, ?_⟩
      simp at hfold
      subst hfold
      simp [wSeq, wAsg, wgName, wPar, wPar3, wDrop, wRet, wRetN, wIfS, wNext, wTst, wOp, wUn, wFrz, frzD, frzM, wAnd, wOr, wNot, wIf, tAndW, tOrW, tNotW, wChain, wC, wVar, look, wNil, wCons, wTup, wLst, wNewK, wCB, w1, w2, wCall, wMeth, wMake, wIsi, isaQ, tyD, tyM, isaB, blQ, wLen, lenD, lenM, wLe, wLt, wGt, wGe, wAdd, wSub, wMul, wDiv, wMod, wPow, wNeg, wInt2, wInt1, wAbs, wIx, ixL, ixM, ixK, wIn, wNotIn, inD, inM, inK, keyD, wIsN, wNotN, isNonD, wBm, mApp, appM, mPop, popM, mUpd, updM, wDict2, dctM, wgSub, setM, wFld, fldM, wSFld, sfldM, wGet2, wGet1, wEq, wNe, asK, asKM, sstart, wFor, wgTup, wgCons, wgNil, wTuple, wList, wiL, wiT, wiS, wiK, wiIt, wiR1, wiR2, seqI, seqM, dicI, dicM, wSorted, wAll, wAny, wLc, wDc, wDisp, wpCons, wpNil, wLock, lockD, lockM, wItems, wDPop, dpopM, isDicM, wSl, slD, slM, wPart, wNoP, wipeS, wNever, retE, -List.lookup_eq_none_iff, of]
      refine ⟨_, show asL (.ref c) (remO O' f) = some _ by simp [asL, asLM, remO_ne hcf, oc]; rfl, ?_⟩
      exact retL (hle.rem hf) q
  · exact ⟨([], []), _, _, rfl, (((Le.refl O).upd hf).upd hc0).upd ha0, by simp [updO_ne haf.symm, updO_ne hcf.symm], by simp [updO_ne hac.symm], TabOK.nil, by simpa using hl4, _, rfl, hn4, rfl⟩
theorem law_merged (h : S_merged CS ds O Q) : W_merged CS (retE Q) (sstart N_merged ds) O := by
  obtain ⟨b, x, y, rfl, hb, hx, hy, q⟩ := h
  simp [W_merged, wSeq, wAsg, wgName, wPar, wPar3, wDrop, wRet, wRetN, wIfS, wNext, wTst, wOp, wUn, wFrz, frzD, frzM, wAnd, wOr, wNot, wIf, tAndW, tOrW, tNotW, wChain, wC, wVar, look, wNil, wCons, wTup, wLst, wNewK, wCB, w1, w2, wCall, wMeth, wMake, wIsi, isaQ, tyD, tyM, isaB, blQ, wLen, lenD, lenM, wLe, wLt, wGt, wGe, wAdd, wSub, wMul, wDiv, wMod, wPow, wNeg, wInt2, wInt1, wAbs, wIx, ixL, ixM, ixK, wIn, wNotIn, inD, inM, inK, keyD, wIsN, wNotN, isNonD, wBm, mApp, appM, mPop, popM, mUpd, updM, wDict2, dctM, wgSub, setM, wFld, fldM, wSFld, sfldM, wGet2, wGet1, wEq, wNe, asL, asLM, asS, sstart, wFor, wgTup, wgCons, wgNil, wTuple, wList, wiL, wiT, wiS, wiK, wiIt, wiR1, wiR2, seqI, seqM, dicI, dicM, wSorted, wAll, wAny, wLc, wDc, wDisp, wpCons, wpNil, wLock, lockD, lockM, wItems, wDPop, dpopM, isDicM, wSl, slD, slM, wPart, wNoP, wipeS, wNever, retE, -List.lookup_eq_none_iff]
  refine ⟨_, b, rfl, rfl, hb, _, x, rfl, rfl, hx, _, y, rfl, rfl, hy, b, x, y, rfl, hb, hx, hy, ?_⟩
  exact ret0 q
end KH

set_option Elab.async false
set_option linter.all false
set_option maxRecDepth 100000
/-! KH: the law's own merge -/
namespace KH
open PySem PySem.Spec PyProof.Rows L2 TD
variable {CS : CSt} {ds : List D} {O : OO} {Q : D → OO → Prop}
theorem asP_items : ∀ {t u : Tab} {ds : List D}, asP ds = some u → asP (itemsD t ++ ds) = some (t ++ u)
  | [], u, ds, h => h
  | (k, v) :: r, u, ds, h => by
    have ih := asP_items (t := r) h
    show asP (.tup [keyE k, v] :: (itemsD r ++ ds)) = _
    simp [asP, keyD_keyE, ih]
theorem merge3 (b x y : Tab) : mergeG [] (b ++ (x ++ y)) = mergeG (mergeG (mergeG [] b) x) y := by
  simp [mergeG, List.foldl_append]
theorem mv_alt {o x y : D} (ho : fl o) (hx : fl x) (hy : fl y) : (mv o x y).1 = (if eqvD x o = true then y else x) ∧ (mv o x y).2 = (!eqvD x y && !eqvD x o && !eqvD y o) := by
  unfold mv
  have e1 := fl_eqv hx hy
  have e2 := fl_eqv hy ho
  have e3 := fl_eqv hx ho
  by_cases h1 : eqvD x y = true
  · have := e1.mp h1
    subst this
    simp [h1]
  · by_cases h2 : eqvD y o = true
    · simp [h1, h2]
      intro h3
      rw [e3.mp h3, e2.mp h2]
    · by_cases h3 : eqvD x o = true
      · simp [h1, h2, h3]
      · simp [h1, h2, h3]
theorem law_law_merged (h : S_law_merged CS ds O Q) : W_law_merged CS (retE Q) (sstart N_law_merged ds) O := by
  obtain ⟨b, x, y, rfl, hb, hx, hy, q⟩ := h
  obtain ⟨hn4, hl4⟩ := names_ok hb hx hy
  have sz := sizeLine_eq
  have lb := hb.len
  have lx := hx.len
  have ly := hy.len
  have h3 := ((TabOK.nil.merge hb).merge hx).merge hy
  simp [W_law_merged, wSeq, wAsg, wgName, wPar, wPar3, wDrop, wRet, wRetN, wIfS, wNext, wTst, wOp, wUn, wFrz, frzM, wAnd, wOr, wNot, wIf, tAndW, tOrW, tNotW, wChain, wC, wVar, look, wNil, wCons, wTup, wLst, wNewK, wCB, w1, w2, wCall, wMeth, wMake, wIsi, isaQ, tyD, tyM, isaB, blQ, wLen, lenD, lenM, wLe, wLt, wGt, wGe, wSub, wMul, wDiv, wMod, wPow, wNeg, wInt2, wInt1, wAbs, ixL, ixM, ixK, wIn, wNotIn, inD, inM, inK, keyD, wIsN, wNotN, wBm, mApp, appM, mPop, popM, mUpd, updM, wgSub, setM, wFld, fldM, wSFld, sfldM, wGet1, asL, asLM, asS, sstart, wFor, wgTup, wgCons, wgNil, wTuple, wList, wiL, wiT, wiS, wiK, wiIt, wiR1, wiR2, seqI, seqM, dicI, dicM, wAll, wAny, wLc, wDc, wDisp, wpCons, wpNil, wLock, lockD, lockM, wItems, wDPop, dpopM, isDicM, wSl, slD, slM, wPart, wNoP, wipeS, wNever, retE, -List.lookup_eq_none_iff]
  intro f hf c hc
  obtain ⟨hcf, hc0⟩ := none_upd hc
  refine ⟨b, rfl, fun a1 ha1 => ⟨x, rfl, fun a2 ha2 => ?_⟩⟩
  obtain ⟨h1c, h1'⟩ := none_upd ha1
  obtain ⟨h1f, h10⟩ := none_upd h1'
  obtain ⟨h21, h2'⟩ := none_upd ha2
  obtain ⟨h2c, h2''⟩ := none_upd h2'
  obtain ⟨h2f, h20⟩ := none_upd h2''
  refine ⟨itemsD b, itemsD x, by simp [asL, asLM, updO_ne h21.symm], by simp [asL, asLM], by simp [itemsD]; omega, fun a3 ha3 => ⟨y, rfl, fun a4 ha4 => ?_⟩⟩
  obtain ⟨h32, h3'⟩ := none_upd ha3
  obtain ⟨h43, h4'⟩ := none_upd ha4
  refine ⟨itemsD b ++ itemsD x, itemsD y, by simp [asL, asLM, updO_ne h43.symm], by simp [asL, asLM], by simp [itemsD]; omega, fun a5 ha5 => ?_⟩
  obtain ⟨h31, h3''⟩ := none_upd h3'
  obtain ⟨h3c, h3'''⟩ := none_upd h3''
  obtain ⟨h3f, h30⟩ := none_upd h3'''
  obtain ⟨h42, h4''⟩ := none_upd h4'
  obtain ⟨h41, h4'''⟩ := none_upd h4''
  obtain ⟨h4c, h4'4⟩ := none_upd h4'''
  obtain ⟨h4f, h40⟩ := none_upd h4'4
  obtain ⟨h54, h5⟩ := none_upd ha5
  obtain ⟨h53, h5⟩ := none_upd h5
  obtain ⟨h52, h5⟩ := none_upd h5
  obtain ⟨h51, h5⟩ := none_upd h5
  obtain ⟨h5c, h5⟩ := none_upd h5
  obtain ⟨h5f, h50⟩ := none_upd h5
  have l5 : Le O (updO (updO (updO (updO (updO (updO (updO O f (.dic [])) c (.lst [])) a1 (.lst (itemsD b))) a2 (.lst (itemsD x))) a3 (.lst (itemsD b ++ itemsD x))) a4 (.lst (itemsD y))) a5 (.lst (itemsD b ++ itemsD x ++ itemsD y))) :=
    (((((((Le.refl O).upd hf).upd hc0).upd h10).upd h20).upd h30).upd h40).upd h50
  have f5 : (updO (updO (updO (updO (updO (updO (updO O f (.dic [])) c (.lst [])) a1 (.lst (itemsD b))) a2 (.lst (itemsD x))) a3 (.lst (itemsD b ++ itemsD x))) a4 (.lst (itemsD y))) a5 (.lst (itemsD b ++ itemsD x ++ itemsD y))) f = some (.dic []) := by
    rw [updO_ne h5f.symm, updO_ne h4f.symm, updO_ne h3f.symm, updO_ne h2f.symm, updO_ne h1f.symm, updO_ne hcf.symm, updO_same]
  have c5 : (updO (updO (updO (updO (updO (updO (updO O f (.dic [])) c (.lst [])) a1 (.lst (itemsD b))) a2 (.lst (itemsD x))) a3 (.lst (itemsD b ++ itemsD x))) a4 (.lst (itemsD y))) a5 (.lst (itemsD b ++ itemsD x ++ itemsD y))) c = some (.lst []) := by
    rw [updO_ne h5c.symm, updO_ne h4c.symm, updO_ne h3c.symm, updO_ne h2c.symm, updO_ne h1c.symm, updO_same]
  have a5e : (updO (updO (updO (updO (updO (updO (updO O f (.dic [])) c (.lst [])) a1 (.lst (itemsD b))) a2 (.lst (itemsD x))) a3 (.lst (itemsD b ++ itemsD x))) a4 (.lst (itemsD y))) a5 (.lst (itemsD b ++ itemsD x ++ itemsD y))) a5 = some (.lst (itemsD b ++ itemsD x ++ itemsD y)) := updO_same
  generalize updO (updO (updO (updO (updO (updO (updO O f (.dic [])) c (.lst [])) a1 (.lst (itemsD b))) a2 (.lst (itemsD x))) a3 (.lst (itemsD b ++ itemsD x))) a4 (.lst (itemsD y))) a5 (.lst (itemsD b ++ itemsD x ++ itemsD y)) = O5 at l5 f5 c5 a5e ⊢
  have eP : asP (itemsD b ++ itemsD x ++ itemsD y) = some (b ++ (x ++ y)) := by
    rw [List.append_assoc]
    have := asP_items (t := b) (asP_items (t := x) (asP_items (t := y) (u := []) (ds := []) rfl))
    simpa using this
  simp [wDict2, w1, dctM, a5e]
  rw [← List.append_assoc, eP]
  refine ⟨_, rfl, fun d6 hd6 => ?_⟩
  rw [merge3]
  have h6f : f ≠ d6 := neO f5 hd6
  have h6c : c ≠ d6 := neO c5 hd6
  refine sortedK_s (by simp [asK, asKM]) h3.keys (Nat.lt_of_le_of_lt (strK_len _) (by have := h3.len; omega)) fun d7 hd7 => ?_
  obtain ⟨h76, h70⟩ := none_upd hd7
  have h7f : f ≠ d7 := neO f5 h70
  have h7c : c ≠ d7 := neO c5 h70
  have none6 : O d6 = none := by
    cases e : O d6 with
    | none => rfl
    | some m => rw [l5 _ _ e] at hd6; cases hd6
  have none7 : O d7 = none := by
    cases e : O d7 with
    | none => rfl
    | some m => rw [l5 _ _ e] at h70; cases h70
  have hcf' : f ≠ c := fun z => hcf z.symm
  simp
  refine forN_run (fun r s O' => ∃ acc n t1 t2 t3 t4, s = [some (.dic b), some (.dic x), some (.dic y), some (.ref f), some (.ref c), n, t1, t2, t3, t4] ∧ Le O O' ∧ O' f = some (.dic acc.1) ∧ O' c = some (.lst (acc.2.map D.str)) ∧ O' d7 = some (.lst ((namesOf b x y).map D.str)) ∧
    TabOK acc.1 ∧ acc.2.length + (r : List D).length ≤ 4 ∧ ∃ ns : List Str, r = ns.map D.str ∧ (∀ n ∈ ns, n ∈ names4) ∧ ns.foldl (mstep b x y) acc = mrg b x y) ?_ ?_ ?_
  · rintro d r s O' K hK ⟨acc, n, t1, t2, t3, t4, rfl, hle, of, oc, o7, hT, hlen, ns, e, h4, hfold⟩
    cases ns with
    | nil => cases e
    | cons m ns =>
      simp only [List.map_cons, List.cons.injEq] at e
      obtain ⟨rfl, rfl⟩ := e
      have hm := h4 m List.mem_cons_self
      refine ⟨o7, ?_⟩
      have v1 := getT_valN hb m
      have v2 := getT_valN hx m
      have v3 := getT_valN hy m
      have vm := mv_valN (o := getT b m) v2 v3
      have hst := mstep_ok (b := b) hx hy hT hm
      simp at hlen
      have efold : List.foldl (mstep b x y) (mstep b x y acc m) ns = mrg b x y := hfold
      have lf := hT.len
      have key : ∀ (O1 : OO) (s : SD) t1 t2 t3 t4, s = [some (.dic b), some (.dic x), some (.dic y), some (.ref f), some (.ref c), some (.str m), t1, t2, t3, t4] → Le O O1 → O1 f = some (.dic (mstep b x y acc m).1) → O1 c = some (.lst ((mstep b x y acc m).2.map D.str)) → O1 d7 = some (.lst ((namesOf b x y).map D.str)) → K s O1 := by
        intro O1 s t1 t2 t3 t4 es l1 l2 l3 l7
        refine hK s O1 ⟨_, _, _, _, _, _, es, l1, l2, l3, l7, hst, ?_, ns, rfl, fun n hn => h4 n (List.mem_cons_of_mem _ hn), efold⟩
        have : (mstep b x y acc m).2.length ≤ acc.2.length + 1 := by
          unfold mstep
          show (if (mv (getT b m) (getT x m) (getT y m)).2 = true then acc.2 ++ [m] else acc.2).length ≤ _
          split <;> simp
        simp
        omega
      have e1 : (mstep b x y acc m).1 = if isNonD (mv (getT b m) (getT x m) (getT y m)).1 = true then acc.1 else putG acc.1 (.inr m) (mv (getT b m) (getT x m) (getT y m)).1 := rfl
      have e2 : (mstep b x y acc m).2 = if (mv (getT b m) (getT x m) (getT y m)).2 = true then acc.2 ++ [m] else acc.2 := rfl
      obtain ⟨a1', a2'⟩ := mv_alt v1.fl v2.fl v3.fl
      rw [a1'] at e1
      rw [a2'] at e2
      simp [wSeq, wAsg, wgName, wPar, wPar3, wDrop, wRet, wRetN, wIfS, wNext, wTst, wOp, wUn, wFrz, frzM, wAnd, wOr, wNot, wIf, tAndW, tOrW, tNotW, wChain, wC, wVar, look, wNil, wCons, wTup, wLst, wNewK, wCB, w1, w2, wCall, wMeth, wMake, wIsi, isaQ, tyD, tyM, isaB, blQ, wLen, lenD, lenM, wLe, wLt, wGt, wGe, wAdd, wSub, wMul, wDiv, wMod, wPow, wNeg, wInt2, wInt1, wAbs, wIx, ixL, ixM, ixK, wIn, wNotIn, inD, inM, inK, keyD, wIsN, wNotN, wBm, mApp, appM, mPop, popM, mUpd, updM, wDict2, dctM, wgSub, setM, wFld, fldM, wSFld, sfldM, wGet2, wGet1, wEq, wNe, asL, asLM, asS, sstart, wFor, wgTup, wgCons, wgNil, wTuple, wList, wiL, wiT, wiS, wiK, wiIt, wiR1, wiR2, seqI, seqM, dicI, dicM, wSorted, wAll, wAny, wLc, wDc, wDisp, wpCons, wpNil, wLock, lockD, lockM, wItems, wDPop, dpopM, isDicM, wSl, slD, slM, wPart, wNoP, wipeS, wNever, retE, -List.lookup_eq_none_iff]
      refine ⟨⟨b, rfl⟩, b, rfl, ⟨x, rfl⟩, x, rfl, ⟨y, rfl⟩, y, rfl, ?_⟩
      simp only [show ∀ t : Tab, (valG t (Sum.inr m)).getD D.non = getT t m from fun _ => rfl]
      have fu := v1.fl
      have fv := v2.fl
      have fw := v3.fl
      generalize getT b m = u at *
      generalize getT x m = v at *
      generalize getT y m = w at *
      simp [fl_frz fu, fl_frz fv, fl_frz fw, fl_cmp fv fu, fl_cmp fv fw, fl_cmp fw fu, fl_dp fv, fl_dp fw, fl_ne fv, fl_ne fw]
      have g7 : ∀ (O1 : OO) m, (updO O1 f m) d7 = O1 d7 := fun O1 m => updO_ne h7f.symm
      have g8 : ∀ (O1 : OO) m, (updO O1 c m) d7 = O1 d7 := fun O1 m => updO_ne h7c.symm
      have gcf : ∀ (O1 : OO) m, (updO O1 f m) c = O1 c := fun O1 m => updO_ne hcf
      have gfc : ∀ (O1 : OO) m, (updO O1 c m) f = O1 f := fun O1 m => updO_ne hcf'
      have tv : TvD O' "list" (.ref c) := TvD.lst (ds := acc.2.map D.str) (by simp [asL, asLM, oc])
      clear hK efold hfold hst q
      cases k1 : eqvD v u <;> cases k2 : eqvD v w <;> cases k3 : eqvD w u <;> cases k4 : isNonD v <;> cases k5 : isNonD w <;> simp [k1, k2, k3, k4, k5, of, oc, gcf, gfc, tv, frzD] at e1 e2 ⊢
      all_goals first
        | exact key _ _ _ _ _ _ rfl hle (by simp [e1, of]) (by simp [e2, oc]) o7
        | exact ⟨by omega, key _ _ _ _ _ _ rfl (hle.upd hf) (by simp [e1]) (by simp [e2, gcf, oc]) (by rw [g7, o7])⟩
        | exact ⟨by omega, key _ _ _ _ _ _ rfl (hle.upd hc0) (by simp [e1, gfc, of]) (by simp [e2]) (by rw [g8, o7])⟩
        | exact ⟨by omega, by omega, key _ _ _ _ _ _ rfl ((hle.upd hc0).upd hf) (by simp [e1]) (by simp [e2, gcf]) (by rw [g7, g8, o7])⟩
  · rintro s O' ⟨acc, n, t1, t2, t3, t4, rfl, hle, of, oc, o7, hT, hlen, ns, e, h4, hfold⟩
    cases ns with
    | cons m ns => cases e
    | nil =>
      refine ⟨o7, ?_⟩
      simp at hfold
      subst hfold
      simp [wSeq, wAsg, wgName, wPar, wPar3, wDrop, wRet, wRetN, wIfS, wNext, wTst, wOp, wUn, wFrz, frzD, frzM, wAnd, wOr, wNot, wIf, tAndW, tOrW, tNotW, wChain, wC, wVar, look, wNil, wCons, wTup, wLst, wNewK, wCB, w1, w2, wCall, wMeth, wMake, wIsi, isaQ, tyD, tyM, isaB, blQ, wLen, lenD, lenM, wLe, wLt, wGt, wGe, wAdd, wSub, wMul, wDiv, wMod, wPow, wNeg, wInt2, wInt1, wAbs, wIx, ixL, ixM, ixK, wIn, wNotIn, inD, inM, inK, keyD, wIsN, wNotN, isNonD, wBm, mApp, appM, mPop, popM, mUpd, updM, wDict2, dctM, wgSub, setM, wFld, fldM, wSFld, sfldM, wGet2, wGet1, wEq, wNe, asK, asKM, sstart, wFor, wgTup, wgCons, wgNil, wTuple, wList, wiL, wiT, wiS, wiK, wiIt, wiR1, wiR2, seqI, seqM, dicI, dicM, wSorted, wAll, wAny, wLc, wDc, wDisp, wpCons, wpNil, wLock, lockD, lockM, wItems, wDPop, dpopM, isDicM, wSl, slD, slM, wPart, wNoP, wipeS, wNever, retE, -List.lookup_eq_none_iff, of]
      refine ⟨_, show asL (.ref c) (remO O' f) = some _ by simp [asL, asLM, remO_ne hcf, oc]; rfl, ?_⟩
      exact retL (hle.rem hf) q
  · exact ⟨([], []), _, _, _, _, _, rfl, (l5.upd none6).upd none7, by simp [updO_ne h7f, updO_ne h6f, f5], by simp [updO_ne h7c, updO_ne h6c, c5], updO_same, TabOK.nil, by simpa [namesOf] using hl4, _, rfl, hn4, rfl⟩
end KH

set_option Elab.async false
set_option linter.all false
set_option maxRecDepth 100000
/-! KH: the class History -/
namespace KH
open PySem PySem.Spec PyProof.Rows L2 TD
variable {CS : CSt} {ds : List D} {O : OO} {Q : D → OO → Prop}
theorem IsH.ht {h t p : Addr} {S : Hist} (H : IsH CS O h t p S) : h ≠ t := fun e => by subst e; have := H.oh.symm.trans H.ot; cases this
theorem IsH.hp {h t p : Addr} {S : Hist} (H : IsH CS O h t p S) : h ≠ p := fun e => by subst e; have := H.oh.symm.trans H.op; cases this
theorem IsH.le {O' : OO} {h t p : Addr} {S : Hist} (H : IsH CS O h t p S) (l : Le O O') : IsH CS O' h t p S := ⟨l _ _ H.oh, l _ _ H.ot, l _ _ H.op, H.tp⟩
theorem IsH.put {h t p : Addr} {S S' : Hist} (H : IsH CS O h t p S) : IsH CS (putH O t p S') h t p S' where
  oh := by unfold putH; rw [updO_ne H.hp, updO_ne H.ht, H.oh]
  ot := by unfold putH; rw [updO_ne H.tp, updO_same]
  op := updO_same
  tp := H.tp
theorem lkT {x y : D} : List.lookup ("kept_tables" : Str) [("kept_tables", x), ("kept_parents", y)] = some x := by rfl
theorem lkP {x y : D} : List.lookup ("kept_parents" : Str) [("kept_tables", x), ("kept_parents", y)] = some y := by rfl
theorem lk1 {x y : D} : List.lookup ("check_version" : Str) [("kept_tables", x), ("kept_parents", y)] = none := by rfl
theorem lk2 {x y : D} : List.lookup ("enter" : Str) [("kept_tables", x), ("kept_parents", y)] = none := by rfl
theorem lk3 {x y : D} : List.lookup ("commit" : Str) [("kept_tables", x), ("kept_parents", y)] = none := by rfl
theorem lk4 {x y : D} : List.lookup ("table_of" : Str) [("kept_tables", x), ("kept_parents", y)] = none := by rfl
theorem lk5 {x y : D} : List.lookup ("parents" : Str) [("kept_tables", x), ("kept_parents", y)] = none := by rfl
theorem lk6 {x y : D} : List.lookup ("line_of" : Str) [("kept_tables", x), ("kept_parents", y)] = none := by rfl
theorem lk7 {x y : D} : List.lookup ("elders" : Str) [("kept_tables", x), ("kept_parents", y)] = none := by rfl
theorem lk8 {x y : D} : List.lookup ("raw_bases" : Str) [("kept_tables", x), ("kept_parents", y)] = none := by rfl
theorem lk9 {x y : D} : List.lookup ("bases" : Str) [("kept_tables", x), ("kept_parents", y)] = none := by rfl
theorem lk10 {x y : D} : List.lookup ("merge" : Str) [("kept_tables", x), ("kept_parents", y)] = none := by rfl
theorem lk11 {x y : D} : List.lookup ("since" : Str) [("kept_tables", x), ("kept_parents", y)] = none := by rfl
theorem tv_ref {O : OO} {a : Addr} {ds : List D} (h : O a = some (.lst ds)) : TvD O "list" (.ref a) := .lst (ds := ds) (by show asLM (O a) = _; rw [h]; rfl)
theorem asL_ref {O : OO} {a : Addr} {ds : List D} (h : O a = some (.lst ds)) : asL (.ref a) O = some ds := by show asLM (O a) = _; rw [h]; rfl
theorem asS_ref {O : OO} {a : Addr} {ds : List D} (h : O a = some (.lst ds)) : asS (.ref a) O = some ds := by show asLM (O a) = _; rw [h]; rfl
theorem asK_ref {O : OO} {a : Addr} {ds : Tab} (h : O a = some (.dic ds)) : asK (.ref a) O = some ds := by show asKM (O a) = _; rw [h]; rfl
theorem tabsD_len (S : Hist) : (tabsD S).length = S.tabs.length := by simp [tabsD]
theorem parsD_len (S : Hist) : (parsD S).length = S.n := by simp [parsD, Hist.n]
theorem at_nat {ds : List D} {v : Int} {d : D} (h0 : 0 ≤ v) (h : ds[v.toNat]? = some d) : atI ds v = some d := by
  have := atI_nat h
  rwa [show ((v.toNat : Nat) : Int) = v by omega] at this
theorem Wf.tabAt {S : Hist} (w : Wf S) {v : Int} (h0 : 0 ≤ v) (h1 : v < S.n) : ∃ tb, S.tabs[v.toNat]? = some tb ∧ TabOK tb := by
  have hl := w.len
  have : v.toNat < S.tabs.length := by omega
  exact ⟨_, List.getElem?_eq_getElem this, w.tab _ (List.getElem_mem this)⟩
theorem Wf.parAt {S : Hist} (w : Wf S) {v : Int} (h0 : 0 ≤ v) (h1 : v < S.n) : ∃ ps, S.pars[v.toNat]? = some ps := by
  have hl : S.n = S.pars.length := rfl
  have : v.toNat < S.pars.length := by omega
  exact ⟨_, List.getElem?_eq_getElem this⟩
theorem law_History_check_version (h : S_History_check_version CS ds O Q) : W_History_check_version CS (retE Q) (sstart N_History_check_version ds) O := by
  obtain ⟨h, t, p, S, v, rfl, H, w, h0, h1, q⟩ := h
  have hl := w.len
  have h2 : v ≤ (S.tabs.length : Int) - 1 := by omega
  simp [W_History_check_version, wSeq, wAsg, wgName, wPar, wPar3, wDrop, wRet, wRetN, wIfS, wNext, wTst, wOp, wUn, wFrz, frzD, frzM, wAnd, wOr, wNot, wIf, tAndW, tOrW, tNotW, wChain, wC, wVar, look, wNil, wCons, wTup, wLst, wNewK, wCB, w1, w2, wCall, wMeth, wMake, wIsi, isaQ, tyD, tyM, isaB, blQ, wLen, lenD, lenM, wLe, wLt, wGt, wGe, wAdd, wSub, wMul, wDiv, wMod, wPow, wNeg, wInt2, wInt1, wAbs, wIx, ixL, ixM, ixK, wIn, wNotIn, inD, inM, inK, keyD, wIsN, wNotN, isNonD, wBm, mApp, appM, mPop, popM, mUpd, updM, wDict2, dctM, wgSub, setM, wFld, fldM, wSFld, sfldM, wGet2, wGet1, wEq, wNe, asL, asLM, asK, asKM, asS, sstart, wFor, wgTup, wgCons, wgNil, wTuple, wList, wiL, wiT, wiS, wiK, wiIt, wiR1, wiR2, seqI, seqM, dicI, dicM, wSorted, wAll, wAny, wLc, wDc, wDisp, wpCons, wpNil, wLock, lockD, lockM, wItems, wDPop, dpopM, isDicM, wSl, slD, slM, wPart, wNoP, wipeS, wNever, retE, -List.lookup_eq_none_iff, H.oh, H.ot, tabsD_len, S_is_within, lkT, lkP, lk1, lk2, lk3, lk4, lk5, lk6, lk7, lk8, lk9, lk10, lk11, -List.lookup_eq_none_iff]
  exact ⟨_, _, _, ⟨rfl, rfl, rfl⟩, ⟨h0, h2⟩, ret0 q⟩
theorem law_History_enter (h : S_History_enter CS ds O Q) : W_History_enter CS (retE Q) (sstart N_History_enter ds) O := by
  obtain ⟨h, t, p, S, d, tb, ps, rfl, H, w, hd, q⟩ := h
  have hl := w.len
  have hf := w.few
  have sz := sizeLine_eq
  simp [W_History_enter, wSeq, wAsg, wgName, wPar, wPar3, wDrop, wRet, wRetN, wIfS, wNext, wTst, wOp, wUn, wFrz, frzD, frzM, wAnd, wOr, wNot, wIf, tAndW, tOrW, tNotW, wChain, wC, wVar, look, wNil, wCons, wTup, wLst, wNewK, wCB, w1, w2, wCall, wMeth, wMake, wIsi, isaQ, tyD, tyM, isaB, blQ, wLen, lenD, lenM, wLe, wLt, wGt, wGe, wAdd, wSub, wMul, wDiv, wMod, wPow, wNeg, wInt2, wInt1, wAbs, wIx, ixL, ixM, ixK, wIn, wNotIn, inD, inM, inK, keyD, wIsN, wNotN, isNonD, wBm, mApp, appM, mPop, popM, mUpd, updM, wgSub, setM, wFld, fldM, wSFld, sfldM, wGet2, wGet1, wEq, wNe, asL, asLM, asS, sstart, wFor, wgTup, wgCons, wgNil, wTuple, wList, wiL, wiT, wiS, wiK, wiIt, wiR1, wiR2, seqI, seqM, dicI, dicM, wSorted, wAll, wAny, wLc, wDc, wDisp, wpCons, wpNil, wLock, lockD, lockM, wItems, wDPop, dpopM, isDicM, wSl, slD, slM, wPart, wNoP, wipeS, wNever, retE, -List.lookup_eq_none_iff, H.oh, H.ot, H.op, lkT, lkP, lk1, lk2, lk3, lk4, lk5, lk6, lk7, lk8, lk9, lk10, lk11, -List.lookup_eq_none_iff, tupI]
  refine ⟨tv_ref H.ot, dict2_of hd fun a ha => ?_⟩
  have hat : t ≠ a := neO H.ot ha
  have hap : p ≠ a := neO H.op ha
  have hah : h ≠ a := neO H.oh ha
  have eh : ∀ m n, updO (updO O t m) p n h = O h := fun m n => by rw [updO_ne H.hp, updO_ne H.ht]
  have rm : remO (updO O a (.dic tb)) a = O := remO_updO ha
  simp [rm, H.ot, updO_ne H.ht, H.oh, updO_ne H.tp.symm, H.op, lkT, lkP, lk1, lk2, lk3, lk4, lk5, lk6, lk7, lk8, lk9, lk10, lk11, -List.lookup_eq_none_iff, updO_ne H.hp, updO_ne H.tp, tabsD_len, parsD_len]
  refine ⟨by omega, tv_ref (by rw [updO_ne H.tp.symm, H.op]), by omega, retL (O := putH O t p (S.add tb ps)) ?_ ?_⟩
  · have : putH O t p (S.add tb ps) = updO (updO O t (.lst (tabsD S ++ [.dic tb]))) p (.lst (parsD S ++ [.tup (ps.map D.int)])) := by simp [putH, Hist.add, tabsD, parsD, tupI]
    rw [this]
    exact Le.refl _
  · have : (S.tabs.length : Int) = S.n := by omega
    rw [this]
    exact q
theorem law_History_parents (h : S_History_parents CS ds O Q) : W_History_parents CS (retE Q) (sstart N_History_parents ds) O := by
  obtain ⟨h, t, p, S, v, ps, rfl, H, w, h0, h1, e, q⟩ := h
  have ea : atI (parsD S) v = some (tupI ps) := at_nat h0 (by simp [parsD, e])
  simp [W_History_parents, wSeq, wAsg, wgName, wPar, wPar3, wDrop, wRet, wRetN, wIfS, wNext, wTst, wOp, wUn, wFrz, frzD, frzM, wAnd, wOr, wNot, wIf, tAndW, tOrW, tNotW, wChain, wC, wVar, look, wNil, wCons, wTup, wLst, wNewK, wCB, w1, w2, wCall, wMeth, wMake, wIsi, isaQ, tyD, tyM, isaB, blQ, wLen, lenD, lenM, wLe, wLt, wGt, wGe, wAdd, wSub, wMul, wDiv, wMod, wPow, wNeg, wInt2, wInt1, wAbs, wIx, ixL, ixM, ixK, wIn, wNotIn, inD, inM, inK, keyD, wIsN, wNotN, isNonD, wBm, mApp, appM, mPop, popM, mUpd, updM, wDict2, dctM, wgSub, setM, wFld, fldM, wSFld, sfldM, wGet2, wGet1, wEq, wNe, asL, asLM, asK, asKM, asS, sstart, wFor, wgTup, wgCons, wgNil, wTuple, wList, wiL, wiT, wiS, wiK, wiIt, wiR1, wiR2, seqI, seqM, dicI, dicM, wSorted, wAll, wAny, wLc, wDc, wDisp, wpCons, wpNil, wLock, lockD, lockM, wItems, wDPop, dpopM, isDicM, wSl, slD, slM, wPart, wNoP, wipeS, wNever, retE, -List.lookup_eq_none_iff, S_History_check_version, H.oh, H.ot, H.op, lkT, lkP, lk1, lk2, lk3, lk4, lk5, lk6, lk7, lk8, lk9, lk10, lk11, -List.lookup_eq_none_iff]
  refine ⟨_, t, p, S, v, ⟨rfl, rfl⟩, H, w, h0, h1, ?_⟩
  simp [H.oh, H.op, ea, lkT, lkP, lk1, lk2, lk3, lk4, lk5, lk6, lk7, lk8, lk9, lk10, lk11, -List.lookup_eq_none_iff]
  simp [tupI]
  exact ret0 q
theorem law_History_table_of (h : S_History_table_of CS ds O Q) : W_History_table_of CS (retE Q) (sstart N_History_table_of ds) O := by
  obtain ⟨h, t, p, S, v, tb, rfl, H, w, h0, h1, e, q⟩ := h
  have ea : atI (tabsD S) v = some (.dic tb) := at_nat h0 (by simp [tabsD, e])
  simp [W_History_table_of, wSeq, wAsg, wgName, wPar, wPar3, wDrop, wRet, wRetN, wIfS, wNext, wTst, wOp, wUn, wFrz, frzD, frzM, wAnd, wOr, wNot, wIf, tAndW, tOrW, tNotW, wChain, wC, wVar, look, wNil, wCons, wTup, wLst, wNewK, wCB, w1, w2, wCall, wMeth, wMake, wIsi, isaQ, tyD, tyM, isaB, blQ, wLen, lenD, lenM, wLe, wLt, wGt, wGe, wAdd, wSub, wMul, wDiv, wMod, wPow, wNeg, wInt2, wInt1, wAbs, wIx, ixL, ixM, ixK, wIn, wNotIn, inD, inM, inK, keyD, wIsN, wNotN, isNonD, wBm, mApp, appM, mPop, popM, mUpd, updM, wDict2, dctM, wgSub, setM, wFld, fldM, wSFld, sfldM, wGet2, wGet1, wEq, wNe, asL, asLM, asK, asKM, asS, sstart, wFor, wgTup, wgCons, wgNil, wTuple, wList, wiL, wiT, wiS, wiK, wiIt, wiR1, wiR2, seqI, seqM, dicI, dicM, wSorted, wAll, wAny, wLc, wDc, wDisp, wpCons, wpNil, wLock, lockD, lockM, wItems, wDPop, dpopM, isDicM, wSl, slD, slM, wPart, wNoP, wipeS, wNever, retE, -List.lookup_eq_none_iff, S_History_check_version, H.oh, H.ot, H.op, lkT, lkP, lk1, lk2, lk3, lk4, lk5, lk6, lk7, lk8, lk9, lk10, lk11, -List.lookup_eq_none_iff]
  refine ⟨_, t, p, S, v, ⟨rfl, rfl⟩, H, w, h0, h1, ?_⟩
  simp [H.oh, H.ot, ea, lkT, lkP, lk1, lk2, lk3, lk4, lk5, lk6, lk7, lk8, lk9, lk10, lk11, -List.lookup_eq_none_iff]
  exact fun a ha => ret0 (q a ha)
end KH

set_option Elab.async false
set_option linter.all false
set_option maxRecDepth 100000
/-! KH: the class History, on -/
namespace KH
open PySem PySem.Spec PyProof.Rows L2 TD
variable {CS : CSt} {ds : List D} {O : OO} {Q : D → OO → Prop}
theorem pf1 {t : Addr} : putFD ("kept_tables" : Str) (.ref t) [] = ([("kept_tables", .ref t)] : List (Str × D)) := rfl
theorem pf2 {t p : Addr} : putFD ("kept_parents" : Str) (.ref p) [("kept_tables", .ref t)] = ([("kept_tables", .ref t), ("kept_parents", .ref p)] : List (Str × D)) := rfl
theorem law_History___init__ (h : S_History___init__ CS ds O Q) : W_History___init__ CS (retE Q) (sstart N_History___init__ ds) O := by
  obtain ⟨h, d, tb, rfl, hh, hd, ht, q⟩ := h
  simp [W_History___init__, wSeq, wAsg, wgName, wPar, wPar3, wDrop, wRet, wRetN, wIfS, wNext, wTst, wOp, wUn, wFrz, frzD, frzM, wAnd, wOr, wNot, wIf, tAndW, tOrW, tNotW, wChain, wC, wVar, look, wNil, wCons, wTup, wLst, wNewK, wCB, w1, w2, wCall, wMeth, wMake, wIsi, isaQ, tyD, tyM, isaB, blQ, wLen, lenD, lenM, wLe, wLt, wGt, wGe, wAdd, wSub, wMul, wDiv, wMod, wPow, wNeg, wInt2, wInt1, wAbs, wIx, ixL, ixM, ixK, wIn, wNotIn, inD, inM, inK, keyD, wIsN, wNotN, isNonD, wBm, mApp, appM, mPop, popM, mUpd, updM, dctM, wgSub, setM, wFld, fldM, wSFld, sfldM, wGet2, wGet1, wEq, wNe, asL, asLM, asS, sstart, wFor, wgTup, wgCons, wgNil, wTuple, wList, wiL, wiT, wiS, wiK, wiIt, wiR1, wiR2, seqI, seqM, dicI, dicM, wSorted, wAll, wAny, wLc, wDc, wDisp, wpCons, wpNil, wLock, lockD, lockM, wItems, wDPop, dpopM, isDicM, wSl, slD, slM, wPart, wNoP, wipeS, wNever, retE, -List.lookup_eq_none_iff]
  refine ⟨d, tb, rfl, hd, ht, dict2_of hd fun a ha => ?_⟩
  have hah : h ≠ a := neO hh ha
  simp [remO_updO ha, pf1, wSeq, wAsg, wgName, wPar, wPar3, wDrop, wRet, wRetN, wIfS, wNext, wTst, wOp, wUn, wFrz, frzD, frzM, wAnd, wOr, wNot, wIf, tAndW, tOrW, tNotW, wChain, wC, wVar, look, wNil, wCons, wTup, wLst, wNewK, wCB, w1, w2, wCall, wMeth, wMake, wIsi, isaQ, tyD, tyM, isaB, blQ, wLen, lenD, lenM, wLe, wLt, wGt, wGe, wAdd, wSub, wMul, wDiv, wMod, wPow, wNeg, wInt2, wInt1, wAbs, wIx, ixL, ixM, ixK, wIn, wNotIn, inD, inM, inK, keyD, wIsN, wNotN, isNonD, wBm, mApp, appM, mPop, popM, mUpd, updM, dctM, wgSub, setM, wFld, fldM, wSFld, sfldM, wGet2, wGet1, wEq, wNe, asL, asLM, asS, sstart, wFor, wgTup, wgCons, wgNil, wTuple, wList, wiL, wiT, wiS, wiK, wiIt, wiR1, wiR2, seqI, seqM, dicI, dicM, wSorted, wAll, wAny, wLc, wDc, wDisp, wpCons, wpNil, wLock, lockD, lockM, wItems, wDPop, dpopM, isDicM, wSl, slD, slM, wPart, wNoP, wipeS, wNever, retE, -List.lookup_eq_none_iff]
  intro t hto
  have hth : h ≠ t := neO hh hto
  simp [updO_ne hth, hh, pf1]
  intro p hpo
  obtain ⟨hph, hp'⟩ := none_upd hpo
  obtain ⟨hpt, hp0⟩ := none_upd hp'
  have e1 : ∀ m n, updO (updO (updO O t m) h n) p (.lst [.tup []]) h = some n := fun m n => by rw [updO_ne hph.symm, updO_same]
  simp [e1, pf2]
  refine retL (O := putH (updO O h (.ins CS.C_History [("kept_tables", .ref t), ("kept_parents", .ref p)])) t p ⟨[tb], [[]]⟩) (fun b m e => ?_) (q t p hto hp0 hpt.symm)
  have : putH (updO O h (.ins CS.C_History [("kept_tables", .ref t), ("kept_parents", .ref p)])) t p ⟨[tb], [[]]⟩ = updO (updO (updO O h (.ins CS.C_History [("kept_tables", .ref t), ("kept_parents", .ref p)])) t (.lst [.dic tb])) p (.lst [.tup []]) := rfl
  rw [this] at e
  by_cases b1 : b = h
  · subst b1
    rw [updO_ne hph.symm, updO_ne hth, updO_same] at e
    rw [updO_same, e]
  · rw [updO_ne b1]
    by_cases b2 : b = p
    · subst b2
      rw [updO_same] at e ⊢
      exact e
    · rw [updO_ne b2] at e ⊢
      rw [updO_ne b1]
      by_cases b3 : b = t
      · subst b3
        rw [updO_same] at e ⊢
        exact e
      · rw [updO_ne b3, updO_ne b1] at e
        rw [updO_ne b3, e]
theorem law_History_commit (h : S_History_commit CS ds O Q) : W_History_commit CS (retE Q) (sstart N_History_commit ds) O := by
  obtain ⟨h, t, p, S, v, d, tb, rfl, H, w, h0, h1, hd, ht, q⟩ := h
  simp [W_History_commit, wSeq, wAsg, wgName, wPar, wPar3, wDrop, wRet, wRetN, wIfS, wNext, wTst, wOp, wUn, wFrz, frzD, frzM, wAnd, wOr, wNot, wIf, tAndW, tOrW, tNotW, wChain, wC, wVar, look, wNil, wCons, wTup, wLst, wNewK, wCB, w1, w2, wCall, wMeth, wMake, wIsi, isaQ, tyD, tyM, isaB, blQ, wLen, lenD, lenM, wLe, wLt, wGt, wGe, wAdd, wSub, wMul, wDiv, wMod, wPow, wNeg, wInt2, wInt1, wAbs, wIx, ixL, ixM, ixK, wIn, wNotIn, inD, inM, inK, keyD, wIsN, wNotN, isNonD, wBm, mApp, appM, mPop, popM, mUpd, updM, dctM, wgSub, setM, wFld, fldM, wSFld, sfldM, wGet2, wGet1, wEq, wNe, asL, asLM, asS, sstart, wFor, wgTup, wgCons, wgNil, wTuple, wList, wiL, wiT, wiS, wiK, wiIt, wiR1, wiR2, seqI, seqM, dicI, dicM, wSorted, wAll, wAny, wLc, wDc, wDisp, wpCons, wpNil, wLock, lockD, lockM, wItems, wDPop, dpopM, isDicM, wSl, slD, slM, wPart, wNoP, wipeS, wNever, retE, -List.lookup_eq_none_iff, S_History_check_version, H.oh, lkT, lkP, lk1, lk2, lk3, lk4, lk5, lk6, lk7, lk8, lk9, lk10, lk11, -List.lookup_eq_none_iff]
  refine ⟨h, t, p, S, v, ⟨rfl, rfl⟩, H, w, h0, h1, d, tb, rfl, hd, ht, ?_⟩
  simp [H.oh, lkT, lkP, lk1, lk2, lk3, lk4, lk5, lk6, lk7, lk8, lk9, lk10, lk11, -List.lookup_eq_none_iff]
  refine ⟨h, t, p, S, d, tb, [v], rfl, H, w, hd, ?_⟩
  exact ret0 q
/-! ### a line -/
def visK (l : List Int) : Tab := l.map fun i => (.inl i, .bl true)
theorem vis_get {l : List Int} {x : Int} : valG (visK l) (.inl x) = if x ∈ l then some (.bl true) else none := by
  induction l with
  | nil => rfl
  | cons a r ih =>
    show valG ((Sum.inl a, D.bl true) :: visK r) (.inl x) = _
    rw [valG_cons]
    by_cases e : a = x
    · subst e; simp
    · have : (Sum.inl a : Key) ≠ Sum.inl x := fun z => e (Sum.inl.inj z)
      rw [if_neg this, ih]
      simp [Ne.symm e]
theorem vis_put {l : List Int} {x : Int} (h : x ∉ l) : putG (visK l) (.inl x) (.bl true) = visK (l ++ [x]) := by
  unfold putG
  have : ¬ ((visK l).any fun kv => decide (kv.1 = Sum.inl x)) = true := by
    intro z
    obtain ⟨kv, h1, h2⟩ := List.any_eq_true.mp z
    obtain ⟨i, hi, rfl⟩ := List.mem_map.mp h1
    exact h (Sum.inl.inj (of_decide_eq_true h2) ▸ hi)
  rw [if_neg this]
  simp [visK]
theorem vis_len (l : List Int) : (visK l).length = l.length := by simp [visK]
theorem vis_keys (l : List Int) : keysI ((visK l).map (·.1)) = some l := by
  have : (visK l).map (·.1) = l.map Sum.inl := by simp [visK]
  rw [this, keysI_map]
theorem few_le {n : Nat} {l : List Int} (hn : l.Nodup) (h : ∀ x ∈ l, 0 ≤ x ∧ x < n) : l.length ≤ n := by
  have := nodup_le (l := l) (m := (List.range n).map fun i : Nat => (i : Int)) hn fun x hx => by
    have := h x hx
    exact List.mem_map.mpr ⟨x.toNat, List.mem_range.mpr (by omega), by omega⟩
  simpa using this
theorem law_History_line_of (h : S_History_line_of CS ds O Q) : W_History_line_of CS (retE Q) (sstart N_History_line_of ds) O := by
  obtain ⟨h, t, p, S, v, rfl, H, w, h0, h1, q⟩ := h
  have hf := w.few
  have sz := sizeLine_eq
  simp [W_History_line_of, wSeq, wAsg, wgName, wPar, wPar3, wDrop, wRet, wRetN, wIfS, wNext, wTst, wOp, wUn, wFrz, frzD, frzM, wAnd, wOr, wNot, wIf, tAndW, tOrW, tNotW, wChain, wC, wVar, look, wNil, wCons, wTup, wLst, wNewK, wCB, w1, w2, wCall, wMeth, wMake, wIsi, isaQ, tyD, tyM, isaB, blQ, wLen, lenD, lenM, wLe, wLt, wGt, wGe, wAdd, wSub, wMul, wDiv, wMod, wPow, wNeg, wInt2, wInt1, wAbs, wIx, ixL, ixM, ixK, wIn, wNotIn, inD, inM, inK, keyD, wIsN, wNotN, isNonD, wBm, mApp, appM, mPop, popM, mUpd, updM, wDict2, dctM, wgSub, setM, wFld, fldM, wSFld, sfldM, wGet2, wGet1, wEq, wNe, asL, asLM, asK, asKM, asS, sstart, wFor, wgTup, wgCons, wgNil, wTuple, wList, wiL, wiT, wiS, wiK, wiIt, wiR1, wiR2, seqI, seqM, dicI, dicM, wSorted, wAll, wAny, wLc, wDc, wDisp, wpCons, wpNil, wLock, lockD, lockM, wItems, wDPop, dpopM, isDicM, wSl, slD, slM, wPart, wNoP, wipeS, wNever, retE, -List.lookup_eq_none_iff]
  intro f hf0 wt hw0
  obtain ⟨hwf, hw⟩ := none_upd hw0
  have em : mergeG [] [((Sum.inl v : Key), D.bl true)] = visK [v] := rfl
  rw [em]
  refine while_run (fun m s O' => ∃ (l wl : List Int) (pr : Option D), s = [some (.ref h), some (.int v), some (.ref f), some (.ref wt), pr] ∧ Le O O' ∧ O' f = some (.dic (visK l)) ∧ O' wt = some (.lst (wl.map D.int)) ∧ l.Nodup ∧
    (∀ x ∈ l, S.rc v x = true) ∧ v ∈ l ∧ (∀ x ∈ wl, x ∈ l) ∧ (∀ x ∈ l, x ∉ wl → ∀ y ∈ S.pars[x.toNat]?.getD [], y ∈ l) ∧ wl.length ≤ l.length ∧ m = 2 * (S.n - l.length) + wl.length) ?_ ⟨[v], [v], none, rfl, ((Le.refl O).upd hf0).upd hw, by rw [updO_ne hwf.symm, updO_same], updO_same, by simp, ?_, by simp, by simp, by simp, by simp, rfl⟩
  · rintro m s O' K hK ⟨l, wl, pr, rfl, hle, of, ow, hnd, hrc, hv, hsub, hcl, hww, rfl⟩
    have hbd : ∀ x ∈ l, 0 ≤ x ∧ x < S.n := fun x hx => by
      have := rc_le w h0 h1 (hrc x hx)
      omega
    have hlen := few_le hnd hbd
    have H' := H.le hle
    rcases List.eq_nil_or_concat wl with hwl | ⟨wi, a, hwl⟩
    · subst hwl
      simp [wSeq, wAsg, wgName, wPar, wPar3, wDrop, wRet, wRetN, wIfS, wNext, wTst, wOp, wUn, wFrz, frzD, frzM, wAnd, wOr, wNot, wIf, tAndW, tOrW, tNotW, wChain, wC, wVar, look, wNil, wCons, wTup, wLst, wNewK, wCB, w1, w2, wCall, wMeth, wMake, wIsi, isaQ, tyD, tyM, isaB, blQ, wLen, lenD, lenM, wLe, wLt, wGt, wGe, wAdd, wSub, wMul, wDiv, wMod, wPow, wNeg, wInt2, wInt1, wAbs, wIx, ixL, ixM, ixK, wIn, wNotIn, inD, inM, inK, keyD, wIsN, wNotN, isNonD, wBm, mApp, appM, mPop, popM, mUpd, updM, wDict2, dctM, wgSub, setM, wFld, fldM, wSFld, sfldM, wGet2, wGet1, wEq, wNe, asL, asLM, asK, asKM, asS, sstart, wFor, wgTup, wgCons, wgNil, wTuple, wList, wiL, wiT, wiS, wiK, wiIt, wiR1, wiR2, seqI, seqM, dicI, dicM, wSorted, wAll, wAny, wLc, wDc, wDisp, wpCons, wpNil, wLock, lockD, lockM, wItems, wDPop, dpopM, isDicM, wSl, slD, slM, wPart, wNoP, wipeS, wNever, retE, -List.lookup_eq_none_iff, ow, of]
      exact retL (hle.rem hf0) (q l hnd fun x => ⟨hrc x, fun hx => rc_closed w (fun x hx => hcl x hx (by simp)) h0 h1 hv hx⟩)
    · have hwl : wl = wi ++ [a] := by simpa using hwl
      subst hwl
      have hal : a ∈ l := hsub a (by simp)
      obtain ⟨ha0, ha1⟩ := hbd a hal
      obtain ⟨ps, hps⟩ := w.parAt ha0 ha1
      have ea : atI (parsD S) a = some (tupI ps) := at_nat ha0 (by simp [parsD, hps])
      have hpw : p ≠ wt := neO H.op hw
      have hps' : S.pars[a.toNat]?.getD [] = ps := by rw [hps]; rfl
      have hlt : (0 : Int) < (wi.length : Int) + 1 := by omega
      simp [wSeq, wAsg, wgName, wPar, wPar3, wDrop, wRet, wRetN, wIfS, wNext, wTst, wOp, wUn, wFrz, frzD, frzM, wAnd, wOr, wNot, wIf, tAndW, tOrW, tNotW, wChain, wC, wVar, look, wNil, wCons, wTup, wLst, wNewK, wCB, w1, w2, wCall, wMeth, wMake, wIsi, isaQ, tyD, tyM, isaB, blQ, wLen, lenD, lenM, wLe, wLt, wGt, wGe, wAdd, wSub, wMul, wDiv, wMod, wPow, wNeg, wInt2, wInt1, wAbs, wIx, ixL, ixM, ixK, wIn, wNotIn, inD, inM, inK, keyD, wIsN, wNotN, isNonD, wBm, mApp, appM, mPop, popM, mUpd, updM, wDict2, dctM, wgSub, setM, wFld, fldM, wSFld, sfldM, wGet2, wGet1, wEq, wNe, asL, asLM, asK, asKM, asS, sstart, wFor, wgTup, wgCons, wgNil, wTuple, wList, wiL, wiT, wiS, wiK, wiIt, wiR1, wiR2, seqI, seqM, dicI, dicM, wSorted, wAll, wAny, wLc, wDc, wDisp, wpCons, wpNil, wLock, lockD, lockM, wItems, wDPop, dpopM, isDicM, wSl, slD, slM, wPart, wNoP, wipeS, wNever, retE, -List.lookup_eq_none_iff, ow, H'.oh, lkT, lkP, lk1, lk2, lk3, lk4, lk5, lk6, lk7, lk8, lk9, lk10, lk11, -List.lookup_eq_none_iff, hlt]
      refine ⟨tv_ref ow, ?_⟩
      simp [updO_ne hpw, H'.op, ea, tupI]
      refine forN_run (fun r s O2 => ∃ (l2 wl2 : List Int) (pr : Option D) (rs : List Int), r = rs.map D.int ∧ s = [some (.ref h), some (.int v), some (.ref f), some (.ref wt), pr] ∧ Le O O2 ∧ O2 f = some (.dic (visK l2)) ∧ O2 wt = some (.lst (wl2.map D.int)) ∧ l2.Nodup ∧
        (∀ x ∈ l2, S.rc v x = true) ∧ v ∈ l2 ∧ (∀ x ∈ wl2, x ∈ l2) ∧ (∀ y ∈ rs, S.rc v y = true) ∧ (∀ x ∈ l2, x ∉ wl2 → x ≠ a → ∀ y ∈ S.pars[x.toNat]?.getD [], y ∈ l2) ∧ (∀ y ∈ ps, y ∈ rs ∨ y ∈ l2) ∧
        wl2.length ≤ l2.length ∧ 2 * (S.n - l2.length) + wl2.length < 2 * (S.n - l.length) + (wi ++ [a]).length) ?_ ?_ ?_
      · rintro d r s O2 K2 hK2 ⟨l2, wl2, pr2, rs, er, rfl, hle2, of2, ow2, nd2, rc2, hv2, sub2, rcr, cl2, pp2, ww2, ms2⟩
        cases rs with
        | nil => cases er
        | cons y rs =>
          simp only [List.map_cons, List.cons.injEq] at er
          obtain ⟨rfl, rfl⟩ := er
          refine ⟨trivial, ?_⟩
          have hbd2 : ∀ x ∈ l2, 0 ≤ x ∧ x < S.n := fun x hx => by
            have := rc_le w h0 h1 (rc2 x hx)
            omega
          have hlen2 := few_le nd2 hbd2
          have hvl := vis_len l2
          by_cases hy : y ∈ l2
          · simp [wSeq, wAsg, wgName, wPar, wPar3, wDrop, wRet, wRetN, wIfS, wNext, wTst, wOp, wUn, wFrz, frzD, frzM, wAnd, wOr, wNot, wIf, tAndW, tOrW, tNotW, wChain, wC, wVar, look, wNil, wCons, wTup, wLst, wNewK, wCB, w1, w2, wCall, wMeth, wMake, wIsi, isaQ, tyD, tyM, isaB, blQ, wLen, lenD, lenM, wLe, wLt, wGt, wGe, wAdd, wSub, wMul, wDiv, wMod, wPow, wNeg, wInt2, wInt1, wAbs, wIx, ixL, ixM, ixK, wIn, wNotIn, inD, inM, inK, keyD, wIsN, wNotN, isNonD, wBm, mApp, appM, mPop, popM, mUpd, updM, wDict2, dctM, wgSub, setM, wFld, fldM, wSFld, sfldM, wGet2, wGet1, wEq, wNe, asL, asLM, asK, asKM, asS, sstart, wFor, wgTup, wgCons, wgNil, wTuple, wList, wiL, wiT, wiS, wiK, wiIt, wiR1, wiR2, seqI, seqM, dicI, dicM, wSorted, wAll, wAny, wLc, wDc, wDisp, wpCons, wpNil, wLock, lockD, lockM, wItems, wDPop, dpopM, isDicM, wSl, slD, slM, wPart, wNoP, wipeS, wNever, retE, -List.lookup_eq_none_iff, of2, vis_get, hy]
            refine hK2 _ _ ⟨l2, wl2, _, rs, rfl, rfl, hle2, of2, ow2, nd2, rc2, hv2, sub2, fun z hz => rcr z (List.mem_cons_of_mem _ hz), cl2, fun z hz => ?_, ww2, ms2⟩
            rcases pp2 z hz with hz | hz
            · rcases List.mem_cons.mp hz with rfl | hz
              · exact .inr hy
              · exact .inl hz
            · exact .inr hz
          · have hwf' : wt ≠ f := hwf
            have nd3 : (l2 ++ [y]).Nodup := by
              rw [List.nodup_append]
              exact ⟨nd2, by simp, fun x hx z hz e => by simp at hz; subst hz; subst e; exact hy hx⟩
            have rc3 : ∀ x ∈ l2 ++ [y], S.rc v x = true := fun x hx => by
              rcases List.mem_append.mp hx with hx | hx
              · exact rc2 x hx
              · rw [List.mem_singleton.mp hx]; exact rcr y List.mem_cons_self
            have hlen3 := few_le (n := S.n) nd3 fun x hx => by
              have := rc_le w h0 h1 (rc3 x hx)
              omega
            simp at hlen3
            simp [wSeq, wAsg, wgName, wPar, wPar3, wDrop, wRet, wRetN, wIfS, wNext, wTst, wOp, wUn, wFrz, frzD, frzM, wAnd, wOr, wNot, wIf, tAndW, tOrW, tNotW, wChain, wC, wVar, look, wNil, wCons, wTup, wLst, wNewK, wCB, w1, w2, wCall, wMeth, wMake, wIsi, isaQ, tyD, tyM, isaB, blQ, wLen, lenD, lenM, wLe, wLt, wGt, wGe, wAdd, wSub, wMul, wDiv, wMod, wPow, wNeg, wInt2, wInt1, wAbs, wIx, ixL, ixM, ixK, wIn, wNotIn, inD, inM, inK, keyD, wIsN, wNotN, isNonD, wBm, mApp, appM, mPop, popM, mUpd, updM, wDict2, dctM, wgSub, setM, wFld, fldM, wSFld, sfldM, wGet2, wGet1, wEq, wNe, asL, asLM, asK, asKM, asS, sstart, wFor, wgTup, wgCons, wgNil, wTuple, wList, wiL, wiT, wiS, wiK, wiIt, wiR1, wiR2, seqI, seqM, dicI, dicM, wSorted, wAll, wAny, wLc, wDc, wDisp, wpCons, wpNil, wLock, lockD, lockM, wItems, wDPop, dpopM, isDicM, wSl, slD, slM, wPart, wNoP, wipeS, wNever, retE, -List.lookup_eq_none_iff, of2, vis_get, hy, vis_put hy, updO_ne hwf', ow2]
            refine ⟨by omega, tv_ref (by rw [updO_ne hwf', ow2]), by omega, ?_⟩
            refine hK2 _ _ ⟨l2 ++ [y], wl2 ++ [y], _, rs, rfl, rfl, (hle2.upd hf0).upd hw, by rw [updO_ne hwf'.symm, updO_same], by simp, nd3, rc3, by simp [hv2], ?_, fun z hz => rcr z (List.mem_cons_of_mem _ hz), ?_, ?_, by simpa using ww2, ?_⟩
            · intro x hx
              rcases List.mem_append.mp hx with hx | hx
              · exact List.mem_append_left _ (sub2 x hx)
              · exact List.mem_append_right _ hx
            · intro x hx hnx hxa z hz
              rcases List.mem_append.mp hx with hx | hx
              · exact List.mem_append_left _ (cl2 x hx (fun q => hnx (List.mem_append_left _ q)) hxa z hz)
              · exact absurd (List.mem_append_right wl2 hx) hnx
            · intro z hz
              rcases pp2 z hz with hz | hz
              · rcases List.mem_cons.mp hz with rfl | hz
                · exact .inr (by simp)
                · exact .inl hz
              · exact .inr (List.mem_append_left _ hz)
            · simp at ms2 ⊢
              omega
      · rintro s O2 ⟨l2, wl2, pr2, rs, er, rfl, hle2, of2, ow2, nd2, rc2, hv2, sub2, rcr, cl2, pp2, ww2, ms2⟩
        cases rs with
        | cons y rs => cases er
        | nil =>
          refine ⟨trivial, hK _ _ _ ms2 ⟨l2, wl2, pr2, rfl, hle2, of2, ow2, nd2, rc2, hv2, sub2, fun x hx hnx => ?_, ww2, rfl⟩⟩
          by_cases hxa : x = a
          · subst hxa
            rw [hps']
            exact fun y hy => (pp2 y hy).resolve_left (by simp)
          · exact cl2 x hx hnx hxa
      · refine ⟨l, wi, _, ps, rfl, rfl, hle.upd hw, by rw [updO_ne hwf.symm, of], by simp, hnd, hrc, hv, fun x hx => hsub x (by simp [hx]), fun y hy => ?_, fun x hx hnx hxa => hcl x hx (by simp [hnx, hxa]), fun y hy => .inl hy, by simp at hww; omega, by simp⟩
        exact rc_trans w h0 h1 (hrc a hal) ((rc_iff w ha0 ha1).mpr (.inr ⟨y, by rw [hps']; exact hy, rc_self _ _⟩))
  · intro x hx
    simp at hx
    subst hx
    exact rc_self _ _
end KH

set_option Elab.async false
set_option linter.all false
set_option maxRecDepth 100000
/-! KH: elders, since, bases -/
namespace KH
open PySem PySem.Spec PyProof.Rows L2 TD
variable {CS : CSt} {ds : List D} {O : OO} {Q : D → OO → Prop}
def pickI (P : Int → Bool) : D → Option D
  | .int k => if P k = true then some (.int k) else none
  | _ => none
theorem pick_map (P : Int → Bool) : ∀ (L : List Int), (L.map D.int).filterMap (pickI P) = (L.filter P).map D.int
  | [] => rfl
  | k :: r => by
    rw [List.map_cons, List.filterMap_cons, List.filter_cons]
    by_cases h : P k = true
    · simp only [pickI, h, if_true, List.map_cons, pick_map P r]
    · have h' : P k = false := by simpa using h
      simp only [pickI, h', Bool.false_eq_true, if_false, pick_map P r]
theorem cmp_ii {a b : Int} : cmpD (.int a) (.int b) = true := rfl
theorem ne_ii {a b : Int} : neK (.int a) (.int b) = true := rfl
theorem dp_i {a : Int} : dpD (.int a) = 0 := rfl
theorem eqv_ii {a b : Int} : eqvD (.int a) (.int b) = decide (a = b) := by
  rw [eqvD]
  rfl
theorem visD_eq (l : List Int) : visD l = .dic (visK l) := rfl
theorem line_setL {S : Hist} (w : Wf S) {v : Int} (h0 : 0 ≤ v) (h1 : v < S.n) {l : List Int} (hn : l.Nodup) (h : ∀ x, x ∈ l ↔ S.rc v x = true) : sortI l = setL S.n (S.rc v) :=
  sort_setL hn fun x => ⟨fun hx => by
    have := (h x).mp hx
    have q := rc_le w h0 h1 this
    exact ⟨q.1, by omega, this⟩, fun hx => (h x).mpr hx.2.2⟩
theorem line_len {S : Hist} (w : Wf S) {v : Int} (h0 : 0 ≤ v) (h1 : v < S.n) {l : List Int} (hn : l.Nodup) (h : ∀ x, x ∈ l ↔ S.rc v x = true) : l.length ≤ 40 := by
  have := few_le (n := S.n) hn fun x hx => by
    have q := rc_le w h0 h1 ((h x).mp hx)
    omega
  have := w.few
  omega
theorem mem_int {L : List Int} {d : D} (h : d ∈ L.map D.int) : ∃ k ∈ L, d = .int k := by
  obtain ⟨k, hk, e⟩ := List.mem_map.mp h
  exact ⟨k, hk, e.symm⟩
theorem law_History_elders (h : S_History_elders CS ds O Q) : W_History_elders CS (retE Q) (sstart N_History_elders ds) O := by
  obtain ⟨h, t, p, S, v, rfl, H, w, h0, h1, q⟩ := h
  have sz := sizeLine_eq
  have hf := w.few
  rw [show (fun x => S.rc v x && decide (x ≠ v)) = fun x => S.rc v x && !decide (x = v) by funext x; simp] at q
  simp [W_History_elders, wSeq, wAsg, wgName, wPar, wPar3, wDrop, wRet, wRetN, wIfS, wNext, wTst, wOp, wUn, wFrz, frzD, frzM, wAnd, wOr, wNot, wIf, tAndW, tOrW, tNotW, wChain, wC, wVar, look, wNil, wCons, wTup, wLst, wNewK, wCB, w1, w2, wCall, wMeth, wMake, wIsi, isaQ, tyD, tyM, isaB, blQ, wLen, lenD, lenM, wLe, wLt, wGt, wGe, wAdd, wSub, wMul, wDiv, wMod, wPow, wNeg, wInt2, wInt1, wAbs, wIx, ixL, ixM, ixK, wIn, wNotIn, inD, inM, inK, keyD, wIsN, wNotN, isNonD, wBm, mApp, appM, mPop, popM, mUpd, updM, wDict2, dctM, wgSub, setM, wFld, fldM, wSFld, sfldM, wGet2, wGet1, wEq, wNe, asL, asLM, asK, asKM, asS, sstart, wFor, wgTup, wgCons, wgNil, wTuple, wList, wiL, wiT, wiS, wiK, wiIt, wiR1, wiR2, seqI, seqM, dicI, dicM, wAll, wAny, wLc, wDc, wDisp, wpCons, wpNil, wLock, lockD, lockM, wItems, wDPop, dpopM, isDicM, wSl, slD, slM, wPart, wNoP, wipeS, wNever, retE, -List.lookup_eq_none_iff, S_History_check_version, H.oh, lkT, lkP, lk1, lk2, lk3, lk4, lk5, lk6, lk7, lk8, lk9, lk10, lk11, -List.lookup_eq_none_iff]
  refine ⟨h, t, p, S, v, ⟨rfl, rfl⟩, H, w, h0, h1, ?_⟩
  try simp [H.oh, lkT, lkP, lk1, lk2, lk3, lk4, lk5, lk6, lk7, lk8, lk9, lk10, lk11, -List.lookup_eq_none_iff]
  refine ⟨h, t, p, S, v, rfl, H, w, h0, h1, fun l hn hl => ?_⟩
  refine sortedK_i (kvs := visK l) rfl (vis_keys l) (by have := line_len w h0 h1 hn hl; omega) fun a ha => ?_
  rw [line_setL w h0 h1 hn hl]
  simp
  intro b hb
  obtain ⟨hba, hb0⟩ := none_upd hb
  refine lcN_run (f := pickI fun k => !decide (k = v)) (fun d hd acc R N hh => ?_) (fun acc => by rw [updO_ne hba.symm, updO_same]) (by have := setL_len S.n (S.rc v); simp; omega) ?_
  · obtain ⟨k, hk, rfl⟩ := mem_int hd
    by_cases hkv : k = v
    · subst hkv
      simpa [wSeq, wAsg, wgName, wPar, wPar3, wDrop, wRet, wRetN, wIfS, wNext, wTst, wOp, wUn, wFrz, frzD, frzM, wAnd, wOr, wNot, wIf, tAndW, tOrW, tNotW, wChain, wC, wVar, look, wNil, wCons, wTup, wLst, wNewK, wCB, w1, w2, wCall, wMeth, wMake, wIsi, isaQ, tyD, tyM, isaB, blQ, wLen, lenD, lenM, wLe, wLt, wGt, wGe, wAdd, wSub, wMul, wDiv, wMod, wPow, wNeg, wInt2, wInt1, wAbs, wIx, ixL, ixM, ixK, wIn, wNotIn, inD, inM, inK, keyD, wIsN, wNotN, isNonD, wBm, mApp, appM, mPop, popM, mUpd, updM, wDict2, dctM, wgSub, setM, wFld, fldM, wSFld, sfldM, wGet2, wGet1, wEq, wNe, asL, asLM, asK, asKM, asS, sstart, wFor, wgTup, wgCons, wgNil, wTuple, wList, wiL, wiT, wiS, wiK, wiIt, wiR1, wiR2, seqI, seqM, dicI, dicM, wSorted, wAll, wAny, wLc, wDc, wDisp, wpCons, wpNil, wLock, lockD, lockM, wItems, wDPop, dpopM, isDicM, wSl, slD, slM, wPart, wNoP, wipeS, wNever, retE, -List.lookup_eq_none_iff, pickI, cmp_ii, ne_ii, dp_i, eqv_ii] using hh
    · simpa [wSeq, wAsg, wgName, wPar, wPar3, wDrop, wRet, wRetN, wIfS, wNext, wTst, wOp, wUn, wFrz, frzD, frzM, wAnd, wOr, wNot, wIf, tAndW, tOrW, tNotW, wChain, wC, wVar, look, wNil, wCons, wTup, wLst, wNewK, wCB, w1, w2, wCall, wMeth, wMake, wIsi, isaQ, tyD, tyM, isaB, blQ, wLen, lenD, lenM, wLe, wLt, wGt, wGe, wAdd, wSub, wMul, wDiv, wMod, wPow, wNeg, wInt2, wInt1, wAbs, wIx, ixL, ixM, ixK, wIn, wNotIn, inD, inM, inK, keyD, wIsN, wNotN, isNonD, wBm, mApp, appM, mPop, popM, mUpd, updM, wDict2, dctM, wgSub, setM, wFld, fldM, wSFld, sfldM, wGet2, wGet1, wEq, wNe, asL, asLM, asK, asKM, asS, sstart, wFor, wgTup, wgCons, wgNil, wTuple, wList, wiL, wiT, wiS, wiK, wiIt, wiR1, wiR2, seqI, seqM, dicI, dicM, wSorted, wAll, wAny, wLc, wDc, wDisp, wpCons, wpNil, wLock, lockD, lockM, wItems, wDPop, dpopM, isDicM, wSl, slD, slM, wPart, wNoP, wipeS, wNever, retE, -List.lookup_eq_none_iff, pickI, cmp_ii, ne_ii, dp_i, eqv_ii, hkv] using hh
  · rw [pick_map, setL_filter, List.nil_append]
    simp
    exact retL (((Le.refl O).upd ha).upd hb0) q
theorem law_History_since (h : S_History_since CS ds O Q) : W_History_since CS (retE Q) (sstart N_History_since ds) O := by
  obtain ⟨h, t, p, S, u, v, rfl, H, w, u0, u1, v0, v1, q⟩ := h
  have sz := sizeLine_eq
  have hf := w.few
  simp [W_History_since, wSeq, wAsg, wgName, wPar, wPar3, wDrop, wRet, wRetN, wIfS, wNext, wTst, wOp, wUn, wFrz, frzD, frzM, wAnd, wOr, wNot, wIf, tAndW, tOrW, tNotW, wChain, wC, wVar, look, wNil, wCons, wTup, wLst, wNewK, wCB, w1, w2, wCall, wMeth, wMake, wIsi, isaQ, tyD, tyM, isaB, blQ, wLen, lenD, lenM, wLe, wLt, wGt, wGe, wAdd, wSub, wMul, wDiv, wMod, wPow, wNeg, wInt2, wInt1, wAbs, wIx, ixL, ixM, ixK, wIn, wNotIn, inD, inM, inK, keyD, wIsN, wNotN, isNonD, wBm, mApp, appM, mPop, popM, mUpd, updM, wDict2, dctM, wgSub, setM, wFld, fldM, wSFld, sfldM, wGet2, wGet1, wEq, wNe, asL, asLM, asK, asKM, asS, sstart, wFor, wgTup, wgCons, wgNil, wTuple, wList, wiL, wiT, wiS, wiK, wiIt, wiR1, wiR2, seqI, seqM, dicI, dicM, wAll, wAny, wLc, wDc, wDisp, wpCons, wpNil, wLock, lockD, lockM, wItems, wDPop, dpopM, isDicM, wSl, slD, slM, wPart, wNoP, wipeS, wNever, retE, -List.lookup_eq_none_iff, S_History_check_version, H.oh, lkT, lkP, lk1, lk2, lk3, lk4, lk5, lk6, lk7, lk8, lk9, lk10, lk11, -List.lookup_eq_none_iff]
  refine ⟨h, t, p, S, u, ⟨rfl, rfl⟩, H, w, u0, u1, h, t, p, S, v, ⟨rfl, rfl⟩, H, w, v0, v1, ?_⟩
  try simp [H.oh, lkT, lkP, lk1, lk2, lk3, lk4, lk5, lk6, lk7, lk8, lk9, lk10, lk11, -List.lookup_eq_none_iff]
  refine ⟨h, t, p, S, u, rfl, H, w, u0, u1, fun m hm hml => ?_⟩
  try simp [H.oh, lkT, lkP, lk1, lk2, lk3, lk4, lk5, lk6, lk7, lk8, lk9, lk10, lk11, -List.lookup_eq_none_iff]
  refine ⟨h, t, p, S, v, rfl, H, w, v0, v1, fun l hn hl => ?_⟩
  refine sortedK_i (kvs := visK l) rfl (vis_keys l) (by have := line_len w v0 v1 hn hl; omega) fun a ha => ?_
  rw [line_setL w v0 v1 hn hl]
  simp
  intro b hb
  obtain ⟨hba, hb0⟩ := none_upd hb
  refine lcN_run (f := pickI fun k => !S.rc u k) (fun d hd acc R N hh => ?_) (fun acc => by rw [updO_ne hba.symm, updO_same]) (by have := setL_len S.n (S.rc v); simp; omega) ?_
  · obtain ⟨k, hk, rfl⟩ := mem_int hd
    have e := hml k
    by_cases hkv : S.rc u k = true
    · have : k ∈ m := e.mpr hkv
      simpa [wSeq, wAsg, wgName, wPar, wPar3, wDrop, wRet, wRetN, wIfS, wNext, wTst, wOp, wUn, wFrz, frzD, frzM, wAnd, wOr, wNot, wIf, tAndW, tOrW, tNotW, wChain, wC, wVar, look, wNil, wCons, wTup, wLst, wNewK, wCB, w1, w2, wCall, wMeth, wMake, wIsi, isaQ, tyD, tyM, isaB, blQ, wLen, lenD, lenM, wLe, wLt, wGt, wGe, wAdd, wSub, wMul, wDiv, wMod, wPow, wNeg, wInt2, wInt1, wAbs, wIx, ixL, ixM, ixK, wIn, wNotIn, inD, inM, inK, keyD, wIsN, wNotN, isNonD, wBm, mApp, appM, mPop, popM, mUpd, updM, wDict2, dctM, wgSub, setM, wFld, fldM, wSFld, sfldM, wGet2, wGet1, wEq, wNe, asL, asLM, asK, asKM, asS, sstart, wFor, wgTup, wgCons, wgNil, wTuple, wList, wiL, wiT, wiS, wiK, wiIt, wiR1, wiR2, seqI, seqM, dicI, dicM, wSorted, wAll, wAny, wLc, wDc, wDisp, wpCons, wpNil, wLock, lockD, lockM, wItems, wDPop, dpopM, isDicM, wSl, slD, slM, wPart, wNoP, wipeS, wNever, retE, -List.lookup_eq_none_iff, pickI, visD_eq, vis_get, this, hkv] using hh
    · have : k ∉ m := fun z => hkv (e.mp z)
      simpa [wSeq, wAsg, wgName, wPar, wPar3, wDrop, wRet, wRetN, wIfS, wNext, wTst, wOp, wUn, wFrz, frzD, frzM, wAnd, wOr, wNot, wIf, tAndW, tOrW, tNotW, wChain, wC, wVar, look, wNil, wCons, wTup, wLst, wNewK, wCB, w1, w2, wCall, wMeth, wMake, wIsi, isaQ, tyD, tyM, isaB, blQ, wLen, lenD, lenM, wLe, wLt, wGt, wGe, wAdd, wSub, wMul, wDiv, wMod, wPow, wNeg, wInt2, wInt1, wAbs, wIx, ixL, ixM, ixK, wIn, wNotIn, inD, inM, inK, keyD, wIsN, wNotN, isNonD, wBm, mApp, appM, mPop, popM, mUpd, updM, wDict2, dctM, wgSub, setM, wFld, fldM, wSFld, sfldM, wGet2, wGet1, wEq, wNe, asL, asLM, asK, asKM, asS, sstart, wFor, wgTup, wgCons, wgNil, wTuple, wList, wiL, wiT, wiS, wiK, wiIt, wiR1, wiR2, seqI, seqM, dicI, dicM, wSorted, wAll, wAny, wLc, wDc, wDisp, wpCons, wpNil, wLock, lockD, lockM, wItems, wDPop, dpopM, isDicM, wSl, slD, slM, wPart, wNoP, wipeS, wNever, retE, -List.lookup_eq_none_iff, pickI, visD_eq, vis_get, this, hkv] using hh
  · rw [pick_map, setL_filter, List.nil_append]
    simp
    exact retL (((Le.refl O).upd ha).upd hb0) q
theorem law_History_bases (h : S_History_bases CS ds O Q) : W_History_bases CS (retE Q) (sstart N_History_bases ds) O := by
  obtain ⟨h, t, p, S, u, v, rfl, H, w, u0, u1, v0, v1, q⟩ := h
  simp [W_History_bases, wSeq, wAsg, wgName, wPar, wPar3, wDrop, wRet, wRetN, wIfS, wNext, wTst, wOp, wUn, wFrz, frzD, frzM, wAnd, wOr, wNot, wIf, tAndW, tOrW, tNotW, wChain, wC, wVar, look, wNil, wCons, wTup, wLst, wNewK, wCB, w1, w2, wCall, wMeth, wMake, wIsi, isaQ, tyD, tyM, isaB, blQ, wLen, lenD, lenM, wLe, wLt, wGt, wGe, wAdd, wSub, wMul, wDiv, wMod, wPow, wNeg, wInt2, wInt1, wAbs, wIx, ixL, ixM, ixK, wIn, wNotIn, inD, inM, inK, keyD, wIsN, wNotN, isNonD, wBm, mApp, appM, mPop, popM, mUpd, updM, wDict2, dctM, wgSub, setM, wFld, fldM, wSFld, sfldM, wGet2, wGet1, wEq, wNe, asL, asLM, asK, asKM, asS, sstart, wFor, wgTup, wgCons, wgNil, wTuple, wList, wiL, wiT, wiS, wiK, wiIt, wiR1, wiR2, seqI, seqM, dicI, dicM, wSorted, wAll, wAny, wLc, wDc, wDisp, wpCons, wpNil, wLock, lockD, lockM, wItems, wDPop, dpopM, isDicM, wSl, slD, slM, wPart, wNoP, wipeS, wNever, retE, -List.lookup_eq_none_iff, S_History_check_version, H.oh, lkT, lkP, lk1, lk2, lk3, lk4, lk5, lk6, lk7, lk8, lk9, lk10, lk11, -List.lookup_eq_none_iff]
  refine ⟨h, t, p, S, u, ⟨rfl, rfl⟩, H, w, u0, u1, h, t, p, S, v, ⟨rfl, rfl⟩, H, w, v0, v1, ?_⟩
  try simp [H.oh, lkT, lkP, lk1, lk2, lk3, lk4, lk5, lk6, lk7, lk8, lk9, lk10, lk11, -List.lookup_eq_none_iff]
  refine ⟨h, t, p, S, u, v, rfl, H, w, u0, u1, v0, v1, ?_⟩
  exact ⟨_, rfl, ret0 q⟩
end KH

set_option Elab.async false
set_option linter.all false
set_option maxRecDepth 100000
/-! KH: bases -/
namespace KH
open PySem PySem.Spec PyProof.Rows L2 TD
variable {CS : CSt} {ds : List D} {O : OO} {Q : D → OO → Prop}
def unionL (a b : List Int) : List Int := b.foldl (fun acc x => if x ∈ acc then acc else acc ++ [x]) a
theorem mem_unionL {x : Int} : ∀ {b a : List Int}, x ∈ unionL a b ↔ x ∈ a ∨ x ∈ b
  | [], a => by simp [unionL]
  | y :: r, a => by
    show x ∈ unionL (if y ∈ a then a else a ++ [y]) r ↔ _
    rw [mem_unionL (b := r)]
    by_cases h : y ∈ a
    · rw [if_pos h]
      constructor
      · rintro (h | h)
        · exact .inl h
        · exact .inr (List.mem_cons_of_mem _ h)
      · rintro (h2 | h2)
        · exact .inl h2
        · rcases List.mem_cons.mp h2 with rfl | h2
          · exact .inl h
          · exact .inr h2
    · rw [if_neg h]
      simp [or_assoc]
theorem nd_unionL : ∀ {b a : List Int}, a.Nodup → (unionL a b).Nodup
  | [], a, h => h
  | y :: r, a, h => by
    show (unionL (if y ∈ a then a else a ++ [y]) r).Nodup
    by_cases hy : y ∈ a
    · rw [if_pos hy]; exact nd_unionL h
    · rw [if_neg hy]
      refine nd_unionL ?_
      rw [List.nodup_append]
      exact ⟨h, by simp, fun x hx z hz e => by simp at hz; subst hz; subst e; exact hy hx⟩
theorem vis_put_mem {l : List Int} {x : Int} (h : x ∈ l) : putG (visK l) (.inl x) (.bl true) = visK l := by
  unfold putG
  have : ((visK l).any fun kv => decide (kv.1 = Sum.inl x)) = true := List.any_eq_true.mpr ⟨(.inl x, .bl true), List.mem_map_of_mem h, by simp⟩
  rw [if_pos this]
  unfold visK
  rw [List.map_map]
  refine List.map_congr_left fun k _ => ?_
  show (if (Sum.inl k : Key) = Sum.inl x then ((Sum.inl k : Key), D.bl true) else (Sum.inl k, D.bl true)) = _
  split <;> rfl
theorem vis_merge : ∀ {b a : List Int}, mergeG (visK a) (visK b) = visK (unionL a b)
  | [], a => rfl
  | y :: r, a => by
    show mergeG (putG (visK a) (.inl y) (.bl true)) (visK r) = visK (unionL (if y ∈ a then a else a ++ [y]) r)
    by_cases h : y ∈ a
    · rw [if_pos h, vis_put_mem h, vis_merge]
    · rw [if_neg h, vis_put h, vis_merge]
def pickK (P : Int → Bool) : D → Option (Key × D)
  | .int k => if P k = true then some (.inl k, .bl true) else none
  | _ => none
theorem pickK_map (P : Int → Bool) : ∀ (L : List Int), (L.map D.int).filterMap (pickK P) = visK (L.filter P)
  | [] => rfl
  | k :: r => by
    rw [List.map_cons, List.filterMap_cons, List.filter_cons]
    by_cases h : P k = true
    · simp only [pickK, h, if_true, pickK_map P r]; rfl
    · have h' : P k = false := by simpa using h
      simp only [pickK, h', Bool.false_eq_true, if_false, pickK_map P r]
theorem law_History_raw_bases (h : S_History_raw_bases CS ds O Q) : W_History_raw_bases CS (retE Q) (sstart N_History_raw_bases ds) O := by
  obtain ⟨h, t, p, S, u, v, rfl, H, w, u0, u1, v0, v1, q⟩ := h
  have sz := sizeLine_eq
  have hf := w.few
  simp [W_History_raw_bases, wSeq, wAsg, wgName, wPar, wPar3, wDrop, wRet, wRetN, wIfS, wNext, wTst, wOp, wUn, wFrz, frzD, frzM, wAnd, wOr, wNot, wIf, tAndW, tOrW, tNotW, wChain, wC, wVar, look, wNil, wCons, wTup, wLst, wNewK, wCB, w1, w2, wCall, wMeth, wMake, wIsi, isaQ, tyD, tyM, isaB, blQ, wLen, lenD, lenM, wLe, wLt, wGt, wGe, wAdd, wSub, wMul, wDiv, wMod, wPow, wNeg, wInt2, wInt1, wAbs, wIx, ixL, ixM, ixK, wIn, wNotIn, inD, inM, inK, keyD, wIsN, wNotN, isNonD, wBm, mApp, appM, mPop, popM, mUpd, updM, wDict2, dctM, wgSub, setM, wFld, fldM, wSFld, sfldM, wGet2, wGet1, wEq, wNe, asL, asLM, asK, asKM, asS, sstart, wFor, wgTup, wgCons, wgNil, wTuple, wList, wiL, wiT, wiS, wiK, wiIt, wiR1, wiR2, seqI, seqM, dicI, dicM, wAll, wAny, wLc, wDc, wDisp, wpCons, wpNil, wLock, lockD, lockM, wItems, wDPop, dpopM, isDicM, wSl, slD, slM, wPart, wNoP, wipeS, wNever, retE, -List.lookup_eq_none_iff, H.oh, lkT, lkP, lk1, lk2, lk3, lk4, lk5, lk6, lk7, lk8, lk9, lk10, lk11, -List.lookup_eq_none_iff]
  refine ⟨h, t, p, S, u, rfl, H, w, u0, u1, fun l1 n1 m1 => ?_⟩
  simp [H.oh, lkT, lkP, lk1, lk2, lk3, lk4, lk5, lk6, lk7, lk8, lk9, lk10, lk11, -List.lookup_eq_none_iff, visD_eq]
  refine ⟨h, t, p, S, v, rfl, H, w, v0, v1, fun l2 n2 m2 => ?_⟩
  simp [visD_eq]
  refine sortedK_i (kvs := visK l1) rfl (vis_keys l1) (by have := line_len w u0 u1 n1 m1; omega) fun a ha => ?_
  rw [line_setL w u0 u1 n1 m1]
  simp
  intro c hc
  obtain ⟨hca, hc0⟩ := none_upd hc
  refine lcN_run (f := pickI fun k => S.rc v k) (fun d hd acc R N hh => ?_) (fun acc => by rw [updO_ne hca.symm, updO_same]) (by have := setL_len S.n (S.rc u); simp; omega) ?_
  · obtain ⟨k, hk, rfl⟩ := mem_int hd
    have e := m2 k
    by_cases hkv : S.rc v k = true
    · have : k ∈ l2 := e.mpr hkv
      simpa [wSeq, wAsg, wgName, wPar, wPar3, wDrop, wRet, wRetN, wIfS, wNext, wTst, wOp, wUn, wFrz, frzD, frzM, wAnd, wOr, wNot, wIf, tAndW, tOrW, tNotW, wChain, wC, wVar, look, wNil, wCons, wTup, wLst, wNewK, wCB, w1, w2, wCall, wMeth, wMake, wIsi, isaQ, tyD, tyM, isaB, blQ, wLen, lenD, lenM, wLe, wLt, wGt, wGe, wAdd, wSub, wMul, wDiv, wMod, wPow, wNeg, wInt2, wInt1, wAbs, wIx, ixL, ixM, ixK, wIn, wNotIn, inD, inM, inK, keyD, wIsN, wNotN, isNonD, wBm, mApp, appM, mPop, popM, mUpd, updM, wDict2, dctM, wgSub, setM, wFld, fldM, wSFld, sfldM, wGet2, wGet1, wEq, wNe, asL, asLM, asK, asKM, asS, sstart, wFor, wgTup, wgCons, wgNil, wTuple, wList, wiL, wiT, wiS, wiK, wiIt, wiR1, wiR2, seqI, seqM, dicI, dicM, wSorted, wAll, wAny, wLc, wDc, wDisp, wpCons, wpNil, wLock, lockD, lockM, wItems, wDPop, dpopM, isDicM, wSl, slD, slM, wPart, wNoP, wipeS, wNever, retE, -List.lookup_eq_none_iff, pickI, vis_get, this, hkv] using hh
    · have : k ∉ l2 := fun z => hkv (e.mp z)
      simpa [wSeq, wAsg, wgName, wPar, wPar3, wDrop, wRet, wRetN, wIfS, wNext, wTst, wOp, wUn, wFrz, frzD, frzM, wAnd, wOr, wNot, wIf, tAndW, tOrW, tNotW, wChain, wC, wVar, look, wNil, wCons, wTup, wLst, wNewK, wCB, w1, w2, wCall, wMeth, wMake, wIsi, isaQ, tyD, tyM, isaB, blQ, wLen, lenD, lenM, wLe, wLt, wGt, wGe, wAdd, wSub, wMul, wDiv, wMod, wPow, wNeg, wInt2, wInt1, wAbs, wIx, ixL, ixM, ixK, wIn, wNotIn, inD, inM, inK, keyD, wIsN, wNotN, isNonD, wBm, mApp, appM, mPop, popM, mUpd, updM, wDict2, dctM, wgSub, setM, wFld, fldM, wSFld, sfldM, wGet2, wGet1, wEq, wNe, asL, asLM, asK, asKM, asS, sstart, wFor, wgTup, wgCons, wgNil, wTuple, wList, wiL, wiT, wiS, wiK, wiIt, wiR1, wiR2, seqI, seqM, dicI, dicM, wSorted, wAll, wAny, wLc, wDc, wDisp, wpCons, wpNil, wLock, lockD, lockM, wItems, wDPop, dpopM, isDicM, wSl, slD, slM, wPart, wNoP, wipeS, wNever, retE, -List.lookup_eq_none_iff, pickI, vis_get, this, hkv] using hh
  rw [pick_map, setL_filter, List.nil_append]
  intro d hd
  obtain ⟨hdc, hd'⟩ := none_upd hd
  obtain ⟨hda, hd0⟩ := none_upd hd'
  have hcmn : (setL S.n fun x => S.rc u x && S.rc v x).length ≤ 40 := Nat.le_trans (setL_len _ _) hf
  have hcmb : ∀ x ∈ (setL S.n fun x => S.rc u x && S.rc v x), 0 ≤ x ∧ x < S.n := fun x hx => let q := mem_setL.mp hx; ⟨q.1, q.2.1⟩
  have hbl : basesL S u v = (setL S.n fun x => S.rc u x && S.rc v x).filter fun x => !(setL S.n fun x => S.rc u x && S.rc v x).any fun y => decide (y ≠ x) && S.rc y x := rfl
  generalize (setL S.n fun x => S.rc u x && S.rc v x) = cm at *
  have hcdn : d ≠ c := hdc
  simp [updO_ne hdc.symm]
  refine forN_run (fun r s O' => ∃ (dn pk rs : List Int) (vr ln el : Option D), r = rs.map D.int ∧ dn ++ rs = cm ∧ s = [some (.ref h), some (.int u), some (.int v), some (.dic (visK l1)), some (.dic (visK l2)), some (.ref c), vr, some (.ref d), ln, el] ∧
    Le O O' ∧ O' c = some (.lst (cm.map D.int)) ∧ O' d = some (.dic (visK pk)) ∧ pk.Nodup ∧ (∀ x ∈ pk, 0 ≤ x ∧ x < S.n) ∧ ∀ x, x ∈ pk ↔ ∃ y ∈ dn, y ≠ x ∧ S.rc y x = true) ?_ ?_ ?_
  · rintro e r s O' K hK ⟨dn, pk, rs, vr, ln, el, er, hdn, rfl, hle, oc, od, npk, bpk, mpk⟩
    cases rs with
    | nil => cases er
    | cons k rs =>
      simp only [List.map_cons, List.cons.injEq] at er
      obtain ⟨rfl, rfl⟩ := er
      refine ⟨oc, ?_⟩
      have hk : k ∈ cm := by rw [← hdn]; simp
      obtain ⟨k0, k1⟩ := hcmb k hk
      have H' := H.le hle
      simp [wSeq, wAsg, wgName, wPar, wPar3, wDrop, wRet, wRetN, wIfS, wNext, wTst, wOp, wUn, wFrz, frzD, frzM, wAnd, wOr, wNot, wIf, tAndW, tOrW, tNotW, wChain, wC, wVar, look, wNil, wCons, wTup, wLst, wNewK, wCB, w1, w2, wCall, wMeth, wMake, wIsi, isaQ, tyD, tyM, isaB, blQ, wLen, lenD, lenM, wLe, wLt, wGt, wGe, wAdd, wSub, wMul, wDiv, wMod, wPow, wNeg, wInt2, wInt1, wAbs, wIx, ixL, ixM, ixK, wIn, wNotIn, inD, inM, inK, keyD, wIsN, wNotN, isNonD, wBm, mApp, appM, mPop, popM, mUpd, updM, wDict2, dctM, wgSub, setM, wFld, fldM, wSFld, sfldM, wGet2, wGet1, wEq, wNe, asL, asLM, asK, asKM, asS, sstart, wFor, wgTup, wgCons, wgNil, wTuple, wList, wiL, wiT, wiS, wiK, wiIt, wiR1, wiR2, seqI, seqM, dicI, dicM, wSorted, wAll, wAny, wLc, wDc, wDisp, wpCons, wpNil, wLock, lockD, lockM, wItems, wDPop, dpopM, isDicM, wSl, slD, slM, wPart, wNoP, wipeS, wNever, retE, -List.lookup_eq_none_iff, H'.oh, lkT, lkP, lk1, lk2, lk3, lk4, lk5, lk6, lk7, lk8, lk9, lk10, lk11, -List.lookup_eq_none_iff]
      refine ⟨h, t, p, S, k, rfl, H', w, k0, k1, fun l nl ml => ⟨.dic od, ?_⟩⟩
      rw [visD_eq]
      simp
      intro f hf0
      have hfd : d ≠ f := neO od hf0
      have hfc : c ≠ f := neO oc hf0
      have hf00 : O f = none := by
        cases e : O f with
        | none => rfl
        | some m => rw [hle _ _ e] at hf0; cases hf0
      have ekm : (visK l).map (fun kv => keyE kv.1) = l.map D.int := by simp [visK, keyE]
      rw [ekm]
      have hll := line_len w k0 k1 nl ml
      refine dcN_run (f := pickK fun x => !decide (x = k)) (fun z hz acc R N hh => ?_) (fun acc => trivial) (by simp; omega) ?_
      · obtain ⟨x, hx, rfl⟩ := mem_int hz
        by_cases hxk : x = k
        · subst hxk
          simpa [wSeq, wAsg, wgName, wPar, wPar3, wDrop, wRet, wRetN, wIfS, wNext, wTst, wOp, wUn, wFrz, frzD, frzM, wAnd, wOr, wNot, wIf, tAndW, tOrW, tNotW, wChain, wC, wVar, look, wNil, wCons, wTup, wLst, wNewK, wCB, w1, w2, wCall, wMeth, wMake, wIsi, isaQ, tyD, tyM, isaB, blQ, wLen, lenD, lenM, wLe, wLt, wGt, wGe, wAdd, wSub, wMul, wDiv, wMod, wPow, wNeg, wInt2, wInt1, wAbs, wIx, ixL, ixM, ixK, wIn, wNotIn, inD, inM, inK, keyD, wIsN, wNotN, isNonD, wBm, mApp, appM, mPop, popM, mUpd, updM, wDict2, dctM, wgSub, setM, wFld, fldM, wSFld, sfldM, wGet2, wGet1, wEq, wNe, asL, asLM, asK, asKM, asS, sstart, wFor, wgTup, wgCons, wgNil, wTuple, wList, wiL, wiT, wiS, wiK, wiIt, wiR1, wiR2, seqI, seqM, dicI, dicM, wSorted, wAll, wAny, wLc, wDc, wDisp, wpCons, wpNil, wLock, lockD, lockM, wItems, wDPop, dpopM, isDicM, wSl, slD, slM, wPart, wNoP, wipeS, wNever, retE, -List.lookup_eq_none_iff, pickK, cmp_ii, ne_ii, dp_i, eqv_ii, keyE] using hh
        · simpa [wSeq, wAsg, wgName, wPar, wPar3, wDrop, wRet, wRetN, wIfS, wNext, wTst, wOp, wUn, wFrz, frzD, frzM, wAnd, wOr, wNot, wIf, tAndW, tOrW, tNotW, wChain, wC, wVar, look, wNil, wCons, wTup, wLst, wNewK, wCB, w1, w2, wCall, wMeth, wMake, wIsi, isaQ, tyD, tyM, isaB, blQ, wLen, lenD, lenM, wLe, wLt, wGt, wGe, wAdd, wSub, wMul, wDiv, wMod, wPow, wNeg, wInt2, wInt1, wAbs, wIx, ixL, ixM, ixK, wIn, wNotIn, inD, inM, inK, keyD, wIsN, wNotN, isNonD, wBm, mApp, appM, mPop, popM, mUpd, updM, wDict2, dctM, wgSub, setM, wFld, fldM, wSFld, sfldM, wGet2, wGet1, wEq, wNe, asL, asLM, asK, asKM, asS, sstart, wFor, wgTup, wgCons, wgNil, wTuple, wList, wiL, wiT, wiS, wiK, wiIt, wiR1, wiR2, seqI, seqM, dicI, dicM, wSorted, wAll, wAny, wLc, wDc, wDisp, wpCons, wpNil, wLock, lockD, lockM, wItems, wDPop, dpopM, isDicM, wSl, slD, slM, wPart, wNoP, wipeS, wNever, retE, -List.lookup_eq_none_iff, pickK, cmp_ii, ne_ii, dp_i, eqv_ii, hxk, keyE] using hh
      · rw [pickK_map]
        have e0 : ∀ m : List Int, mergeG [] (visK m) = visK (unionL [] m) := fun m => vis_merge (a := [])
        rw [e0]
        simp [remO_updO hf0, od]
        have np : pk.length ≤ S.n := few_le npk bpk
        have nu : (unionL [] (l.filter fun x => !decide (x = k))).Nodup := nd_unionL (by simp)
        have bu : ∀ x ∈ unionL [] (l.filter fun x => !decide (x = k)), 0 ≤ x ∧ x < S.n := fun x hx => by
          have := (mem_unionL.mp hx).resolve_left (by simp)
          have := rc_le w k0 k1 ((ml x).mp (List.mem_filter.mp this).1)
          omega
        have nul := few_le nu bu
        refine ⟨by rw [vis_len, vis_len]; omega, ?_⟩
        rw [vis_merge]
        refine hK _ _ ⟨dn ++ [k], unionL pk (unionL [] (l.filter fun x => !decide (x = k))), rs, _, _, _, rfl, by rw [← hdn]; simp, rfl, hle.upd hd0, by rw [updO_ne hcdn.symm, oc], updO_same, nd_unionL npk, fun x hx => ?_, fun x => ?_⟩
        · exact (mem_unionL.mp hx).elim (bpk x) (bu x)
        · rw [mem_unionL, mpk, mem_unionL]
          simp only [List.not_mem_nil, false_or, List.mem_filter, ml, List.mem_append, List.mem_singleton]
          constructor
          · rintro (⟨y, hy, q⟩ | ⟨q1, q2⟩)
            · exact ⟨y, .inl hy, q⟩
            · exact ⟨k, .inr rfl, fun e => by simp [e] at q2, q1⟩
          · rintro ⟨y, hy | rfl, q1, q2⟩
            · exact .inl ⟨y, hy, q1, q2⟩
            · exact .inr ⟨q2, by simp [Ne.symm q1]⟩
  · rintro s O' ⟨dn, pk, rs, vr, ln, el, er, hdn, rfl, hle, oc, od, npk, bpk, mpk⟩
    cases rs with
    | cons k rs => cases er
    | nil =>
      refine ⟨oc, ?_⟩
      rw [List.append_nil] at hdn
      subst hdn
      simp [wSeq, wAsg, wgName, wPar, wPar3, wDrop, wRet, wRetN, wIfS, wNext, wTst, wOp, wUn, wFrz, frzD, frzM, wAnd, wOr, wNot, wIf, tAndW, tOrW, tNotW, wChain, wC, wVar, look, wNil, wCons, wTup, wLst, wNewK, wCB, w1, w2, wCall, wMeth, wMake, wIsi, isaQ, tyD, tyM, isaB, blQ, wLen, lenD, lenM, wLe, wLt, wGt, wGe, wAdd, wSub, wMul, wDiv, wMod, wPow, wNeg, wInt2, wInt1, wAbs, wIx, ixL, ixM, ixK, wIn, wNotIn, inD, inM, inK, keyD, wIsN, wNotN, isNonD, wBm, mApp, appM, mPop, popM, mUpd, updM, wDict2, dctM, wgSub, setM, wFld, fldM, wSFld, sfldM, wGet2, wGet1, wEq, wNe, asL, asLM, asK, asKM, asS, sstart, wFor, wgTup, wgCons, wgNil, wTuple, wList, wiL, wiT, wiS, wiK, wiIt, wiR1, wiR2, seqI, seqM, dicI, dicM, wSorted, wAll, wAny, wLc, wDc, wDisp, wpCons, wpNil, wLock, lockD, lockM, wItems, wDPop, dpopM, isDicM, wSl, slD, slM, wPart, wNoP, wipeS, wNever, retE, -List.lookup_eq_none_iff, oc]
      intro f hf0
      have hfd : d ≠ f := neO od hf0
      have hfc : c ≠ f := neO oc hf0
      have hf00 : O f = none := by
        cases e : O f with
        | none => rfl
        | some m => rw [hle _ _ e] at hf0; cases hf0
      refine lcN_run (f := pickI fun x => !decide (x ∈ pk)) (fun z hz acc R N hh => ?_) (fun acc => by rw [updO_ne hfc, oc]) (by simp; omega) ?_
      · obtain ⟨x, hx, rfl⟩ := mem_int hz
        by_cases hxp : x ∈ pk
        · simpa [wSeq, wAsg, wgName, wPar, wPar3, wDrop, wRet, wRetN, wIfS, wNext, wTst, wOp, wUn, wFrz, frzD, frzM, wAnd, wOr, wNot, wIf, tAndW, tOrW, tNotW, wChain, wC, wVar, look, wNil, wCons, wTup, wLst, wNewK, wCB, w1, w2, wCall, wMeth, wMake, wIsi, isaQ, tyD, tyM, isaB, blQ, wLen, lenD, lenM, wLe, wLt, wGt, wGe, wAdd, wSub, wMul, wDiv, wMod, wPow, wNeg, wInt2, wInt1, wAbs, wIx, ixL, ixM, ixK, wIn, wNotIn, inD, inM, inK, keyD, wIsN, wNotN, isNonD, wBm, mApp, appM, mPop, popM, mUpd, updM, wDict2, dctM, wgSub, setM, wFld, fldM, wSFld, sfldM, wGet2, wGet1, wEq, wNe, asL, asLM, asK, asKM, asS, sstart, wFor, wgTup, wgCons, wgNil, wTuple, wList, wiL, wiT, wiS, wiK, wiIt, wiR1, wiR2, seqI, seqM, dicI, dicM, wSorted, wAll, wAny, wLc, wDc, wDisp, wpCons, wpNil, wLock, lockD, lockM, wItems, wDPop, dpopM, isDicM, wSl, slD, slM, wPart, wNoP, wipeS, wNever, retE, -List.lookup_eq_none_iff, pickI, updO_ne hfd, od, vis_get, hxp] using hh
        · simpa [wSeq, wAsg, wgName, wPar, wPar3, wDrop, wRet, wRetN, wIfS, wNext, wTst, wOp, wUn, wFrz, frzD, frzM, wAnd, wOr, wNot, wIf, tAndW, tOrW, tNotW, wChain, wC, wVar, look, wNil, wCons, wTup, wLst, wNewK, wCB, w1, w2, wCall, wMeth, wMake, wIsi, isaQ, tyD, tyM, isaB, blQ, wLen, lenD, lenM, wLe, wLt, wGt, wGe, wAdd, wSub, wMul, wDiv, wMod, wPow, wNeg, wInt2, wInt1, wAbs, wIx, ixL, ixM, ixK, wIn, wNotIn, inD, inM, inK, keyD, wIsN, wNotN, isNonD, wBm, mApp, appM, mPop, popM, mUpd, updM, wDict2, dctM, wgSub, setM, wFld, fldM, wSFld, sfldM, wGet2, wGet1, wEq, wNe, asL, asLM, asK, asKM, asS, sstart, wFor, wgTup, wgCons, wgNil, wTuple, wList, wiL, wiT, wiS, wiK, wiIt, wiR1, wiR2, seqI, seqM, dicI, dicM, wSorted, wAll, wAny, wLc, wDc, wDisp, wpCons, wpNil, wLock, lockD, lockM, wItems, wDPop, dpopM, isDicM, wSl, slD, slM, wPart, wNoP, wipeS, wNever, retE, -List.lookup_eq_none_iff, pickI, updO_ne hfd, od, vis_get, hxp] using hh
      · rw [pick_map, List.nil_append]
        simp
        rw [hbl] at q
        have e1 : (dn.filter fun x => !decide (x ∈ pk)) = dn.filter fun x => !dn.any fun y => decide (y ≠ x) && S.rc y x := by
          refine List.filter_congr fun x _ => ?_
          congr 1
          rw [Bool.eq_iff_iff]
          simp only [decide_eq_true_eq, mpk, List.any_eq_true, Bool.and_eq_true]
        rw [e1]
        exact retL ((hle.upd hf00).rem hf00) q
  · exact ⟨[], [], cm, _, _, _, rfl, rfl, rfl, (((Le.refl O).upd ha).upd hc0).upd hd0, by rw [updO_ne hdc.symm, updO_same], updO_same, .nil, by simp, by simp⟩
theorem law_History_merge (h : S_History_merge CS ds O Q) : W_History_merge CS (retE Q) (sstart N_History_merge ds) O := by
  obtain ⟨h, t, p, S, u, v, rfl, H, w, u0, u1, v0, v1, q⟩ := h
  have sz := sizeLine_eq
  have hf := w.few
  obtain ⟨tu, etu, oku⟩ := w.tabAt u0 u1
  obtain ⟨tv, etv, okv⟩ := w.tabAt v0 v1
  have eS : putH O t p S = O := by
    funext b
    unfold putH
    by_cases b1 : b = p
    · subst b1; rw [updO_same, H.op]
    · rw [updO_ne b1]
      by_cases b2 : b = t
      · subst b2; rw [updO_same, H.ot]
      · rw [updO_ne b2]
  simp [W_History_merge, wSeq, wgName, wPar, wPar3, wDrop, wRetN, wNext, wTst, wOp, wUn, wFrz, frzD, frzM, wAnd, wOr, wNot, wIf, tAndW, tOrW, tNotW, wChain, wC, wVar, look, wNil, wCons, wTup, wLst, wNewK, wCB, w1, w2, wCall, wMeth, wMake, wIsi, isaQ, tyD, tyM, isaB, blQ, wLen, lenD, lenM, wLe, wLt, wGt, wGe, wAdd, wSub, wMul, wDiv, wMod, wPow, wNeg, wInt2, wInt1, wAbs, wIx, ixL, ixM, ixK, wIn, wNotIn, inD, inM, inK, keyD, wIsN, wNotN, isNonD, wBm, mApp, appM, mPop, popM, mUpd, updM, wDict2, dctM, wgSub, setM, wFld, fldM, wSFld, sfldM, wGet2, wGet1, wEq, wNe, asL, asLM, asK, asKM, asS, sstart, wFor, wgTup, wgCons, wgNil, wTuple, wList, wiL, wiT, wiS, wiK, wiIt, wiR1, wiR2, seqI, seqM, dicI, dicM, wSorted, wAll, wAny, wLc, wDc, wDisp, wpCons, wpNil, wLock, lockD, lockM, wItems, wDPop, dpopM, isDicM, wSl, slD, slM, wPart, wNoP, wipeS, wNever, retE, -List.lookup_eq_none_iff, S_History_check_version, H.oh, lkT, lkP, lk1, lk2, lk3, lk4, lk5, lk6, lk7, lk8, lk9, lk10, lk11, -List.lookup_eq_none_iff]
  refine ⟨h, t, p, S, u, ⟨rfl, rfl⟩, H, w, u0, u1, h, t, p, S, v, ⟨rfl, rfl⟩, H, w, v0, v1, ?_⟩
  simp [wSeq, wgName, wPar, wPar3, wDrop, wRetN, wIfS, wNext, wTst, wOp, wUn, wFrz, frzD, frzM, wAnd, wOr, wNot, wIf, tAndW, tOrW, tNotW, wChain, wC, wVar, look, wNil, wCons, wTup, wLst, wNewK, wCB, w1, w2, wCall, wMeth, wMake, wIsi, isaQ, tyD, tyM, isaB, blQ, wLen, lenD, lenM, wLe, wLt, wGt, wGe, wAdd, wSub, wMul, wDiv, wMod, wPow, wNeg, wInt2, wInt1, wAbs, wIx, ixL, ixM, ixK, wIn, wNotIn, inD, inM, inK, keyD, wIsN, wNotN, isNonD, wBm, mApp, appM, mPop, popM, mUpd, updM, wDict2, dctM, wgSub, setM, wFld, fldM, wSFld, sfldM, wGet2, wGet1, wEq, wNe, asL, asLM, asK, asKM, asS, sstart, wFor, wgTup, wgCons, wgNil, wTuple, wList, wiL, wiT, wiS, wiK, wiIt, wiR1, wiR2, seqI, seqM, dicI, dicM, wSorted, wAll, wAny, wLc, wDc, wDisp, wpCons, wpNil, wLock, lockD, lockM, wItems, wDPop, dpopM, isDicM, wSl, slD, slM, wPart, wNoP, wipeS, wNever, retE, -List.lookup_eq_none_iff, H.oh, lkT, lkP, lk1, lk2, lk3, lk4, lk5, lk6, lk7, lk8, lk9, lk10, lk11, -List.lookup_eq_none_iff]
  refine ⟨h, t, p, S, v, rfl, H, w, v0, v1, fun l1 n1 m1 => ?_⟩
  unfold mrgS at q
  by_cases h1 : S.rc v u = true
  · have : u ∈ l1 := (m1 u).mpr h1
    rw [if_pos h1, eS] at q
    simp [visD_eq, vis_get, this, wSeq, wgName, wPar, wPar3, wDrop, wRet, wRetN, wIfS, wNext, wTst, wOp, wUn, wFrz, frzD, frzM, wAnd, wOr, wNot, wIf, tAndW, tOrW, tNotW, wChain, wC, wVar, look, wNil, wCons, wTup, wLst, wNewK, wCB, w1, w2, wCall, wMeth, wMake, wIsi, isaQ, tyD, tyM, isaB, blQ, wLen, lenD, lenM, wLe, wLt, wGt, wGe, wAdd, wSub, wMul, wDiv, wMod, wPow, wNeg, wInt2, wInt1, wAbs, wIx, ixL, ixM, ixK, wIn, wNotIn, inD, inM, inK, keyD, wIsN, wNotN, isNonD, wBm, mApp, appM, mPop, popM, mUpd, updM, wDict2, dctM, wgSub, setM, wFld, fldM, wSFld, sfldM, wGet2, wGet1, wEq, wNe, asL, asLM, asK, asKM, asS, sstart, wFor, wgTup, wgCons, wgNil, wTuple, wList, wiL, wiT, wiS, wiK, wiIt, wiR1, wiR2, seqI, seqM, dicI, dicM, wSorted, wAll, wAny, wLc, wDc, wDisp, wpCons, wpNil, wLock, lockD, lockM, wItems, wDPop, dpopM, isDicM, wSl, slD, slM, wPart, wNoP, wipeS, wNever, retE, -List.lookup_eq_none_iff]
    exact ret0 q
  have h1' : u ∉ l1 := fun z => h1 ((m1 u).mp z)
  rw [if_neg h1] at q
  simp [visD_eq, vis_get, h1', wSeq, wgName, wPar, wPar3, wDrop, wRetN, wIfS, wNext, wTst, wOp, wUn, wFrz, frzD, frzM, wAnd, wOr, wNot, wIf, tAndW, tOrW, tNotW, wChain, wC, wVar, look, wNil, wCons, wTup, wLst, wNewK, wCB, w1, w2, wCall, wMeth, wMake, wIsi, isaQ, tyD, tyM, isaB, blQ, wLen, lenD, lenM, wLe, wLt, wGt, wGe, wAdd, wSub, wMul, wDiv, wMod, wPow, wNeg, wInt2, wInt1, wAbs, wIx, ixL, ixM, ixK, wIn, wNotIn, inD, inM, inK, keyD, wIsN, wNotN, isNonD, wBm, mApp, appM, mPop, popM, mUpd, updM, wDict2, dctM, wgSub, setM, wFld, fldM, wSFld, sfldM, wGet2, wGet1, wEq, wNe, asL, asLM, asK, asKM, asS, sstart, wFor, wgTup, wgCons, wgNil, wTuple, wList, wiL, wiT, wiS, wiK, wiIt, wiR1, wiR2, seqI, seqM, dicI, dicM, wSorted, wAll, wAny, wLc, wDc, wDisp, wpCons, wpNil, wLock, lockD, lockM, wItems, wDPop, dpopM, isDicM, wSl, slD, slM, wPart, wNoP, wipeS, wNever, retE, -List.lookup_eq_none_iff, H.oh, lkT, lkP, lk1, lk2, lk3, lk4, lk5, lk6, lk7, lk8, lk9, lk10, lk11, -List.lookup_eq_none_iff]
  refine ⟨h, t, p, S, u, rfl, H, w, u0, u1, fun l2 n2 m2 => ?_⟩
  by_cases h2 : S.rc u v = true
  · have : v ∈ l2 := (m2 v).mpr h2
    rw [if_pos h2, eS] at q
    simp [visD_eq, vis_get, this, wSeq, wgName, wPar, wPar3, wDrop, wRet, wRetN, wIfS, wNext, wTst, wOp, wUn, wFrz, frzD, frzM, wAnd, wOr, wNot, wIf, tAndW, tOrW, tNotW, wChain, wC, wVar, look, wNil, wCons, wTup, wLst, wNewK, wCB, w1, w2, wCall, wMeth, wMake, wIsi, isaQ, tyD, tyM, isaB, blQ, wLen, lenD, lenM, wLe, wLt, wGt, wGe, wAdd, wSub, wMul, wDiv, wMod, wPow, wNeg, wInt2, wInt1, wAbs, wIx, ixL, ixM, ixK, wIn, wNotIn, inD, inM, inK, keyD, wIsN, wNotN, isNonD, wBm, mApp, appM, mPop, popM, mUpd, updM, wDict2, dctM, wgSub, setM, wFld, fldM, wSFld, sfldM, wGet2, wGet1, wEq, wNe, asL, asLM, asK, asKM, asS, sstart, wFor, wgTup, wgCons, wgNil, wTuple, wList, wiL, wiT, wiS, wiK, wiIt, wiR1, wiR2, seqI, seqM, dicI, dicM, wSorted, wAll, wAny, wLc, wDc, wDisp, wpCons, wpNil, wLock, lockD, lockM, wItems, wDPop, dpopM, isDicM, wSl, slD, slM, wPart, wNoP, wipeS, wNever, retE, -List.lookup_eq_none_iff]
    exact ret0 q
  have h2' : v ∉ l2 := fun z => h2 ((m2 v).mp z)
  rw [if_neg h2] at q
  obtain ⟨b, r, eb⟩ := bases_ne w u0 u1 v0 v1
  obtain ⟨b0, b1⟩ := bases_sub (S := S) (u := u) (v := v) (x := b) (by rw [eb]; simp)
  obtain ⟨tb, etb, okb⟩ := w.tabAt b0 b1
  have q := q b tb tu tv (by rw [eb]; rfl) etb etu etv
  have ab : atI (tabsD S) b = some (.dic tb) := at_nat b0 (by simp [tabsD, etb])
  have au : atI (tabsD S) u = some (.dic tu) := at_nat u0 (by simp [tabsD, etu])
  have av : atI (tabsD S) v = some (.dic tv) := at_nat v0 (by simp [tabsD, etv])
  simp [visD_eq, vis_get, h2']
  simp only [wAsg]
  simp [wSeq, wgName, wPar, wPar3, wDrop, wRetN, wIfS, wNext, wTst, wOp, wUn, wFrz, frzD, frzM, wAnd, wOr, wNot, wIf, tAndW, tOrW, tNotW, wChain, wC, wVar, look, wNil, wCons, wTup, wLst, wNewK, wCB, w1, w2, wCall, wMeth, wMake, wIsi, isaQ, tyD, tyM, isaB, blQ, wLen, lenD, lenM, wLe, wLt, wGt, wGe, wAdd, wSub, wMul, wDiv, wMod, wPow, wNeg, wInt2, wInt1, wAbs, ixL, ixM, ixK, wIn, wNotIn, inD, inM, inK, keyD, wIsN, wNotN, isNonD, wBm, mApp, appM, mPop, popM, mUpd, updM, wDict2, dctM, wgSub, setM, wFld, fldM, wSFld, sfldM, wGet2, wGet1, wEq, wNe, asL, asLM, asK, asKM, asS, sstart, wFor, wgTup, wgCons, wgNil, wTuple, wList, wiL, wiT, wiS, wiK, wiIt, wiR1, wiR2, seqI, seqM, dicI, dicM, wSorted, wAll, wAny, wLc, wDc, wDisp, wpCons, wpNil, wLock, lockD, lockM, wItems, wDPop, dpopM, isDicM, wSl, slD, slM, wPart, wNoP, wipeS, wNever, retE, -List.lookup_eq_none_iff, H.oh, lkT, lkP, lk1, lk2, lk3, lk4, lk5, lk6, lk7, lk8, lk9, lk10, lk11, -List.lookup_eq_none_iff]
  refine ⟨h, t, p, S, u, v, rfl, H, w, u0, u1, v0, v1, ?_⟩
  simp [wSeq, wgName, wPar, wPar3, wDrop, wRetN, wIfS, wNext, wTst, wOp, wUn, wFrz, frzD, frzM, wAnd, wOr, wNot, wIf, tAndW, tOrW, tNotW, wChain, wC, wVar, look, wNil, wCons, wTup, wLst, wNewK, wCB, w1, w2, wMeth, wMake, wIsi, isaQ, tyD, tyM, isaB, blQ, wLen, lenD, lenM, wLe, wLt, wGt, wGe, wAdd, wSub, wMul, wDiv, wMod, wPow, wNeg, wInt2, wInt1, wAbs, wIx, ixL, ixM, ixK, wIn, wNotIn, inD, inM, inK, keyD, wIsN, wNotN, isNonD, wBm, mApp, appM, mPop, popM, mUpd, updM, wDict2, dctM, wgSub, setM, wFld, fldM, wSFld, sfldM, wGet2, wGet1, wEq, wNe, asL, asLM, asK, asKM, asS, sstart, wFor, wgCons, wgNil, wTuple, wList, wiL, wiT, wiS, wiK, wiIt, wiR1, wiR2, seqI, seqM, dicI, dicM, wSorted, wAll, wAny, wLc, wDc, wDisp, wpCons, wpNil, wLock, lockD, lockM, wItems, wDPop, dpopM, isDicM, wSl, slD, slM, wPart, wNoP, wipeS, wNever, retE, -List.lookup_eq_none_iff, eb, at0]
  simp [wSeq, wAsg, wgName, wPar, wPar3, wDrop, wRetN, wIfS, wNext, wTst, wOp, wUn, wFrz, frzD, frzM, wAnd, wOr, wNot, wIf, tAndW, tOrW, tNotW, wChain, wC, wVar, look, wNil, wCons, wTup, wLst, wNewK, wCB, w1, w2, wCall, wMeth, wMake, wIsi, isaQ, tyD, tyM, isaB, blQ, wLen, lenD, lenM, wLe, wLt, wGt, wGe, wAdd, wSub, wMul, wDiv, wMod, wPow, wNeg, wInt2, wInt1, wAbs, wIx, ixL, ixM, ixK, wIn, wNotIn, inD, inM, inK, keyD, wIsN, wNotN, isNonD, wBm, mApp, appM, mPop, popM, mUpd, updM, wDict2, dctM, wgSub, setM, wFld, fldM, wSFld, sfldM, wGet2, wGet1, wEq, wNe, asL, asLM, asK, asKM, asS, sstart, wFor, wgCons, wgNil, wTuple, wList, wiL, wiT, wiS, wiK, wiIt, wiR1, wiR2, seqI, seqM, dicI, dicM, wSorted, wAll, wAny, wLc, wDc, wDisp, wpCons, wpNil, wLock, lockD, lockM, wItems, wDPop, dpopM, isDicM, wSl, slD, slM, wPart, wNoP, wipeS, wNever, retE, -List.lookup_eq_none_iff, H.oh, lkT, lkP, lk1, lk2, lk3, lk4, lk5, lk6, lk7, lk8, lk9, lk10, lk11, -List.lookup_eq_none_iff, H.ot, ab, au, av]
  refine ⟨tb, tu, tv, rfl, okb, oku, okv, ?_⟩
  simp [mrgD, wSeq, wAsg, wgName, wPar, wPar3, wDrop, wRet, wRetN, wIfS, wNext, wTst, wOp, wUn, wFrz, frzD, frzM, wAnd, wOr, wNot, wIf, tAndW, tOrW, tNotW, wChain, wC, wVar, look, wNil, wCons, wTup, wLst, wNewK, wCB, w1, w2, wCall, wMeth, wMake, wIsi, isaQ, tyD, tyM, isaB, blQ, wLen, lenD, lenM, wLe, wLt, wGt, wGe, wAdd, wSub, wMul, wDiv, wMod, wPow, wNeg, wInt2, wInt1, wAbs, wIx, ixL, ixM, ixK, wIn, wNotIn, inD, inM, inK, keyD, wIsN, wNotN, isNonD, wBm, mApp, appM, mPop, popM, mUpd, updM, wDict2, dctM, wgSub, setM, wFld, fldM, wSFld, sfldM, wGet2, wGet1, wEq, wNe, asL, asLM, asK, asKM, asS, sstart, wFor, wgTup, wgCons, wgNil, wTuple, wList, wiL, wiT, wiS, wiK, wiIt, wiR1, wiR2, seqI, seqM, dicI, dicM, wSorted, wAll, wAny, wLc, wDc, wDisp, wpCons, wpNil, wLock, lockD, lockM, wItems, wDPop, dpopM, isDicM, wSl, slD, slM, wPart, wNoP, wipeS, wNever, retE, -List.lookup_eq_none_iff, H.oh, lkT, lkP, lk1, lk2, lk3, lk4, lk5, lk6, lk7, lk8, lk9, lk10, lk11, -List.lookup_eq_none_iff]
  refine ⟨h, t, p, S, .dic (mrg tb tu tv).1, (mrg tb tu tv).1, [u, v], rfl, H, w, rfl, ?_⟩
  exact ret0 q
end KH

set_option Elab.async false
set_option linter.all false
set_option maxRecDepth 100000
/-! KH: the law's own lines and bases -/
namespace KH
open PySem PySem.Spec PyProof.Rows L2 TD
variable {CS : CSt} {ds : List D} {O : OO} {Q : D → OO → Prop}
theorem line_at {S : Hist} (w : Wf S) {v : Int} (h0 : 0 ≤ v) (h1 : v < S.n) : ∃ tb ps, S.tabs[v.toNat]? = some tb ∧ TabOK tb ∧ S.pars[v.toNat]? = some ps ∧ atI (linesD S) v = some (lineD tb ps) := by
  obtain ⟨tb, e1, ok⟩ := w.tabAt h0 h1
  obtain ⟨ps, e2⟩ := w.parAt h0 h1
  refine ⟨tb, ps, e1, ok, e2, at_nat h0 ?_⟩
  unfold linesD
  rw [List.getElem?_zipWith, e1, e2]
theorem law_law_elders (h : S_law_elders CS ds O Q) : W_law_elders CS (retE Q) (sstart N_law_elders ds) O := by
  obtain ⟨ln, S, v, rfl, hln, w, h0, h1, q⟩ := h
  have hf := w.few
  have sz := sizeLine_eq
  simp [W_law_elders, wSeq, wAsg, wgName, wPar, wPar3, wDrop, wRet, wRetN, wIfS, wNext, wTst, wOp, wUn, wFrz, frzD, frzM, wAnd, wOr, wNot, wIf, tAndW, tOrW, tNotW, wChain, wC, wVar, look, wNil, wCons, wTup, wLst, wNewK, wCB, w1, w2, wCall, wMeth, wMake, wIsi, isaQ, tyD, tyM, isaB, blQ, wLen, lenD, lenM, wLe, wLt, wGt, wGe, wAdd, wSub, wMul, wDiv, wMod, wPow, wNeg, wInt2, wInt1, wAbs, wIx, ixL, ixM, ixK, wIn, wNotIn, inD, inM, inK, keyD, wIsN, wNotN, isNonD, wBm, mApp, appM, mPop, popM, mUpd, updM, wDict2, dctM, wgSub, setM, wFld, fldM, wSFld, sfldM, wGet2, wGet1, wEq, wNe, asL, asLM, asK, asKM, asS, sstart, wFor, wgTup, wgCons, wgNil, wTuple, wList, wiL, wiT, wiS, wiK, wiIt, wiR1, wiR2, seqI, seqM, dicI, dicM, wSorted, wAll, wAny, wLc, wDc, wDisp, wpCons, wpNil, wLock, lockD, lockM, wItems, wDPop, dpopM, isDicM, wSl, slD, slM, wPart, wNoP, wipeS, wNever, retE, -List.lookup_eq_none_iff]
  intro f hf0 wt hw0
  obtain ⟨hwf, hw⟩ := none_upd hw0
  refine while_run (fun m s O' => ∃ (wa : Addr) (l wl : List Int) (pr : Option D), s = [some (.ref ln), some (.int v), some (.ref f), some (.ref wa), pr] ∧ Le O O' ∧ O wa = none ∧ wa ≠ f ∧ O' f = some (.dic (visK l)) ∧ O' wa = some (.lst (wl.map D.int)) ∧ l.Nodup ∧
    (∀ x ∈ l, S.rc v x = true) ∧ (∀ x ∈ wl, S.rc v x = true) ∧ (v ∈ l ∨ v ∈ wl) ∧ (∀ x ∈ l, ∀ y ∈ S.pars[x.toNat]?.getD [], y ∈ l ∨ y ∈ wl) ∧ 3 * (S.n - l.length) + wl.length ≤ 3 * S.n + 1 ∧ m = 3 * (S.n - l.length) + wl.length) ?_
    ⟨wt, [], [v], none, rfl, ((Le.refl O).upd hf0).upd hw, hw, hwf, by rw [updO_ne hwf.symm, updO_same]; rfl, updO_same, .nil, by simp, ?_, by simp, by simp, by simp, rfl⟩
  · rintro m s O' K hK ⟨wa, l, wl, pr, rfl, hle, hwa, hwf, of, ow, hnd, hrc, hrw, hv, hcl, hmb, rfl⟩
    have hbd : ∀ x ∈ l, 0 ≤ x ∧ x < S.n := fun x hx => by
      have := rc_le w h0 h1 (hrc x hx)
      omega
    have hlen := few_le hnd hbd
    rcases List.eq_nil_or_concat wl with hwl | ⟨wi, a, hwl⟩
    · subst hwl
      simp [wSeq, wAsg, wgName, wPar, wPar3, wDrop, wRet, wRetN, wIfS, wNext, wTst, wOp, wUn, wFrz, frzD, frzM, wAnd, wOr, wNot, wIf, tAndW, tOrW, tNotW, wChain, wC, wVar, look, wNil, wCons, wTup, wLst, wNewK, wCB, w1, w2, wCall, wMeth, wMake, wIsi, isaQ, tyD, tyM, isaB, blQ, wLen, lenD, lenM, wLe, wLt, wGt, wGe, wAdd, wSub, wMul, wDiv, wMod, wPow, wNeg, wInt2, wInt1, wAbs, wIx, ixL, ixM, ixK, wIn, wNotIn, inD, inM, inK, keyD, wIsN, wNotN, isNonD, wBm, mApp, appM, mPop, popM, mUpd, updM, wDict2, dctM, wgSub, setM, wFld, fldM, wSFld, sfldM, wGet2, wGet1, wEq, wNe, asL, asLM, asK, asKM, asS, sstart, wFor, wgTup, wgCons, wgNil, wTuple, wList, wiL, wiT, wiS, wiK, wiIt, wiR1, wiR2, seqI, seqM, dicI, dicM, wSorted, wAll, wAny, wLc, wDc, wDisp, wpCons, wpNil, wLock, lockD, lockM, wItems, wDPop, dpopM, isDicM, wSl, slD, slM, wPart, wNoP, wipeS, wNever, retE, -List.lookup_eq_none_iff, ow, of]
      refine retL (hle.rem hf0) (q l hnd fun x => ⟨hrc x, fun hx => rc_closed w (fun x hx y hy => (hcl x hx y hy).resolve_right (by simp)) h0 h1 (hv.resolve_right (by simp)) hx⟩)
    · have hwl : wl = wi ++ [a] := by simpa using hwl
      subst hwl
      have hra : S.rc v a = true := hrw a (by simp)
      have hab := rc_le w h0 h1 hra
      have ha1 : a < S.n := by omega
      obtain ⟨tb, ps, e1, ok, e2, eL⟩ := line_at w hab.1 ha1
      have hps' : S.pars[a.toNat]?.getD [] = ps := by rw [e2]; rfl
      have hlt : (0 : Int) < (wi.length : Int) + 1 := by omega
      have hlw : ln ≠ wa := neO hln hwa
      have hlf : ln ≠ f := neO hln hf0
      have hln' := hle _ _ hln
      simp at hmb
      simp [wSeq, wgName, wPar, wPar3, wDrop, wRet, wRetN, wIfS, wNext, wTst, wOp, wUn, wFrz, frzD, frzM, wAnd, wOr, wNot, wIf, tAndW, tOrW, tNotW, wChain, wC, wVar, look, wNil, wCons, wTup, wLst, wNewK, wCB, w1, w2, wCall, wMeth, wMake, wIsi, isaQ, tyD, tyM, isaB, blQ, wLen, lenD, lenM, wLe, wLt, wGt, wGe, wSub, wMul, wDiv, wMod, wPow, wNeg, wInt2, wInt1, wAbs, wIx, ixL, ixM, ixK, wIn, wNotIn, inD, inM, inK, keyD, wIsN, wNotN, isNonD, wBm, mApp, appM, mPop, popM, mUpd, updM, wDict2, dctM, wgSub, setM, wFld, fldM, wSFld, sfldM, wGet2, wGet1, wEq, wNe, asL, asLM, asK, asKM, asS, sstart, wFor, wgTup, wgCons, wgNil, wTuple, wList, wiL, wiT, wiS, wiK, wiIt, wiR1, wiR2, seqI, seqM, dicI, dicM, wSorted, wAll, wAny, wLc, wDc, wDisp, wpCons, wpNil, wLock, lockD, lockM, wItems, wDPop, dpopM, isDicM, wSl, slD, slM, wPart, wNoP, wipeS, wNever, retE, -List.lookup_eq_none_iff, ow, hlt]
      simp [wSeq, wAsg, wgName, wPar, wPar3, wDrop, wRet, wRetN, wNext, wTst, wOp, wUn, wFrz, frzD, frzM, wAnd, wOr, wNot, wIf, tAndW, tOrW, tNotW, wChain, wC, wVar, look, wNil, wCons, wTup, wLst, wNewK, wCB, w1, w2, wCall, wMeth, wMake, wIsi, isaQ, tyD, tyM, isaB, blQ, wLen, lenD, lenM, wLe, wLt, wGt, wGe, wSub, wMul, wDiv, wMod, wPow, wNeg, wInt2, wInt1, wAbs, wIx, ixL, ixM, ixK, wIn, wNotIn, inD, inM, inK, keyD, wIsN, wNotN, isNonD, wBm, mApp, appM, mPop, popM, mUpd, updM, wDict2, dctM, wgSub, setM, wFld, fldM, wSFld, sfldM, wGet2, wGet1, wEq, wNe, asL, asLM, asK, asKM, asS, sstart, wFor, wgTup, wgCons, wgNil, wTuple, wList, wiL, wiT, wiS, wiK, wiIt, wiR1, wiR2, seqI, seqM, dicI, dicM, wSorted, wAll, wAny, wLc, wDc, wDisp, wpCons, wpNil, wLock, lockD, lockM, wItems, wDPop, dpopM, isDicM, wSl, slD, slM, wPart, wNoP, wipeS, wNever, retE, -List.lookup_eq_none_iff, ow]
      refine ⟨tv_ref ow, ?_⟩
      by_cases hal : a ∈ l
      · simp [wSeq, wAsg, wgName, wPar, wPar3, wDrop, wRet, wRetN, wIfS, wNext, wTst, wOp, wUn, wFrz, frzD, frzM, wAnd, wOr, wNot, wIf, tAndW, tOrW, tNotW, wChain, wC, wVar, look, wNil, wCons, wTup, wLst, wNewK, wCB, w1, w2, wCall, wMeth, wMake, wIsi, isaQ, tyD, tyM, isaB, blQ, wLen, lenD, lenM, wLe, wLt, wGt, wGe, wSub, wMul, wDiv, wMod, wPow, wNeg, wInt2, wInt1, wAbs, wIx, ixL, ixM, ixK, wIn, wNotIn, inD, inM, inK, keyD, wIsN, wNotN, isNonD, wBm, mApp, appM, mPop, popM, mUpd, updM, wDict2, dctM, wgSub, setM, wFld, fldM, wSFld, sfldM, wGet2, wGet1, wEq, wNe, asL, asLM, asK, asKM, asS, sstart, wFor, wgTup, wgCons, wgNil, wTuple, wList, wiL, wiT, wiS, wiK, wiIt, wiR1, wiR2, seqI, seqM, dicI, dicM, wSorted, wAll, wAny, wLc, wDc, wDisp, wpCons, wpNil, wLock, lockD, lockM, wItems, wDPop, dpopM, isDicM, wSl, slD, slM, wPart, wNoP, wipeS, wNever, retE, -List.lookup_eq_none_iff, updO_ne hwf.symm, of, vis_get, hal]
        refine hK _ _ _ ?_ ⟨wa, l, wi, _, rfl, hle.upd hwa, hwa, hwf, by rw [updO_ne hwf.symm, of], by simp, hnd, hrc, fun x hx => hrw x (by simp [hx]), ?_, fun x hx y hy => ?_, by omega, rfl⟩
        · simp
        · rcases hv with hv | hv
          · exact .inl hv
          · rcases List.mem_append.mp hv with hv | hv
            · exact .inr hv
            · rw [List.mem_singleton.mp hv]; exact .inl hal
        · rcases hcl x hx y hy with hy | hy
          · exact .inl hy
          · rcases List.mem_append.mp hy with hy | hy
            · exact .inr hy
            · rw [List.mem_singleton.mp hy]; exact .inl hal
      · have nd3 : (l ++ [a]).Nodup := by
          rw [List.nodup_append]
          exact ⟨hnd, by simp, fun x hx z hz e => by simp at hz; subst hz; subst e; exact hal hx⟩
        have rc3 : ∀ x ∈ l ++ [a], S.rc v x = true := fun x hx => by
          rcases List.mem_append.mp hx with hx | hx
          · exact hrc x hx
          · rw [List.mem_singleton.mp hx]; exact hra
        have hlen3 := few_le (n := S.n) nd3 fun x hx => by
          have := rc_le w h0 h1 (rc3 x hx)
          omega
        simp at hlen3
        have hp2 := (w.par _ _ e2).1
        have hvl := vis_len l
        simp [wSeq, wAsg, wgName, wPar, wPar3, wDrop, wRet, wRetN, wIfS, wNext, wTst, wOp, wUn, wFrz, frzD, frzM, wAnd, wOr, wNot, wIf, tAndW, tOrW, tNotW, wChain, wC, wVar, look, wNil, wCons, wTup, wLst, wNewK, wCB, w1, w2, wCall, wMeth, wMake, wIsi, isaQ, tyD, tyM, isaB, blQ, wLen, lenD, lenM, wLe, wLt, wGt, wGe, wSub, wMul, wDiv, wMod, wPow, wNeg, wInt2, wInt1, wAbs, wIx, ixL, ixM, ixK, wIn, wNotIn, inD, inM, inK, keyD, wIsN, wNotN, isNonD, wBm, mApp, appM, mPop, popM, mUpd, updM, wDict2, dctM, wgSub, setM, wFld, fldM, wSFld, sfldM, wGet2, wGet1, wEq, wNe, asL, asLM, asK, asKM, asS, sstart, wFor, wgTup, wgCons, wgNil, wTuple, wList, wiL, wiT, wiS, wiK, wiIt, wiR1, wiR2, seqI, seqM, dicI, dicM, wSorted, wAll, wAny, wLc, wDc, wDisp, wpCons, wpNil, wLock, lockD, lockM, wItems, wDPop, dpopM, isDicM, wSl, slD, slM, wPart, wNoP, wipeS, wNever, retE, -List.lookup_eq_none_iff, updO_ne hwf.symm, of, vis_get, hal, vis_put hal, updO_ne hlw, updO_ne hlf, hln', eL, lineD, tupI, at1]
        refine ⟨by omega, fun b hb => ?_⟩
        obtain ⟨hbf, hb'⟩ := none_upd hb
        obtain ⟨hbw, hb''⟩ := none_upd hb'
        refine ⟨wi.map D.int, ps.map D.int, asL_ref (by rw [updO_ne hbw.symm, updO_ne hwf, updO_same]), asL_ref updO_same, by simp; omega, fun c hc => ?_⟩
        obtain ⟨hcb, hc'⟩ := none_upd hc
        obtain ⟨hcf, hc''⟩ := none_upd hc'
        obtain ⟨hcw, hc3⟩ := none_upd hc''
        have none' : ∀ x, O' x = none → O x = none := fun x hx => by
          cases e : O x with
          | none => rfl
          | some m => rw [hle _ _ e] at hx; cases hx
        refine hK _ _ _ ?_ ⟨c, l ++ [a], wi ++ ps, _, rfl, (((hle.upd hwa).upd hf0).upd (none' _ hb'')).upd (none' _ hc3), none' _ hc3, hcf, by rw [updO_ne hcf.symm, updO_ne hbf.symm, updO_same], by simp, nd3, rc3, fun x hx => ?_, ?_, fun x hx y hy => ?_, by simp; omega, rfl⟩
        · simp; omega
        · rcases List.mem_append.mp hx with hx | hx
          · exact hrw x (by simp [hx])
          · exact rc_trans w h0 h1 hra ((rc_iff w hab.1 ha1).mpr (.inr ⟨x, by rw [hps']; exact hx, rc_self _ _⟩))
        · rcases hv with hv | hv
          · exact .inl (by simp [hv])
          · rcases List.mem_append.mp hv with hv | hv
            · exact .inr (by simp [hv])
            · rw [List.mem_singleton.mp hv]; exact .inl (by simp)
        · rcases List.mem_append.mp hx with hx | hx
          · rcases hcl x hx y hy with hy | hy
            · exact .inl (by simp [hy])
            · rcases List.mem_append.mp hy with hy | hy
              · exact .inr (by simp [hy])
              · rw [List.mem_singleton.mp hy]; exact .inl (by simp)
          · rw [List.mem_singleton.mp hx, hps'] at hy
            exact .inr (by simp [hy])
  · intro x hx
    simp at hx
    subst hx
    exact rc_self _ _
end KH

set_option Elab.async false
set_option linter.all false
set_option maxRecDepth 100000
/-! KH: the law's own bases -/
namespace KH
open PySem PySem.Spec PyProof.Rows L2 TD
variable {CS : CSt} {ds : List D} {O : OO} {Q : D → OO → Prop}
theorem vis_keysD (l : List Int) : (visK l).map (fun kv => keyE kv.1) = l.map D.int := by simp [visK, keyE]
def anyI (g : Int → Bool) : D → Option D
  | .int k => some (.bl (g k))
  | _ => none
theorem any_map (g : Int → Bool) : ∀ (L : List Int), (L.map D.int).filterMap (anyI g) = (L.map g).map D.bl
  | [] => rfl
  | k :: r => by
    rw [List.map_cons, List.filterMap_cons]
    simp only [anyI, List.map_cons, any_map g r]
theorem sort_mem {n : Nat} {P : Int → Bool} {l : List Int} (hn : l.Nodup) (h : ∀ x, x ∈ l ↔ x ∈ setL n P) : sortI l = setL n P := sort_setL hn fun x => (h x).trans mem_setL
theorem law_law_bases (h : S_law_bases CS ds O Q) : W_law_bases CS (retE Q) (sstart N_law_bases ds) O := by
  obtain ⟨ln, S, u, v, rfl, hln, w, u0, u1, v0, v1, q⟩ := h
  have hf := w.few
  have sz := sizeLine_eq
  simp [W_law_bases, wSeq, wAsg, wgName, wPar, wPar3, wDrop, wRet, wRetN, wIfS, wNext, wTst, wOp, wUn, wFrz, frzD, frzM, wAnd, wOr, wNot, wIf, tAndW, tOrW, tNotW, wChain, wC, wVar, look, wNil, wCons, wTup, wLst, wNewK, wCB, w1, w2, wCall, wMeth, wMake, wIsi, isaQ, tyD, tyM, isaB, blQ, wLen, lenD, lenM, wLe, wLt, wGt, wGe, wAdd, wSub, wMul, wDiv, wMod, wPow, wNeg, wInt2, wInt1, wAbs, wIx, ixL, ixM, ixK, wIn, wNotIn, inD, inM, inK, keyD, wIsN, wNotN, isNonD, wBm, mApp, appM, mPop, popM, mUpd, updM, wDict2, dctM, wgSub, setM, wFld, fldM, wSFld, sfldM, wGet2, wGet1, wEq, wNe, asL, asLM, asK, asKM, asS, sstart, wgTup, wgCons, wgNil, wTuple, wList, wiL, wiT, wiS, wiK, wiIt, wiR1, wiR2, seqI, seqM, dicI, dicM, wAll, wAny, wLc, wDc, wDisp, wpCons, wpNil, wLock, lockD, lockM, wItems, wDPop, dpopM, isDicM, wSl, slD, slM, wPart, wNoP, wipeS, wNever, retE, -List.lookup_eq_none_iff]
  refine ⟨ln, S, u, by simp, hln, w, u0, u1, fun l1 n1 m1 => ?_⟩
  simp [visD_eq]
  intro a ha
  have hlen1 := line_len w u0 u1 n1 m1
  rw [vis_keysD]
  have hla : ln ≠ a := neO hln ha
  refine lcN_run (f := pickI fun k => S.rc v k) (fun d hd acc R N hh => ?_) (fun acc => trivial) (by simp; omega) ?_
  · obtain ⟨k, hk, rfl⟩ := mem_int hd
    simp [wSeq, wAsg, wgName, wPar, wPar3, wDrop, wRet, wRetN, wIfS, wNext, wTst, wOp, wUn, wFrz, frzD, frzM, wAnd, wOr, wNot, wIf, tAndW, tOrW, tNotW, wChain, wC, wVar, look, wNil, wCons, wTup, wLst, wNewK, wCB, w1, w2, wCall, wMeth, wMake, wIsi, isaQ, tyD, tyM, isaB, blQ, wLen, lenD, lenM, wLe, wLt, wGt, wGe, wAdd, wSub, wMul, wDiv, wMod, wPow, wNeg, wInt2, wInt1, wAbs, wIx, ixL, ixM, ixK, wIn, wNotIn, inD, inM, inK, keyD, wIsN, wNotN, isNonD, wBm, mApp, appM, mPop, popM, mUpd, updM, wDict2, dctM, wgSub, setM, wFld, fldM, wSFld, sfldM, wGet2, wGet1, wEq, wNe, asL, asLM, asK, asKM, asS, sstart, wFor, wgTup, wgCons, wgNil, wTuple, wList, wiL, wiT, wiS, wiK, wiIt, wiR1, wiR2, seqI, seqM, dicI, dicM, wSorted, wAll, wAny, wLc, wDc, wDisp, wpCons, wpNil, wLock, lockD, lockM, wItems, wDPop, dpopM, isDicM, wSl, slD, slM, wPart, wNoP, wipeS, wNever, retE, -List.lookup_eq_none_iff]
    refine ⟨ln, S, v, by simp, by rw [updO_ne hla, hln], w, v0, v1, fun l2 n2 m2 => ?_⟩
    by_cases hkv : S.rc v k = true
    · have : k ∈ l2 := (m2 k).mpr hkv
      simpa [wSeq, wAsg, wgName, wPar, wPar3, wDrop, wRet, wRetN, wIfS, wNext, wTst, wOp, wUn, wFrz, frzD, frzM, wAnd, wOr, wNot, wIf, tAndW, tOrW, tNotW, wChain, wC, wVar, look, wNil, wCons, wTup, wLst, wNewK, wCB, w1, w2, wCall, wMeth, wMake, wIsi, isaQ, tyD, tyM, isaB, blQ, wLen, lenD, lenM, wLe, wLt, wGt, wGe, wAdd, wSub, wMul, wDiv, wMod, wPow, wNeg, wInt2, wInt1, wAbs, wIx, ixL, ixM, ixK, wIn, wNotIn, inD, inM, inK, keyD, wIsN, wNotN, isNonD, wBm, mApp, appM, mPop, popM, mUpd, updM, wDict2, dctM, wgSub, setM, wFld, fldM, wSFld, sfldM, wGet2, wGet1, wEq, wNe, asL, asLM, asK, asKM, asS, sstart, wFor, wgTup, wgCons, wgNil, wTuple, wList, wiL, wiT, wiS, wiK, wiIt, wiR1, wiR2, seqI, seqM, dicI, dicM, wSorted, wAll, wAny, wLc, wDc, wDisp, wpCons, wpNil, wLock, lockD, lockM, wItems, wDPop, dpopM, isDicM, wSl, slD, slM, wPart, wNoP, wipeS, wNever, retE, -List.lookup_eq_none_iff, pickI, visD_eq, vis_get, this, hkv] using hh
    · have : k ∉ l2 := fun z => hkv ((m2 k).mp z)
      simpa [wSeq, wAsg, wgName, wPar, wPar3, wDrop, wRet, wRetN, wIfS, wNext, wTst, wOp, wUn, wFrz, frzD, frzM, wAnd, wOr, wNot, wIf, tAndW, tOrW, tNotW, wChain, wC, wVar, look, wNil, wCons, wTup, wLst, wNewK, wCB, w1, w2, wCall, wMeth, wMake, wIsi, isaQ, tyD, tyM, isaB, blQ, wLen, lenD, lenM, wLe, wLt, wGt, wGe, wAdd, wSub, wMul, wDiv, wMod, wPow, wNeg, wInt2, wInt1, wAbs, wIx, ixL, ixM, ixK, wIn, wNotIn, inD, inM, inK, keyD, wIsN, wNotN, isNonD, wBm, mApp, appM, mPop, popM, mUpd, updM, wDict2, dctM, wgSub, setM, wFld, fldM, wSFld, sfldM, wGet2, wGet1, wEq, wNe, asL, asLM, asK, asKM, asS, sstart, wFor, wgTup, wgCons, wgNil, wTuple, wList, wiL, wiT, wiS, wiK, wiIt, wiR1, wiR2, seqI, seqM, dicI, dicM, wSorted, wAll, wAny, wLc, wDc, wDisp, wpCons, wpNil, wLock, lockD, lockM, wItems, wDPop, dpopM, isDicM, wSl, slD, slM, wPart, wNoP, wipeS, wNever, retE, -List.lookup_eq_none_iff, pickI, visD_eq, vis_get, this, hkv] using hh
  rw [pick_map, List.nil_append]
  have nb : (l1.filter fun k => S.rc v k).Nodup := n1.sublist List.filter_sublist
  have mb : ∀ x, x ∈ (l1.filter fun k => S.rc v k) ↔ S.rc u x = true ∧ S.rc v x = true := fun x => by rw [List.mem_filter, m1]
  have lb : (l1.filter fun k => S.rc v k).length ≤ 40 := Nat.le_trans (List.length_filter_le _ _) hlen1
  generalize (l1.filter fun k => S.rc v k) = bo at nb mb lb ⊢
  have bb : ∀ x ∈ bo, 0 ≤ x ∧ x < S.n := fun x hx => by
    have := rc_le w u0 u1 ((mb x).mp hx).1
    omega
  try simp [wSeq, wAsg, wgName, wPar, wPar3, wDrop, wRetN, wNext, wTst, wOp, wUn, wFrz, frzD, frzM, wAnd, wOr, wNot, wIf, tAndW, tOrW, tNotW, wChain, wC, wVar, look, wNil, wCons, wTup, wLst, wNewK, wCB, w1, w2, wCall, wMeth, wMake, wIsi, isaQ, tyD, tyM, isaB, blQ, wLen, lenD, lenM, wLe, wLt, wGt, wGe, wAdd, wSub, wMul, wDiv, wMod, wPow, wNeg, wInt2, wInt1, wAbs, wIx, ixL, ixM, ixK, wIn, wNotIn, inD, inM, inK, keyD, wIsN, wNotN, isNonD, wBm, mApp, appM, mPop, popM, mUpd, updM, wDict2, dctM, wgSub, setM, wFld, fldM, wSFld, sfldM, wGet2, wGet1, wEq, wNe, asL, asLM, asK, asKM, asS, sstart, wgTup, wgCons, wgNil, wTuple, wList, wiL, wiT, wiS, wiK, wiIt, wiR1, wiR2, seqI, seqM, dicI, dicM, wAll, wAny, wLc, wDc, wDisp, wpCons, wpNil, wLock, lockD, lockM, wItems, wDPop, dpopM, isDicM, wSl, slD, slM, wPart, wNoP, wipeS, wNever, retE, -List.lookup_eq_none_iff]
  intro c hc
  obtain ⟨hca, hc0⟩ := none_upd hc
  try simp [wSeq, wAsg, wgName, wPar, wPar3, wDrop, wRetN, wNext, wTst, wOp, wUn, wFrz, frzD, frzM, wAnd, wOr, wNot, wIf, tAndW, tOrW, tNotW, wChain, wC, wVar, look, wNil, wCons, wTup, wLst, wNewK, wCB, w1, w2, wCall, wMeth, wMake, wIsi, isaQ, tyD, tyM, isaB, blQ, wLen, lenD, lenM, wLe, wLt, wGt, wGe, wAdd, wSub, wMul, wDiv, wMod, wPow, wNeg, wInt2, wInt1, wAbs, wIx, ixL, ixM, ixK, wIn, wNotIn, inD, inM, inK, keyD, wIsN, wNotN, isNonD, wBm, mApp, appM, mPop, popM, mUpd, updM, wDict2, dctM, wgSub, setM, wFld, fldM, wSFld, sfldM, wGet2, wGet1, wEq, wNe, asL, asLM, asK, asKM, asS, sstart, wFor, wgTup, wgCons, wgNil, wTuple, wList, wiL, wiT, wiS, wiK, wiIt, wiR1, wiR2, seqI, seqM, dicI, dicM, wAll, wAny, wLc, wDc, wDisp, wpCons, wpNil, wLock, lockD, lockM, wItems, wDPop, dpopM, isDicM, wSl, slD, slM, wPart, wNoP, wipeS, wNever, retE, -List.lookup_eq_none_iff, updO_ne hca.symm]
  have hlc : ln ≠ c := neO hln hc0
  refine forN_run (fun r s O' => ∃ (dn rs : List Int) (x4 x6 : Option D), r = rs.map D.int ∧ dn ++ rs = bo ∧ s = [some (.ref ln), some (.int u), some (.int v), some (.ref a), x4, some (.ref c), x6] ∧ Le O O' ∧ O' a = some (.lst (bo.map D.int)) ∧
    O' c = some (.lst ((dn.filter fun k => !bo.any fun y => decide (k ≠ y) && S.rc y k).map D.int))) ?_ ?_ ?_
  · rintro e r s O' K hK ⟨dn, rs, x4, x6, er, hdn, rfl, hle, oa, oc⟩
    cases rs with
    | nil => cases er
    | cons k rs =>
      simp only [List.map_cons, List.cons.injEq] at er
      obtain ⟨rfl, rfl⟩ := er
      refine ⟨oa, ?_⟩
      have hdl : ∀ P : Int → Bool, (dn.filter P).length ≤ 40 := fun P => by
        refine Nat.le_trans (List.length_filter_le _ _) ?_
        have : dn.length ≤ bo.length := by rw [← hdn]; simp
        omega
      simp [wSeq, wAsg, wgName, wPar, wPar3, wDrop, wRet, wRetN, wNext, wTst, wOp, wUn, wFrz, frzD, frzM, wAnd, wOr, wNot, wIf, tAndW, tOrW, tNotW, wChain, wC, wVar, look, wNil, wCons, wTup, wLst, wNewK, wCB, w1, w2, wCall, wMeth, wMake, wIsi, isaQ, tyD, tyM, isaB, blQ, wLen, lenD, lenM, wLe, wLt, wGt, wGe, wAdd, wSub, wMul, wDiv, wMod, wPow, wNeg, wInt2, wInt1, wAbs, wIx, ixL, ixM, ixK, wIn, wNotIn, inD, inM, inK, keyD, wIsN, wNotN, isNonD, wBm, mApp, appM, mPop, popM, mUpd, updM, wDict2, dctM, wgSub, setM, wFld, fldM, wSFld, sfldM, wGet2, wGet1, wEq, wNe, asL, asLM, asK, asKM, asS, sstart, wFor, wgTup, wgCons, wgNil, wTuple, wList, wiL, wiT, wiS, wiK, wiIt, wiR1, wiR2, seqI, seqM, dicI, dicM, wSorted, wAll, wAny, wLc, wDc, wDisp, wpCons, wpNil, wLock, lockD, lockM, wItems, wDPop, dpopM, isDicM, wSl, slD, slM, wPart, wNoP, wipeS, wNever, retE, -List.lookup_eq_none_iff, oa]
      simp [wSeq, wAsg, wgName, wPar, wPar3, wDrop, wRet, wRetN, wIfS, wNext, wTst, wOp, wUn, wFrz, frzD, frzM, wAnd, wOr, wNot, wIf, tAndW, tOrW, tNotW, wChain, wC, wVar, look, wNil, wCons, wTup, wLst, wNewK, wCB, w1, w2, wCall, wMeth, wMake, wIsi, isaQ, tyD, tyM, isaB, blQ, wLen, lenD, lenM, wLe, wLt, wGt, wGe, wAdd, wSub, wMul, wDiv, wMod, wPow, wNeg, wInt2, wInt1, wAbs, wIx, ixL, ixM, ixK, wIn, wNotIn, inD, inM, inK, keyD, wIsN, wNotN, isNonD, wBm, mApp, appM, mPop, popM, mUpd, updM, wDict2, dctM, wgSub, setM, wFld, fldM, wSFld, sfldM, wGet2, wGet1, wEq, wNe, asL, asLM, asK, asKM, asS, sstart, wFor, wgTup, wgCons, wgNil, wTuple, wList, wiL, wiT, wiS, wiK, wiIt, wiR1, wiR2, seqI, seqM, dicI, dicM, wSorted, wAll, wAny, wLc, wDc, wDisp, wpCons, wpNil, wLock, lockD, lockM, wItems, wDPop, dpopM, isDicM, wSl, slD, slM, wPart, wNoP, wipeS, wNever, retE, -List.lookup_eq_none_iff, oa]
      intro f hf0
      have hfa : a ≠ f := neO oa hf0
      have hfc : c ≠ f := neO oc hf0
      have hlf : ln ≠ f := neO (hle _ _ hln) hf0
      have hf00 : O f = none := by
        cases e : O f with
        | none => rfl
        | some m => rw [hle _ _ e] at hf0; cases hf0
      refine lcN_run (f := anyI fun y => decide (k ≠ y) && S.rc y k) (fun z hz acc R N hh => ?_) (fun acc => by rw [updO_ne hfa, oa]) (by simp; omega) ?_
      · obtain ⟨y, hy, rfl⟩ := mem_int hz
        obtain ⟨y0, y1⟩ := bb y hy
        by_cases hky : k = y
        · subst hky
          simpa [wSeq, wAsg, wgName, wPar, wPar3, wDrop, wRet, wRetN, wIfS, wNext, wTst, wOp, wUn, wFrz, frzD, frzM, wAnd, wOr, wNot, wIf, tAndW, tOrW, tNotW, wChain, wC, wVar, look, wNil, wCons, wTup, wLst, wNewK, wCB, w1, w2, wCall, wMeth, wMake, wIsi, isaQ, tyD, tyM, isaB, blQ, wLen, lenD, lenM, wLe, wLt, wGt, wGe, wAdd, wSub, wMul, wDiv, wMod, wPow, wNeg, wInt2, wInt1, wAbs, wIx, ixL, ixM, ixK, wIn, wNotIn, inD, inM, inK, keyD, wIsN, wNotN, isNonD, wBm, mApp, appM, mPop, popM, mUpd, updM, wDict2, dctM, wgSub, setM, wFld, fldM, wSFld, sfldM, wGet2, wGet1, wEq, wNe, asL, asLM, asK, asKM, asS, sstart, wFor, wgTup, wgCons, wgNil, wTuple, wList, wiL, wiT, wiS, wiK, wiIt, wiR1, wiR2, seqI, seqM, dicI, dicM, wSorted, wAll, wAny, wLc, wDc, wDisp, wpCons, wpNil, wLock, lockD, lockM, wItems, wDPop, dpopM, isDicM, wSl, slD, slM, wPart, wNoP, wipeS, wNever, retE, -List.lookup_eq_none_iff, anyI, cmp_ii, ne_ii, dp_i, eqv_ii] using hh
        · simp [wSeq, wAsg, wgName, wPar, wPar3, wDrop, wRet, wRetN, wIfS, wNext, wTst, wOp, wUn, wFrz, frzD, frzM, wAnd, wOr, wNot, wIf, tAndW, tOrW, tNotW, wChain, wC, wVar, look, wNil, wCons, wTup, wLst, wNewK, wCB, w1, w2, wCall, wMeth, wMake, wIsi, isaQ, tyD, tyM, isaB, blQ, wLen, lenD, lenM, wLe, wLt, wGt, wGe, wAdd, wSub, wMul, wDiv, wMod, wPow, wNeg, wInt2, wInt1, wAbs, wIx, ixL, ixM, ixK, wIn, wNotIn, inD, inM, inK, keyD, wIsN, wNotN, isNonD, wBm, mApp, appM, mPop, popM, mUpd, updM, wDict2, dctM, wgSub, setM, wFld, fldM, wSFld, sfldM, wGet2, wGet1, wEq, wNe, asL, asLM, asK, asKM, asS, sstart, wFor, wgTup, wgCons, wgNil, wTuple, wList, wiL, wiT, wiS, wiK, wiIt, wiR1, wiR2, seqI, seqM, dicI, dicM, wSorted, wAll, wAny, wLc, wDc, wDisp, wpCons, wpNil, wLock, lockD, lockM, wItems, wDPop, dpopM, isDicM, wSl, slD, slM, wPart, wNoP, wipeS, wNever, retE, -List.lookup_eq_none_iff, anyI, cmp_ii, ne_ii, dp_i, eqv_ii, hky] at hh ⊢
          refine ⟨ln, S, y, by simp, by rw [updO_ne hlf]; exact hle _ _ hln, w, y0, y1, fun l3 n3 m3 => ?_⟩
          by_cases hr : S.rc y k = true
          · have : k ∈ l3 := (m3 k).mpr hr
            simpa [wSeq, wAsg, wgName, wPar, wPar3, wDrop, wRet, wRetN, wIfS, wNext, wTst, wOp, wUn, wFrz, frzD, frzM, wAnd, wOr, wNot, wIf, tAndW, tOrW, tNotW, wChain, wC, wVar, look, wNil, wCons, wTup, wLst, wNewK, wCB, w1, w2, wCall, wMeth, wMake, wIsi, isaQ, tyD, tyM, isaB, blQ, wLen, lenD, lenM, wLe, wLt, wGt, wGe, wAdd, wSub, wMul, wDiv, wMod, wPow, wNeg, wInt2, wInt1, wAbs, wIx, ixL, ixM, ixK, wIn, wNotIn, inD, inM, inK, keyD, wIsN, wNotN, isNonD, wBm, mApp, appM, mPop, popM, mUpd, updM, wDict2, dctM, wgSub, setM, wFld, fldM, wSFld, sfldM, wGet2, wGet1, wEq, wNe, asL, asLM, asK, asKM, asS, sstart, wFor, wgTup, wgCons, wgNil, wTuple, wList, wiL, wiT, wiS, wiK, wiIt, wiR1, wiR2, seqI, seqM, dicI, dicM, wSorted, wAll, wAny, wLc, wDc, wDisp, wpCons, wpNil, wLock, lockD, lockM, wItems, wDPop, dpopM, isDicM, wSl, slD, slM, wPart, wNoP, wipeS, wNever, retE, -List.lookup_eq_none_iff, visD_eq, vis_get, this, hr] using hh
          · have : k ∉ l3 := fun z => hr ((m3 k).mp z)
            simpa [wSeq, wAsg, wgName, wPar, wPar3, wDrop, wRet, wRetN, wIfS, wNext, wTst, wOp, wUn, wFrz, frzD, frzM, wAnd, wOr, wNot, wIf, tAndW, tOrW, tNotW, wChain, wC, wVar, look, wNil, wCons, wTup, wLst, wNewK, wCB, w1, w2, wCall, wMeth, wMake, wIsi, isaQ, tyD, tyM, isaB, blQ, wLen, lenD, lenM, wLe, wLt, wGt, wGe, wAdd, wSub, wMul, wDiv, wMod, wPow, wNeg, wInt2, wInt1, wAbs, wIx, ixL, ixM, ixK, wIn, wNotIn, inD, inM, inK, keyD, wIsN, wNotN, isNonD, wBm, mApp, appM, mPop, popM, mUpd, updM, wDict2, dctM, wgSub, setM, wFld, fldM, wSFld, sfldM, wGet2, wGet1, wEq, wNe, asL, asLM, asK, asKM, asS, sstart, wFor, wgTup, wgCons, wgNil, wTuple, wList, wiL, wiT, wiS, wiK, wiIt, wiR1, wiR2, seqI, seqM, dicI, dicM, wSorted, wAll, wAny, wLc, wDc, wDisp, wpCons, wpNil, wLock, lockD, lockM, wItems, wDPop, dpopM, isDicM, wSl, slD, slM, wPart, wNoP, wipeS, wNever, retE, -List.lookup_eq_none_iff, visD_eq, vis_get, this, hr] using hh
      · rw [any_map, List.nil_append]
        simp only [updO_same, Option.some.injEq, exists_eq_left', asB_map]
        have ea : (true ∈ bo.map fun y => decide (k ≠ y) && S.rc y k) = ((bo.any fun y => decide (k ≠ y) && S.rc y k) = true) := by
          rw [List.any_eq_true, List.mem_map]
        simp only [ea]
        have efl : (dn ++ [k]).filter (fun k => !bo.any fun y => decide (k ≠ y) && S.rc y k) = (dn.filter fun k => !bo.any fun y => decide (k ≠ y) && S.rc y k) ++ (if (!bo.any fun y => decide (k ≠ y) && S.rc y k) = true then [k] else []) := by
          rw [List.filter_append]
          congr 1
          simp [List.filter_cons]
        cases hb : (bo.any fun y => decide (k ≠ y) && S.rc y k) with
        | true =>
          simp
          refine hK _ _ ⟨dn ++ [k], rs, _, _, rfl, by rw [← hdn]; simp, rfl, hle.upd hf00, by rw [updO_ne hfa, oa], ?_⟩
          rw [efl, hb, updO_ne hfc, oc]
          simp
        | false =>
          simp [updO_ne hfc, oc]
          refine ⟨tv_ref (by rw [updO_ne hfc, oc]), Nat.lt_of_le_of_lt (hdl _) (by omega), ?_⟩
          refine hK _ _ ⟨dn ++ [k], rs, _, _, rfl, by rw [← hdn]; simp, rfl, (hle.upd hf00).upd hc0, by rw [updO_ne hca.symm, updO_ne hfa, oa], ?_⟩
          rw [efl, hb, updO_same]
          simp
  · rintro s O' ⟨dn, rs, x4, x6, er, hdn, rfl, hle, oa, oc⟩
    cases rs with
    | cons k rs => cases er
    | nil =>
      refine ⟨oa, ?_⟩
      rw [List.append_nil] at hdn
      subst hdn
      simp [wSeq, wAsg, wgName, wPar, wPar3, wDrop, wRet, wRetN, wIfS, wNext, wTst, wOp, wUn, wFrz, frzD, frzM, wAnd, wOr, wNot, wIf, tAndW, tOrW, tNotW, wChain, wC, wVar, look, wNil, wCons, wTup, wLst, wNewK, wCB, w1, w2, wCall, wMeth, wMake, wIsi, isaQ, tyD, tyM, isaB, blQ, wLen, lenD, lenM, wLe, wLt, wGt, wGe, wAdd, wSub, wMul, wDiv, wMod, wPow, wNeg, wInt2, wInt1, wAbs, wIx, ixL, ixM, ixK, wIn, wNotIn, inD, inM, inK, keyD, wIsN, wNotN, isNonD, wBm, mApp, appM, mPop, popM, mUpd, updM, wDict2, dctM, wgSub, setM, wFld, fldM, wSFld, sfldM, wGet2, wGet1, wEq, wNe, asL, asLM, asK, asKM, asS, sstart, wFor, wgTup, wgCons, wgNil, wTuple, wList, wiL, wiT, wiS, wiK, wiIt, wiR1, wiR2, seqI, seqM, dicI, dicM, wAll, wAny, wLc, wDc, wDisp, wpCons, wpNil, wLock, lockD, lockM, wItems, wDPop, dpopM, isDicM, wSl, slD, slM, wPart, wNoP, wipeS, wNever, retE, -List.lookup_eq_none_iff]
      have nf : (dn.filter fun k => !dn.any fun y => decide (k ≠ y) && S.rc y k).Nodup := nb.sublist List.filter_sublist
      refine sortedL_i (asL_ref oc) (asI_map _) fun f hf0 => ?_
      have hf00 : O f = none := by
        cases e : O f with
        | none => rfl
        | some m => rw [hle _ _ e] at hf0; cases hf0
      have es : sortI (dn.filter fun k => !dn.any fun y => decide (k ≠ y) && S.rc y k) = basesL S u v := by
        rw [bases_setL]
        refine sort_mem nf fun x => ?_
        rw [← bases_setL, mem_bases, List.mem_filter, mb]
        simp only [Bool.not_eq_true', List.any_eq_false, Bool.and_eq_true, decide_eq_true_eq, mb]
        constructor
        · rintro ⟨⟨a1, a2⟩, a3⟩
          have := rc_le w u0 u1 a1
          refine ⟨⟨this.1, by omega, a1, a2⟩, fun y y0 y1 b1 b2 b3 => ?_⟩
          cases e : S.rc y x with
          | false => rfl
          | true => exact absurd ⟨Ne.symm b3, e⟩ (a3 y ⟨b1, b2⟩)
        · rintro ⟨⟨a0, a01, a1, a2⟩, a3⟩
          refine ⟨⟨a1, a2⟩, fun y ⟨b1, b2⟩ ⟨b3, b4⟩ => ?_⟩
          have := rc_le w u0 u1 b1
          rw [a3 y this.1 (by omega) b1 b2 (Ne.symm b3)] at b4
          cases b4
      rw [es]
      simp
      exact retL (hle.upd hf00) q
  · exact ⟨[], bo, _, _, rfl, rfl, rfl, ((Le.refl O).upd ha).upd hc0, by rw [updO_ne hca.symm, updO_same], updO_same⟩
end KH

set_option Elab.async false
set_option linter.all false
set_option maxRecDepth 100000
/-! KH: the draws -/
namespace KH
open PySem PySem.Spec PyProof.Rows L2 TD
variable {CS : CSt} {ds : List D} {O : OO} {Q : D → OO → Prop}
def S_pickL (CS : CSt) : SpD := fun ds O Q => ∃ a cells i g s n m, ds = [.ref a, .int m] ∧ O a = some (.lst (tapeD cells i g s n)) ∧ (∀ x ∈ cells, 0 ≤ x) ∧ 0 ≤ i ∧ 0 ≤ g ∧ 0 < m ∧ m < 1073741824 ∧
  ∀ k i' g' s' n', 0 ≤ k → k < m → 0 ≤ i' → 0 ≤ g' → Q (.int k) (updO O a (.lst (tapeD cells i' g' s' n')))
theorem atN {ds : List D} {k : Int} {j : Nat} {d : D} (hk : k = (j : Int)) (h : ds[j]? = some d) : atI ds k = some d := by subst hk; exact atI_nat h
theorem t0 {a b c d e : D} : atI [a, b, c, d, e] 0 = some a := rfl
theorem t1 {a b c d e : D} : atI [a, b, c, d, e] 1 = some b := rfl
theorem t2 {a b c d e : D} : atI [a, b, c, d, e] 2 = some c := rfl
theorem t3 {a b c d e : D} : atI [a, b, c, d, e] 3 = some d := rfl
theorem t4 {a b c d e : D} : atI [a, b, c, d, e] 4 = some e := rfl
theorem ixc1 : ixN 5 1 = some 1 := rfl
theorem ixc2 : ixN 5 2 = some 2 := rfl
theorem ixc3 : ixN 5 3 = some 3 := rfl
theorem ixc4 : ixN 5 4 = some 4 := rfl
theorem cm1 {i : Int} : CMul i 69621 := .inr ⟨by decide, by decide⟩
theorem cm2 {i : Int} : CMul 7919 i := .inl ⟨by decide, by decide⟩
theorem cm3 {i : Int} : CMul i 48271 := .inr ⟨by decide, by decide⟩
theorem cm4 {x : Int} (h0 : 0 ≤ x) (h1 : x < 2147483648) {y : Int} : CMul x y := .inl ⟨by omega, by omega⟩
theorem pw18 : CPow 10 18 := ⟨by decide, by decide, by decide⟩
def pickA : WS := (wIfS (tAndW (wTst (wOp wEq (wFrz (wOp wIx (wVar 0) (wC (.int 2)))) (wC (.int 0)))) (wTst (wOp wLt (wOp wIx (wVar 0) (wC (.int 1))) (wCB wLen (wCons (wOp wIx (wVar 0) (wC (.int 0))) wNil))))) (wSeq (wAsg (wOp wIx (wOp wIx (wVar 0) (wC (.int 0))) (wOp wIx (wVar 0) (wC (.int 1)))) (wgName 2)) (wSeq (wAsg (wFrz (wOp wAdd (wOp wIx (wVar 0) (wC (.int 1))) (wC (.int 1)))) (wgSub (wVar 0) (wC (.int 1)))) (wSeq (wAsg (wFrz (wOp wMod (wCB wInt1 (wCons (wOp wAdd (wOp wAdd (wOp wMul (wOp wIx (wVar 0) (wC (.int 3))) (wC (.int 69621))) (wVar 2)) (wC (.int 11))) wNil)) (wC (.int 2147483629)))) (wgSub (wVar 0) (wC (.int 3)))) (wIfS (wTst (wOp wGe (wVar 2) (wOp wPow (wC (.int 10)) (wC (.int 18))))) (wAsg (wFrz (wVar 2)) (wgSub (wVar 0) (wC (.int 2)))) wNext)))) wNext)
def pickB : WS := (wSeq (wIfS (wTst (wOp wGt (wOp wIx (wVar 0) (wC (.int 2))) (wC (.int 0)))) (wSeq (wAsg (wOp wMod (wCB wInt1 (wCons (wOp wIx (wVar 0) (wC (.int 2))) wNil)) (wVar 1)) (wgName 3)) (wSeq (wAsg (wFrz (wOp wDiv (wOp wIx (wVar 0) (wC (.int 2))) (wVar 1))) (wgSub (wVar 0) (wC (.int 2)))) (wRet (wFrz (wVar 3))))) wNext) (wSeq (wAsg (wFrz (wOp wAdd (wOp wIx (wVar 0) (wC (.int 4))) (wC (.int 1)))) (wgSub (wVar 0) (wC (.int 4)))) (wSeq (wAsg (wOp wMod (wCB wInt1 (wCons (wOp wMul (wCB wInt1 (wCons (wOp wAdd (wOp wIx (wVar 0) (wC (.int 3))) (wOp wMul (wC (.int 7919)) (wOp wIx (wVar 0) (wC (.int 4))))) wNil)) (wC (.int 48271))) wNil)) (wC (.int 2147483647))) (wgName 4)) (wSeq (wAsg (wOp wMod (wCB wInt1 (wCons (wOp wMul (wVar 4) (wOp wAdd (wOp wDiv (wVar 4) (wC (.int 1009))) (wC (.int 69621)))) wNil)) (wC (.int 2147483647))) (wgName 4)) (wSeq (wAsg (wOp wMod (wCB wInt1 (wCons (wOp wMul (wVar 4) (wOp wAdd (wOp wDiv (wVar 4) (wC (.int 2003))) (wC (.int 40692)))) wNil)) (wC (.int 2147483399))) (wgName 4)) (wRet (wFrz (wOp wMod (wCB wInt1 (wCons (wOp wDiv (wVar 4) (wC (.int 16))) wNil)) (wVar 1)))))))))
theorem pick_eq (CS : CSt) : W_law_pick CS = wSeq pickA pickB := rfl
theorem pick_B {a : Addr} {cells : List Int} {m i g s n : Int} {x2 : Option D} (hm0 : 0 < m) (hm1 : m < 1073741824) (hi : 0 ≤ i) (hg : 0 ≤ g)
    (q : ∀ k i' g' s' n', 0 ≤ k → k < m → 0 ≤ i' → 0 ≤ g' → Q (.int k) (updO O a (.lst (tapeD cells i' g' s' n')))) :
    pickB (retE Q) [some (.ref a), some (.int m), x2, none, none] (updO O a (.lst (tapeD cells i g s n))) := by
  unfold pickB
  simp [wSeq, wgName, wPar, wPar3, wDrop, wRetN, wIfS, wNext, wTst, wOp, wUn, wFrz, frzD, frzM, wAnd, wOr, wNot, wIf, tAndW, tOrW, tNotW, wChain, wC, wVar, look, wNil, wCons, wTup, wLst, wNewK, wCB, w1, w2, wCall, wMeth, wMake, wIsi, isaQ, tyD, tyM, isaB, blQ, wLen, lenD, lenM, wLe, wLt, wGt, wGe, wAdd, wSub, wMul, wDiv, wMod, wPow, wNeg, wInt2, wInt1, wAbs, wIx, ixL, ixM, ixK, wIn, wNotIn, inD, inM, inK, keyD, wIsN, wNotN, isNonD, wBm, mApp, appM, mPop, popM, mUpd, updM, wDict2, dctM, wgSub, setM, wFld, fldM, wSFld, sfldM, wGet2, wGet1, wEq, wNe, asL, asLM, asK, asKM, asS, sstart, wFor, wgTup, wgCons, wgNil, wTuple, wList, wiL, wiT, wiS, wiK, wiIt, wiR1, wiR2, seqI, seqM, dicI, dicM, wSorted, wAll, wAny, wLc, wDc, wDisp, wpCons, wpNil, wLock, lockD, lockM, wItems, wDPop, dpopM, isDicM, wSl, slD, slM, wPart, wNoP, wipeS, wNever, retE, -List.lookup_eq_none_iff, tapeD, t2]
  by_cases h : 0 < g
  · simp [h]
    simp [wSeq, wAsg, wgName, wPar, wPar3, wDrop, wRet, wRetN, wIfS, wNext, wTst, wOp, wUn, wFrz, frzD, frzM, wAnd, wOr, wNot, wIf, tAndW, tOrW, tNotW, wChain, wC, wVar, look, wNil, wCons, wTup, wLst, wNewK, wCB, w1, w2, wCall, wMeth, wMake, wIsi, isaQ, tyD, tyM, isaB, blQ, wLen, lenD, lenM, wLe, wLt, wGt, wGe, wAdd, wSub, wMul, wDiv, wMod, wPow, wNeg, wInt2, wInt1, wAbs, wIx, ixL, ixM, ixK, wIn, wNotIn, inD, inM, inK, keyD, wIsN, wNotN, isNonD, wBm, mApp, appM, mPop, popM, mUpd, updM, wDict2, dctM, wgSub, setM, wFld, fldM, wSFld, sfldM, wGet2, wGet1, wEq, wNe, asL, asLM, asK, asKM, asS, sstart, wFor, wgTup, wgCons, wgNil, wTuple, wList, wiL, wiT, wiS, wiK, wiIt, wiR1, wiR2, seqI, seqM, dicI, dicM, wSorted, wAll, wAny, wLc, wDc, wDisp, wpCons, wpNil, wLock, lockD, lockM, wItems, wDPop, dpopM, isDicM, wSl, slD, slM, wPart, wNoP, wipeS, wNever, retE, -List.lookup_eq_none_iff, tapeD, t2, hm0, hm1, ixc2]
    exact ret0 (q (g % m) i (g / m) s n (Int.emod_nonneg _ (by omega)) (Int.emod_lt_of_pos _ hm0) hi (Int.ediv_nonneg hg (by omega)))
  · simp [h]
    simp [wSeq, wAsg, wgName, wPar, wPar3, wDrop, wRet, wRetN, wIfS, wNext, wTst, wOp, wUn, wFrz, frzD, frzM, wAnd, wOr, wNot, wIf, tAndW, tOrW, tNotW, wChain, wC, wVar, look, wNil, wCons, wTup, wLst, wNewK, wCB, w1, w2, wCall, wMeth, wMake, wIsi, isaQ, tyD, tyM, isaB, blQ, wLen, lenD, lenM, wLe, wLt, wGt, wGe, wAdd, wSub, wMul, wDiv, wMod, wPow, wNeg, wInt2, wInt1, wAbs, wIx, ixL, ixM, ixK, wIn, wNotIn, inD, inM, inK, keyD, wIsN, wNotN, isNonD, wBm, mApp, appM, mPop, popM, mUpd, updM, wDict2, dctM, wgSub, setM, wFld, fldM, wSFld, sfldM, wGet2, wGet1, wEq, wNe, asL, asLM, asK, asKM, asS, sstart, wFor, wgTup, wgCons, wgNil, wTuple, wList, wiL, wiT, wiS, wiK, wiIt, wiR1, wiR2, seqI, seqM, dicI, dicM, wSorted, wAll, wAny, wLc, wDc, wDisp, wpCons, wpNil, wLock, lockD, lockM, wItems, wDPop, dpopM, isDicM, wSl, slD, slM, wPart, wNoP, wipeS, wNever, retE, -List.lookup_eq_none_iff, tapeD, t2, t3, t4, hm0, hm1, ixc4, cm1, cm2, cm3]
    have r1 : ∀ y : Int, 0 ≤ y % 2147483647 ∧ y % 2147483647 < 2147483648 := fun y => by omega
    refine ⟨cm4 (r1 _).1 (r1 _).2, cm4 (r1 _).1 (r1 _).2, ?_⟩
    exact ret0 (q _ i g s (n + 1) (Int.emod_nonneg _ (by omega)) (Int.emod_lt_of_pos _ hm0) hi hg)
theorem wSeq_app (a b : WS) (D' : DEnds) (s : SD) (O : OO) : wSeq a b D' s O = a { D' with nx := b D' } s O := rfl
theorem law_law_pickL (h : S_pickL CS ds O Q) : W_law_pick CS (retE Q) (sstart N_law_pick ds) O := by
  obtain ⟨a, cells, i, g, s, n, m, rfl, ha, hc, hi, hg, hm0, hm1, q⟩ := h
  rw [pick_eq]
  show pickA { retE Q with nx := pickB (retE Q) } [some (.ref a), some (.int m), none, none, none] O
  have eO : O = updO O a (.lst (tapeD cells i g s n)) := by
    funext b
    by_cases hb : b = a
    · subst hb; rw [updO_same, ha]
    · rw [updO_ne hb]
  have key : ∀ x2 i' g' s' n', 0 ≤ i' → 0 ≤ g' → pickB (retE Q) [some (.ref a), some (.int m), x2, none, none] (updO O a (.lst (tapeD cells i' g' s' n'))) := fun x2 i' g' s' n' h1 h2 => pick_B hm0 hm1 h1 h2 q
  generalize pickB (retE Q) = R at key ⊢
  unfold pickA
  simp [wSeq, wgName, wPar, wPar3, wDrop, wRet, wRetN, wIfS, wNext, wTst, wOp, wUn, wFrz, frzD, frzM, wAnd, wOr, wNot, wIf, tAndW, tOrW, tNotW, wChain, wC, wVar, look, wNil, wCons, wTup, wLst, wNewK, wCB, w1, w2, wCall, wMeth, wMake, wIsi, isaQ, tyD, tyM, isaB, blQ, wLen, lenD, lenM, wLe, wLt, wGt, wGe, wAdd, wSub, wMul, wDiv, wMod, wPow, wNeg, wInt2, wInt1, wAbs, wIx, ixL, ixM, ixK, wIn, wNotIn, inD, inM, inK, keyD, wIsN, wNotN, isNonD, wBm, mApp, appM, mPop, popM, mUpd, updM, wDict2, dctM, wgSub, setM, wFld, fldM, wSFld, sfldM, wGet2, wGet1, wEq, wNe, asL, asLM, asK, asKM, asS, sstart, wFor, wgTup, wgCons, wgNil, wTuple, wList, wiL, wiT, wiS, wiK, wiIt, wiR1, wiR2, seqI, seqM, dicI, dicM, wSorted, wAll, wAny, wLc, wDc, wDisp, wpCons, wpNil, wLock, lockD, lockM, wItems, wDPop, dpopM, isDicM, wSl, slD, slM, wPart, wNoP, wipeS, wNever, retE, -List.lookup_eq_none_iff, ha, tapeD, t0, t1, t2, cmp_ii, dp_i, eqv_ii]
  by_cases h1 : g = 0
  · by_cases h2 : i < (cells.length : Int)
    · have hj : i.toNat < cells.length := by omega
      have ec : atI (cells.map D.int) i = some (.int cells[i.toNat]) := at_nat hi (by simp [hj])
      have hcell := hc _ (List.getElem_mem hj)
      simp [h1, h2]
      generalize cells[i.toNat] = cell at *
      simp [wAsg, wgName, wPar, wPar3, wDrop, wRet, wRetN, wIfS, wNext, wTst, wOp, wUn, wFrz, frzD, frzM, wAnd, wOr, wNot, wIf, tAndW, tOrW, tNotW, wChain, wC, wVar, look, wNil, wCons, wTup, wLst, wNewK, wCB, w1, w2, wCall, wMeth, wMake, wIsi, isaQ, tyD, tyM, isaB, blQ, wLen, lenD, lenM, wLe, wLt, wGt, wGe, wAdd, wSub, wMul, wDiv, wMod, wPow, wNeg, wInt2, wInt1, wAbs, wIx, ixL, ixM, ixK, wIn, wNotIn, inD, inM, inK, keyD, wIsN, wNotN, isNonD, wBm, mApp, appM, mPop, popM, mUpd, updM, wDict2, dctM, wgSub, setM, wFld, fldM, wSFld, sfldM, wGet2, wGet1, wEq, wNe, asL, asLM, asK, asKM, asS, sstart, wFor, wgTup, wgCons, wgNil, wTuple, wList, wiL, wiT, wiS, wiK, wiIt, wiR1, wiR2, seqI, seqM, dicI, dicM, wSorted, wAll, wAny, wLc, wDc, wDisp, wpCons, wpNil, wLock, lockD, lockM, wItems, wDPop, dpopM, isDicM, wSl, slD, slM, wPart, wNoP, wipeS, wNever, retE, -List.lookup_eq_none_iff, ha, tapeD, t0, t1, t2, t3, ec]
      rw [wSeq_app]
      simp [wAsg, wgName, wPar, wPar3, wDrop, wRet, wRetN, wIfS, wNext, wTst, wOp, wUn, wFrz, frzD, frzM, wAnd, wOr, wNot, wIf, tAndW, tOrW, tNotW, wChain, wC, wVar, look, wNil, wCons, wTup, wLst, wNewK, wCB, w1, w2, wCall, wMeth, wMake, wIsi, isaQ, tyD, tyM, isaB, blQ, wLen, lenD, lenM, wLe, wLt, wGt, wGe, wAdd, wSub, wMul, wDiv, wMod, wPow, wNeg, wInt2, wInt1, wAbs, wIx, ixL, ixM, ixK, wIn, wNotIn, inD, inM, inK, keyD, wIsN, wNotN, isNonD, wBm, mApp, appM, mPop, popM, mUpd, updM, wDict2, dctM, wgSub, setM, wFld, fldM, wSFld, sfldM, wGet2, wGet1, wEq, wNe, asL, asLM, asK, asKM, asS, sstart, wFor, wgTup, wgCons, wgNil, wTuple, wList, wiL, wiT, wiS, wiK, wiIt, wiR1, wiR2, seqI, seqM, dicI, dicM, wSorted, wAll, wAny, wLc, wDc, wDisp, wpCons, wpNil, wLock, lockD, lockM, wItems, wDPop, dpopM, isDicM, wSl, slD, slM, wPart, wNoP, wipeS, wNever, retE, -List.lookup_eq_none_iff, ha, tapeD, t0, t1, t2, t3, ec, ixc1]
      rw [wSeq_app]
      simp [wAsg, wgName, wPar, wPar3, wDrop, wRet, wRetN, wNext, wTst, wOp, wUn, wFrz, frzD, frzM, wAnd, wOr, wNot, wIf, tAndW, tOrW, tNotW, wChain, wC, wVar, look, wNil, wCons, wTup, wLst, wNewK, wCB, w1, w2, wCall, wMeth, wMake, wIsi, isaQ, tyD, tyM, isaB, blQ, wLen, lenD, lenM, wLe, wLt, wGt, wGe, wAdd, wSub, wMul, wDiv, wMod, wPow, wNeg, wInt2, wInt1, wAbs, wIx, ixL, ixM, ixK, wIn, wNotIn, inD, inM, inK, keyD, wIsN, wNotN, isNonD, wBm, mApp, appM, mPop, popM, mUpd, updM, wDict2, dctM, wgSub, setM, wFld, fldM, wSFld, sfldM, wGet2, wGet1, wEq, wNe, asL, asLM, asK, asKM, asS, sstart, wFor, wgTup, wgCons, wgNil, wTuple, wList, wiL, wiT, wiS, wiK, wiIt, wiR1, wiR2, seqI, seqM, dicI, dicM, wSorted, wAll, wAny, wLc, wDc, wDisp, wpCons, wpNil, wLock, lockD, lockM, wItems, wDPop, dpopM, isDicM, wSl, slD, slM, wPart, wNoP, wipeS, wNever, retE, -List.lookup_eq_none_iff, ha, tapeD, t0, t1, t2, t3, ec, ixc3, cm1]
      simp [wAsg, wgName, wPar, wPar3, wDrop, wRet, wRetN, wIfS, wNext, wTst, wOp, wUn, wFrz, frzD, frzM, wAnd, wOr, wNot, wIf, tAndW, tOrW, tNotW, wChain, wC, wVar, look, wNil, wCons, wTup, wLst, wNewK, wCB, w1, w2, wCall, wMeth, wMake, wIsi, isaQ, tyD, tyM, isaB, blQ, wLen, lenD, lenM, wLe, wLt, wGt, wGe, wAdd, wSub, wMul, wDiv, wMod, wPow, wNeg, wInt2, wInt1, wAbs, wIx, ixL, ixM, ixK, wIn, wNotIn, inD, inM, inK, keyD, wIsN, wNotN, isNonD, wBm, mApp, appM, mPop, popM, mUpd, updM, wDict2, dctM, wgSub, setM, wFld, fldM, wSFld, sfldM, wGet2, wGet1, wEq, wNe, asL, asLM, asK, asKM, asS, sstart, wFor, wgTup, wgCons, wgNil, wTuple, wList, wiL, wiT, wiS, wiK, wiIt, wiR1, wiR2, seqI, seqM, dicI, dicM, wSorted, wAll, wAny, wLc, wDc, wDisp, wpCons, wpNil, wLock, lockD, lockM, wItems, wDPop, dpopM, isDicM, wSl, slD, slM, wPart, wNoP, wipeS, wNever, retE, -List.lookup_eq_none_iff, ha, tapeD, t0, t1, t2, t3, ec, ixc2, pw18]
      by_cases h3 : 1000000000000000000 ≤ cell
      · simp [h3]
        exact key _ (i + 1) cell _ _ (by omega) hcell
      · simp [h3]
        exact key _ (i + 1) g _ _ (by omega) hg
    · simp [h1, h2]
      rw [eO]
      exact key _ _ _ _ _ hi hg
  · simp [h1]
    rw [eO]
    exact key _ _ _ _ _ hi hg
theorem dfn_imp {P : Program} {w : World} {K : PySem.W.Frag} {mg : Str → Option Value} {base : Heap} {k : Nat} {f : Addr} {fd : FuncData} {ps : List Str} {S S' : SpD} (F : DFn P w K mg base k f fd ps S') (h : ∀ vs H R E, Lift S vs H R E → Lift S' vs H R E) : DFn P w K mg base k f fd ps S :=
  ⟨fun vs H Q E q => F.many _ _ _ _ (h _ _ _ _ q), fun A below s H args us vs Q E r e0 b rel q => F.go A below s H args us vs Q E r e0 b rel (h _ _ _ _ q)⟩
theorem pick_lift {vs : List V} {H : Hp} {R : VK} {E : XK} (h : Lift (S_law_pick CS) vs H R E) : Lift (S_pickL CS) vs H R E := by
  obtain ⟨Z, O, ds, Q, ro, rs, ⟨a, m, rfl, ha, h0, h1, q⟩, po⟩ := h
  obtain ⟨cells, i, g, s, n, c1, c2, c3, r2⟩ := ro.tapeOut ha
  refine ⟨Z, _, _, fun d O' => ∃ k i' g' s' n', d = .int k ∧ O' = updO (updO O a (.lst (tapeD cells i g s n))) a (.lst (tapeD cells i' g' s' n')) ∧ 0 ≤ k ∧ k < m ∧ 0 ≤ i' ∧ 0 ≤ g', r2, rs, ⟨a, cells, i, g, s, n, m, rfl, updO_same, c1, c2, c3, h0, h1, fun k i' g' s' n' k0 k1 i0 g0 => ⟨k, i', g', s', n', rfl, rfl, k0, k1, i0, g0⟩⟩, ?_⟩
  rintro v H' Z' d O' sz ro' rd ⟨k, i', g', s', n', rfl, rfl, k0, k1, i0, g0⟩
  have r3 := ro'.tapeIn (a := a) (cells := cells) (i := i') (g := g') (s := s') (n := n') (by rw [updO_same]) c1 i0 g0
  have e : updO (updO (updO O a (.lst (tapeD cells i g s n))) a (.lst (tapeD cells i' g' s' n'))) a .tape = O := by
    funext b
    by_cases hb : b = a
    · subst hb; rw [updO_same, ha]
    · rw [updO_ne hb, updO_ne hb, updO_ne hb]
  rw [e] at r3
  exact po _ _ _ _ _ sz r3 rd (q k k0 k1)
theorem len_pickL (h : S_pickL CS ds O Q) : ds.length = 2 := by obtain ⟨a, cells, i, g, s, n, m, rfl, _⟩ := h; rfl
end KH

set_option Elab.async false
set_option linter.all false
set_option maxRecDepth 100000
/-! KH: tables that are drawn -/
namespace KH
open PySem PySem.Spec PyProof.Rows L2 TD
variable {CS : CSt} {ds : List D} {O : OO} {Q : D → OO → Prop}
theorem flat_frz {x : D} (h : flatD x = true) {O : OO} {Q : D → OO → Prop} : frzD x O Q = Q x O := by cases x <;> first | rfl | cases h
theorem frz_int {i : Int} {O : OO} {Q : D → OO → Prop} : frzD (.int i) O Q = Q (.int i) O := rfl
theorem frz_str {i : Str} {O : OO} {Q : D → OO → Prop} : frzD (.str i) O Q = Q (.str i) O := rfl
theorem ix_of {d : D} {O : OO} {xs : List D} {k : Int} {x : D} {Q : D → OO → Prop} (h : asL d O = some xs) (e : atI xs k = some x) (q : Q x O) : wIx d (.int k) O Q := by
  cases d with
  | lst ds => cases h; exact ⟨x, e, q⟩
  | ref a =>
    replace h : asLM (O a) = some xs := h
    show ixM (.int k) (fun d => Q d O) (O a)
    cases e' : O a with
    | none => rw [e'] at h; cases h
    | some m =>
      rw [e'] at h
      cases m with
      | lst ds => cases h; exact ⟨x, e, q⟩
      | _ => cases h
  | _ => cases h
theorem len_of {d : D} {O : OO} {xs : List D} {Q : D → OO → Prop} (h : asL d O = some xs) (q : Q (.int xs.length) O) : wLen [d] O Q := by
  cases d with
  | lst ds => cases h; exact q
  | ref a =>
    replace h : asLM (O a) = some xs := h
    show lenM (fun n => Q (.int n) O) (O a)
    cases e' : O a with
    | none => rw [e'] at h; cases h
    | some m =>
      rw [e'] at h
      cases m with
      | lst ds => cases h; exact q
      | _ => cases h
  | _ => cases h
theorem law_law_any (h : S_law_any CS ds O Q) : W_law_any CS (retE Q) (sstart N_law_any ds) O := by
  obtain ⟨a, d, xs, rfl, ha, hd, h0, h1, hfl, q⟩ := h
  simp [W_law_any, wSeq, wAsg, wgName, wPar, wPar3, wDrop, wRet, wRetN, wIfS, wNext, wTst, wOp, wUn, wFrz, frzM, wAnd, wOr, wNot, wIf, tAndW, tOrW, tNotW, wChain, wC, wVar, look, wNil, wCons, wTup, wLst, wNewK, wCB, w1, w2, wCall, wMeth, wMake, wIsi, isaQ, tyD, tyM, isaB, blQ, lenD, lenM, wLe, wLt, wGt, wGe, wAdd, wSub, wMul, wDiv, wMod, wPow, wNeg, wInt2, wInt1, wAbs, ixL, ixM, ixK, wIn, wNotIn, inD, inM, inK, keyD, wIsN, wNotN, isNonD, wBm, mApp, appM, mPop, popM, mUpd, updM, wDict2, dctM, wgSub, setM, wFld, fldM, wSFld, sfldM, wGet2, wGet1, wEq, wNe, asL, asLM, asK, asKM, asS, sstart, wFor, wgTup, wgCons, wgNil, wTuple, wList, wiL, wiT, wiS, wiK, wiIt, wiR1, wiR2, seqI, seqM, dicI, dicM, wSorted, wAll, wAny, wLc, wDc, wDisp, wpCons, wpNil, wLock, lockD, lockM, wItems, wDPop, dpopM, isDicM, wSl, slD, slM, wPart, wNoP, wipeS, wNever, retE, -List.lookup_eq_none_iff]
  refine len_of hd ⟨a, xs.length, by simp, ha, by omega, by omega, fun k k0 k1 => ?_⟩
  have hk : k.toNat < xs.length := by omega
  refine ix_of hd (at_nat k0 (List.getElem?_eq_getElem hk)) ?_
  have hm := List.getElem_mem hk
  rw [flat_frz (hfl _ hm)]
  exact ret0 (q _ hm)
theorem le_put {O O' : OO} {f : Addr} {m : MO} (hle : Le O O') (e : O' f = some m) : Le (updO O f m) O' := fun b u hb => by
  by_cases h : b = f
  · subst h; rw [updO_same] at hb; rw [e, hb]
  · rw [updO_ne h] at hb; exact hle _ _ hb
theorem none_le {O O' : OO} (hle : Le O O') {f : Addr} (h : O' f = none) : O f = none := by
  cases e : O f with
  | none => rfl
  | some m => rw [hle _ _ e] at h; cases h
theorem law_law_table (h : S_law_table CS ds O Q) : W_law_table CS (retE Q) (sstart N_law_table ds) O := by
  obtain ⟨a, ns, rfl, ha, hns, q⟩ := h
  have sz := sizeLine_eq
  simp [W_law_table, wSeq, wAsg, wgName, wPar, wPar3, wDrop, wRet, wRetN, wIfS, wNext, wTst, wOp, wUn, wFrz, frzD, frzM, wAnd, wOr, wNot, wIf, tAndW, tOrW, tNotW, wChain, wC, wVar, look, wNil, wCons, wTup, wLst, wNewK, wCB, w1, w2, wCall, wMeth, wMake, wIsi, isaQ, tyD, tyM, isaB, blQ, wLen, lenD, lenM, wLe, wLt, wGt, wGe, wAdd, wSub, wMul, wDiv, wMod, wPow, wNeg, wInt2, wInt1, wAbs, wIx, ixL, ixM, ixK, wIn, wNotIn, inD, inM, inK, keyD, wIsN, wNotN, isNonD, wBm, mApp, appM, mPop, popM, mUpd, updM, wDict2, dctM, wgSub, setM, wFld, fldM, wSFld, sfldM, wGet2, wGet1, wEq, wNe, asL, asLM, asK, asKM, asS, sstart, wFor, wgTup, wgCons, wgNil, wTuple, wList, wiL, wiT, wiS, wiK, wiIt, wiR1, wiR2, seqI, seqM, dicI, dicM, wSorted, wAll, wAny, wLc, wDc, wDisp, wpCons, wpNil, wLock, lockD, lockM, wItems, wDPop, dpopM, isDicM, wSl, slD, slM, wPart, wNoP, wipeS, wNever, retE, -List.lookup_eq_none_iff]
  intro f hf0
  have haf : a ≠ f := neO ha hf0
  refine forN_run (fun r s O' => ∃ (rs : List Str) (tb : Tab) (nm : Option D), r = rs.map D.str ∧ (∀ n ∈ rs, n ∈ names4) ∧ s = [some (.ref a), some (.lst (ns.map D.str)), some (.ref f), nm] ∧ Le O O' ∧ O' f = some (.dic tb) ∧ TabOK tb) ?_ ?_ ?_
  · rintro d r s O' K hK ⟨rs, tb, nm, er, h4, rfl, hle, of, ht⟩
    cases rs with
    | nil => cases er
    | cons m rs =>
      simp only [List.map_cons, List.cons.injEq] at er
      obtain ⟨rfl, rfl⟩ := er
      have hm := h4 m List.mem_cons_self
      have hrs : ∀ n ∈ rs, n ∈ names4 := fun n hn => h4 n (List.mem_cons_of_mem _ hn)
      refine ⟨trivial, ?_⟩
      have lt := ht.len
      simp [wSeq, wgName, wPar, wPar3, wDrop, wRet, wRetN, wNext, wTst, wOp, wUn, wFrz, frzD, frzM, wAnd, wOr, wNot, wIf, tAndW, tOrW, tNotW, wChain, wC, wVar, look, wNil, wCons, wTup, wLst, wNewK, wCB, w1, w2, wCall, wMeth, wMake, wIsi, isaQ, tyD, tyM, isaB, blQ, wLen, lenD, lenM, wLe, wLt, wGt, wGe, wAdd, wSub, wMul, wDiv, wMod, wPow, wNeg, wInt2, wInt1, wAbs, wIx, ixL, ixM, ixK, wIn, wNotIn, inD, inM, inK, keyD, wIsN, wNotN, isNonD, wBm, mApp, appM, mPop, popM, mUpd, updM, wDict2, dctM, wgSub, setM, wFld, fldM, wSFld, sfldM, wGet2, wGet1, wEq, wNe, asL, asLM, asK, asKM, asS, sstart, wFor, wgTup, wgCons, wgNil, wTuple, wList, wiL, wiT, wiS, wiK, wiIt, wiR1, wiR2, seqI, seqM, dicI, dicM, wSorted, wAll, wAny, wLc, wDc, wDisp, wpCons, wpNil, wLock, lockD, lockM, wItems, wDPop, dpopM, isDicM, wSl, slD, slM, wPart, wNoP, wipeS, wNever, retE, -List.lookup_eq_none_iff]
      simp [wSeq, wgName, wPar, wPar3, wDrop, wRet, wRetN, wIfS, wNext, wTst, wOp, wUn, wFrz, frzD, frzM, wAnd, wOr, wNot, wIf, tAndW, tOrW, tNotW, wChain, wC, wVar, look, wNil, wCons, wTup, wLst, wNewK, wCB, w1, w2, wCall, wMeth, wMake, wIsi, isaQ, tyD, tyM, isaB, blQ, wLen, lenD, lenM, wLe, wLt, wGt, wGe, wAdd, wSub, wMul, wDiv, wMod, wPow, wNeg, wInt2, wInt1, wAbs, wIx, ixL, ixM, ixK, wIn, wNotIn, inD, inM, inK, keyD, wIsN, wNotN, isNonD, wBm, mApp, appM, mPop, popM, mUpd, updM, wDict2, dctM, wgSub, setM, wFld, fldM, wSFld, sfldM, wGet2, wGet1, wEq, wNe, asL, asLM, asK, asKM, asS, sstart, wFor, wgTup, wgCons, wgNil, wTuple, wList, wiL, wiT, wiS, wiK, wiIt, wiR1, wiR2, seqI, seqM, dicI, dicM, wSorted, wAll, wAny, wLc, wDc, wDisp, wpCons, wpNil, wLock, lockD, lockM, wItems, wDPop, dpopM, isDicM, wSl, slD, slM, wPart, wNoP, wipeS, wNever, retE, -List.lookup_eq_none_iff]
      refine ⟨a, 3, by simp, hle _ _ ha, by omega, by omega, fun k k0 k1 => ?_⟩
      by_cases hk : 0 < k
      · simp [hk]
        simp [wSeq, wAsg, wgName, wPar, wPar3, wDrop, wRet, wRetN, wIfS, wNext, wTst, wOp, wUn, wFrz, wAnd, wOr, wNot, wIf, tAndW, tOrW, tNotW, wChain, wC, wVar, look, wNil, wCons, wTup, wLst, wNewK, wCB, w1, w2, wCall, wMeth, wMake, wIsi, isaQ, tyD, tyM, isaB, blQ, wLen, lenD, lenM, wLe, wLt, wGt, wGe, wAdd, wSub, wMul, wDiv, wMod, wPow, wNeg, wInt2, wInt1, wAbs, wIx, ixL, ixM, ixK, wIn, wNotIn, inD, inM, inK, keyD, wIsN, wNotN, isNonD, wBm, mApp, appM, mPop, popM, mUpd, updM, wDict2, dctM, wgSub, setM, wFld, fldM, wSFld, sfldM, wGet2, wGet1, wEq, wNe, asL, asLM, asK, asKM, asS, sstart, wFor, wgTup, wgCons, wgNil, wTuple, wList, wiL, wiT, wiS, wiK, wiIt, wiR1, wiR2, seqI, seqM, dicI, dicM, wSorted, wAll, wAny, wLc, wDc, wDisp, wpCons, wpNil, wLock, lockD, lockM, wItems, wDPop, dpopM, isDicM, wSl, slD, slM, wPart, wNoP, wipeS, wNever, retE, -List.lookup_eq_none_iff, frz_int, frz_str]
        intro b hb
        have hbf : f ≠ b := neO of hb
        have hba : a ≠ b := neO (hle _ _ ha) hb
        refine ⟨a, .ref b, _, rfl, by rw [updO_ne hba, hle _ _ ha], asL_ref updO_same, by simp, by simp, by simp [flatD], fun x hx => ?_⟩
        have hv : x ∈ vals := by
          simp only [List.mem_cons, List.mem_nil_iff, or_false] at hx
          rcases hx with rfl | rfl | rfl | rfl | rfl | rfl | rfl | rfl | rfl | rfl <;> simp [vals]
        show frzD x _ _
        rw [fl_frz (vals_fl hv)]
        simp [updO_ne hbf, of]
        refine ⟨by omega, hK _ _ ⟨rs, _, _, rfl, hrs, rfl, (hle.upd (none_le hle hb)).upd hf0, updO_same, ht.put hm hv⟩⟩
      · simp [hk]
        exact hK _ _ ⟨rs, tb, _, rfl, hrs, rfl, hle, of, ht⟩
  · rintro s O' ⟨rs, tb, nm, er, h4, rfl, hle, of, ht⟩
    refine ⟨trivial, ?_⟩
    simp [wSeq, wAsg, wgName, wPar, wPar3, wDrop, wRet, wRetN, wIfS, wNext, wTst, wOp, wUn, wFrz, frzD, frzM, wAnd, wOr, wNot, wIf, tAndW, tOrW, tNotW, wChain, wC, wVar, look, wNil, wCons, wTup, wLst, wNewK, wCB, w1, w2, wCall, wMeth, wMake, wIsi, isaQ, tyD, tyM, isaB, blQ, wLen, lenD, lenM, wLe, wLt, wGt, wGe, wAdd, wSub, wMul, wDiv, wMod, wPow, wNeg, wInt2, wInt1, wAbs, wIx, ixL, ixM, ixK, wIn, wNotIn, inD, inM, inK, keyD, wIsN, wNotN, isNonD, wBm, mApp, appM, mPop, popM, mUpd, updM, wDict2, dctM, wgSub, setM, wFld, fldM, wSFld, sfldM, wGet2, wGet1, wEq, wNe, asL, asLM, asK, asKM, asS, sstart, wFor, wgTup, wgCons, wgNil, wTuple, wList, wiL, wiT, wiS, wiK, wiIt, wiR1, wiR2, seqI, seqM, dicI, dicM, wSorted, wAll, wAny, wLc, wDc, wDisp, wpCons, wpNil, wLock, lockD, lockM, wItems, wDPop, dpopM, isDicM, wSl, slD, slM, wPart, wNoP, wipeS, wNever, retE, -List.lookup_eq_none_iff]
    exact ⟨_, le_put hle of, q tb f ht hf0⟩
  · exact ⟨ns, [], _, rfl, hns.2, rfl, (Le.refl O).upd hf0, updO_same, TabOK.nil⟩
theorem law_law_turned (h : S_law_turned CS ds O Q) : W_law_turned CS (retE Q) (sstart N_law_turned ds) O := by
  obtain ⟨a, ns, t0, rfl, ha, hns, ht0, q⟩ := h
  have sz := sizeLine_eq
  simp [W_law_turned, wSeq, wAsg, wgName, wPar, wPar3, wDrop, wRet, wRetN, wIfS, wNext, wTst, wOp, wUn, wFrz, frzD, frzM, wAnd, wOr, wNot, wIf, tAndW, tOrW, tNotW, wChain, wC, wVar, look, wNil, wCons, wTup, wLst, wNewK, wCB, w1, w2, wCall, wMeth, wMake, wIsi, isaQ, tyD, tyM, isaB, blQ, wLen, lenD, lenM, wLe, wLt, wGt, wGe, wAdd, wSub, wMul, wDiv, wMod, wPow, wNeg, wInt2, wInt1, wAbs, wIx, ixL, ixM, ixK, wIn, wNotIn, inD, inM, inK, keyD, wIsN, wNotN, isNonD, wBm, mApp, appM, mPop, popM, mUpd, updM, wgSub, setM, wFld, fldM, wSFld, sfldM, wGet2, wGet1, wEq, wNe, asL, asLM, asS, sstart, wgTup, wgCons, wgNil, wTuple, wList, wiL, wiT, wiS, wiK, wiIt, wiR1, wiR2, seqI, seqM, dicI, dicM, wSorted, wAll, wAny, wLc, wDc, wDisp, wpCons, wpNil, wLock, lockD, lockM, wItems, wDPop, dpopM, isDicM, wSl, slD, slM, wPart, wNoP, wipeS, wNever, retE, -List.lookup_eq_none_iff]
  refine ⟨t0, rfl, fun g hg => ?_⟩
  have eP : asP (itemsD t0) = some t0 := by
    have := asP_items (t := t0) (u := []) (ds := []) rfl
    simpa using this
  simp [wDict2, w1, dctM, eP]
  intro f hf
  obtain ⟨hfg, hf0⟩ := none_upd hf
  simp [wSeq, wAsg, wgName, wPar, wPar3, wDrop, wRet, wRetN, wIfS, wNext, wTst, wOp, wUn, wFrz, frzD, frzM, wAnd, wOr, wNot, wIf, tAndW, tOrW, tNotW, wChain, wC, wVar, look, wNil, wCons, wTup, wLst, wNewK, wCB, w1, w2, wCall, wMeth, wMake, wIsi, isaQ, tyD, tyM, isaB, blQ, wLen, lenD, lenM, wLe, wLt, wGt, wGe, wAdd, wSub, wMul, wDiv, wMod, wPow, wNeg, wInt2, wInt1, wAbs, wIx, ixL, ixM, ixK, wIn, wNotIn, inD, inM, inK, keyD, wIsN, wNotN, isNonD, wBm, mApp, appM, mPop, popM, mUpd, updM, wgSub, setM, wFld, fldM, wSFld, sfldM, wGet2, wGet1, wEq, wNe, asL, asLM, asS, sstart, wFor, wgTup, wgCons, wgNil, wTuple, wList, wiL, wiT, wiS, wiK, wiIt, wiR1, wiR2, seqI, seqM, dicI, dicM, wSorted, wAll, wAny, wLc, wDc, wDisp, wpCons, wpNil, wLock, lockD, lockM, wItems, wDPop, dpopM, isDicM, wSl, slD, slM, wPart, wNoP, wipeS, wNever, retE, -List.lookup_eq_none_iff]
  refine forN_run (fun r s O' => ∃ (rs : List Str) (tb : Tab) (nm wy : Option D), r = rs.map D.str ∧ (∀ n ∈ rs, n ∈ names4) ∧ s = [some (.ref a), some (.lst (ns.map D.str)), some (.dic t0), some (.ref f), nm, wy] ∧ Le O O' ∧ O' f = some (.dic tb) ∧ TabOK tb) ?_ ?_ ?_
  · rintro d r s O' K hK ⟨rs, tb, nm, wy, er, h4, rfl, hle, of, ht⟩
    cases rs with
    | nil => cases er
    | cons m rs =>
      simp only [List.map_cons, List.cons.injEq] at er
      obtain ⟨rfl, rfl⟩ := er
      have hm := h4 m List.mem_cons_self
      have hrs : ∀ n ∈ rs, n ∈ names4 := fun n hn => h4 n (List.mem_cons_of_mem _ hn)
      refine ⟨trivial, ?_⟩
      have lt := ht.len
      simp [wSeq, wAsg, wgName, wPar, wPar3, wDrop, wRet, wRetN, wNext, wTst, wOp, wUn, wFrz, frzD, frzM, wAnd, wOr, wNot, wIf, tAndW, tOrW, tNotW, wChain, wC, wVar, look, wNil, wCons, wTup, wLst, wNewK, wCB, w1, w2, wCall, wMeth, wMake, wIsi, isaQ, tyD, tyM, isaB, blQ, wLen, lenD, lenM, wLe, wLt, wGt, wGe, wAdd, wSub, wMul, wDiv, wMod, wPow, wNeg, wInt2, wInt1, wAbs, wIx, ixL, ixM, ixK, wIn, wNotIn, inD, inM, inK, keyD, wIsN, wNotN, isNonD, wBm, mApp, appM, mPop, popM, mUpd, updM, wDict2, dctM, wgSub, setM, wFld, fldM, wSFld, sfldM, wGet2, wGet1, wEq, wNe, asL, asLM, asK, asKM, asS, sstart, wFor, wgTup, wgCons, wgNil, wTuple, wList, wiL, wiT, wiS, wiK, wiIt, wiR1, wiR2, seqI, seqM, dicI, dicM, wSorted, wAll, wAny, wLc, wDc, wDisp, wpCons, wpNil, wLock, lockD, lockM, wItems, wDPop, dpopM, isDicM, wSl, slD, slM, wPart, wNoP, wipeS, wNever, retE, -List.lookup_eq_none_iff]
      refine ⟨a, 5, by simp, hle _ _ ha, by omega, by omega, fun k k0 k1 => ?_⟩
      simp [wSeq, wgName, wPar, wPar3, wRet, wRetN, wNext, wTst, wOp, wUn, wFrz, frzD, frzM, wAnd, wOr, wNot, wIf, tAndW, tOrW, tNotW, wChain, wC, wVar, look, wNil, wCons, wTup, wLst, wNewK, wCB, w1, w2, wCall, wMeth, wMake, wIsi, isaQ, tyD, tyM, isaB, blQ, wLen, lenD, lenM, wLe, wLt, wGt, wGe, wAdd, wSub, wMul, wDiv, wMod, wPow, wNeg, wInt2, wInt1, wAbs, wIx, ixL, ixM, ixK, wIn, wNotIn, inD, inM, inK, keyD, wIsN, wNotN, isNonD, wBm, mApp, appM, mPop, popM, mUpd, updM, wDict2, dctM, wgSub, setM, wFld, fldM, wSFld, sfldM, wGet2, wGet1, wEq, wNe, asL, asLM, asK, asKM, asS, sstart, wFor, wgTup, wgCons, wgNil, wTuple, wList, wiL, wiT, wiS, wiK, wiIt, wiR1, wiR2, seqI, seqM, dicI, dicM, wSorted, wAll, wAny, wLc, wDc, wDisp, wpCons, wpNil, wLock, lockD, lockM, wItems, wDPop, dpopM, isDicM, wSl, slD, slM, wPart, wNoP, wipeS, wNever, retE, -List.lookup_eq_none_iff]
      simp [wSeq, wgName, wPar, wPar3, wRet, wRetN, wIfS, wNext, wTst, wOp, wUn, wFrz, frzD, frzM, wAnd, wOr, wNot, wIf, tAndW, tOrW, tNotW, wChain, wC, wVar, look, wNil, wCons, wTup, wLst, wNewK, wCB, w1, w2, wCall, wMeth, wMake, wIsi, isaQ, tyD, tyM, isaB, blQ, wLen, lenD, lenM, wLe, wLt, wGt, wGe, wAdd, wSub, wMul, wDiv, wMod, wPow, wNeg, wInt2, wInt1, wAbs, wIx, ixL, ixM, ixK, wIn, wNotIn, inD, inM, inK, keyD, wIsN, wNotN, isNonD, wBm, mApp, appM, mPop, popM, mUpd, updM, wDict2, dctM, wgSub, setM, wFld, fldM, wSFld, sfldM, wGet2, wGet1, wEq, wNe, asL, asLM, asK, asKM, asS, sstart, wFor, wgTup, wgCons, wgNil, wTuple, wList, wiL, wiT, wiS, wiK, wiIt, wiR1, wiR2, seqI, seqM, dicI, dicM, wSorted, wAll, wAny, wLc, wDc, wDisp, wpCons, wpNil, wLock, lockD, lockM, wItems, wDPop, dpopM, isDicM, wSl, slD, slM, wPart, wNoP, wipeS, wNever, retE, -List.lookup_eq_none_iff, cmp_ii, dp_i, eqv_ii]
      have rest : ∀ (O1 : OO) (tb : Tab), Le O O1 → O1 f = some (.dic tb) → TabOK tb → (if k = 1 then True else True) → K [some (.ref a), some (.lst (ns.map D.str)), some (.dic t0), some (.ref f), some (.str m), some (.int k)] O1 := fun O1 tb l o t _ => hK _ _ ⟨rs, tb, _, _, rfl, hrs, rfl, l, o, t⟩
      by_cases hk : k = 0
      · subst hk
        simp
        simp [wSeq, wAsg, wgName, wPar, wPar3, wRet, wRetN, wNext, wTst, wOp, wUn, wFrz, wAnd, wOr, wNot, wIf, tAndW, tOrW, tNotW, wChain, wC, wVar, look, wNil, wCons, wTup, wLst, wNewK, wCB, w1, w2, wCall, wMeth, wMake, wIsi, isaQ, tyD, tyM, isaB, blQ, wLen, lenD, lenM, wLe, wLt, wGt, wGe, wAdd, wSub, wMul, wDiv, wMod, wPow, wNeg, wInt2, wInt1, wAbs, wIx, ixL, ixM, ixK, wIn, wNotIn, inD, inM, inK, keyD, wIsN, wNotN, isNonD, wBm, mApp, appM, mPop, popM, mUpd, updM, wDict2, dctM, wgSub, setM, wFld, fldM, wSFld, sfldM, wGet2, wGet1, wEq, wNe, asL, asLM, asK, asKM, asS, sstart, wFor, wgTup, wgCons, wgNil, wTuple, wList, wiL, wiT, wiS, wiK, wiIt, wiR1, wiR2, seqI, seqM, dicI, dicM, wSorted, wAll, wAny, wLc, wDc, wDisp, wpCons, wpNil, wLock, lockD, lockM, wItems, wDPop, dpopM, isDicM, wSl, slD, slM, wPart, wNoP, wipeS, wNever, retE, -List.lookup_eq_none_iff, frz_int, frz_str]
        intro b hb
        have hbf : f ≠ b := neO of hb
        have hba : a ≠ b := neO (hle _ _ ha) hb
        refine ⟨a, .ref b, _, rfl, by rw [updO_ne hba, hle _ _ ha], asL_ref updO_same, by simp, by simp, by simp [flatD], fun x hx => ?_⟩
        have hv : x ∈ vals := by
          simp only [List.mem_cons, List.mem_nil_iff, or_false] at hx
          rcases hx with rfl | rfl | rfl | rfl | rfl | rfl <;> simp [vals]
        show frzD x _ _
        rw [fl_frz (vals_fl hv)]
        simp [updO_ne hbf, of]
        refine ⟨by omega, ?_⟩
        simp [wSeq, wAsg, wgName, wPar, wPar3, wDrop, wRet, wRetN, wIfS, wNext, wTst, wOp, wUn, wFrz, frzD, frzM, wAnd, wOr, wNot, wIf, tAndW, tOrW, tNotW, wChain, wC, wVar, look, wNil, wCons, wTup, wLst, wNewK, wCB, w1, w2, wCall, wMeth, wMake, wIsi, isaQ, tyD, tyM, isaB, blQ, wLen, lenD, lenM, wLe, wLt, wGt, wGe, wAdd, wSub, wMul, wDiv, wMod, wPow, wNeg, wInt2, wInt1, wAbs, wIx, ixL, ixM, ixK, wIn, wNotIn, inD, inM, inK, keyD, wIsN, wNotN, isNonD, wBm, mApp, appM, mPop, popM, mUpd, updM, wDict2, dctM, wgSub, setM, wFld, fldM, wSFld, sfldM, wGet2, wGet1, wEq, wNe, asL, asLM, asK, asKM, asS, sstart, wFor, wgTup, wgCons, wgNil, wTuple, wList, wiL, wiT, wiS, wiK, wiIt, wiR1, wiR2, seqI, seqM, dicI, dicM, wSorted, wAll, wAny, wLc, wDc, wDisp, wpCons, wpNil, wLock, lockD, lockM, wItems, wDPop, dpopM, isDicM, wSl, slD, slM, wPart, wNoP, wipeS, wNever, retE, -List.lookup_eq_none_iff, cmp_ii, dp_i, eqv_ii]
        exact rest _ _ ((hle.upd (none_le hle hb)).upd hf0) updO_same (ht.put hm hv) (by simp)
      · simp [hk]
        by_cases hk1 : k = 1
        · subst hk1
          simp [wSeq, wAsg, wgName, wPar, wPar3, wDrop, wRet, wRetN, wIfS, wNext, wTst, wOp, wUn, wFrz, frzD, frzM, wAnd, wOr, wNot, wIf, tAndW, tOrW, tNotW, wChain, wC, wVar, look, wNil, wCons, wTup, wLst, wNewK, wCB, w1, w2, wCall, wMeth, wMake, wIsi, isaQ, tyD, tyM, isaB, blQ, wLen, lenD, lenM, wLe, wLt, wGt, wGe, wAdd, wSub, wMul, wDiv, wMod, wPow, wNeg, wInt2, wInt1, wAbs, wIx, ixL, ixM, ixK, wIn, wNotIn, inD, inM, inK, keyD, wIsN, wNotN, isNonD, wBm, mApp, appM, mPop, popM, mUpd, updM, wDict2, dctM, wgSub, setM, wFld, fldM, wSFld, sfldM, wGet2, wGet1, wEq, wNe, asL, asLM, asK, asKM, asS, sstart, wFor, wgTup, wgCons, wgNil, wTuple, wList, wiL, wiT, wiS, wiK, wiIt, wiR1, wiR2, seqI, seqM, dicI, dicM, wSorted, wAll, wAny, wLc, wDc, wDisp, wpCons, wpNil, wLock, lockD, lockM, wItems, wDPop, dpopM, isDicM, wSl, slD, slM, wPart, wNoP, wipeS, wNever, retE, -List.lookup_eq_none_iff, cmp_ii, dp_i, eqv_ii, of]
          cases ev : valG tb (.inr m) with
          | none =>
            simp
            exact rest _ _ hle of ht (by simp)
          | some z =>
            simp
            exact rest _ _ (hle.upd hf0) updO_same (ht.drop _) (by simp)
        · simp [wSeq, wAsg, wgName, wPar, wPar3, wDrop, wRet, wRetN, wIfS, wNext, wTst, wOp, wUn, wFrz, frzD, frzM, wAnd, wOr, wNot, wIf, tAndW, tOrW, tNotW, wChain, wC, wVar, look, wNil, wCons, wTup, wLst, wNewK, wCB, w1, w2, wCall, wMeth, wMake, wIsi, isaQ, tyD, tyM, isaB, blQ, wLen, lenD, lenM, wLe, wLt, wGt, wGe, wAdd, wSub, wMul, wDiv, wMod, wPow, wNeg, wInt2, wInt1, wAbs, wIx, ixL, ixM, ixK, wIn, wNotIn, inD, inM, inK, keyD, wIsN, wNotN, isNonD, wBm, mApp, appM, mPop, popM, mUpd, updM, wDict2, dctM, wgSub, setM, wFld, fldM, wSFld, sfldM, wGet2, wGet1, wEq, wNe, asL, asLM, asK, asKM, asS, sstart, wFor, wgTup, wgCons, wgNil, wTuple, wList, wiL, wiT, wiS, wiK, wiIt, wiR1, wiR2, seqI, seqM, dicI, dicM, wSorted, wAll, wAny, wLc, wDc, wDisp, wpCons, wpNil, wLock, lockD, lockM, wItems, wDPop, dpopM, isDicM, wSl, slD, slM, wPart, wNoP, wipeS, wNever, retE, -List.lookup_eq_none_iff, cmp_ii, dp_i, eqv_ii, hk1]
          exact rest _ _ hle of ht (by simp)
  · rintro s O' ⟨rs, tb, nm, wy, er, h4, rfl, hle, of, ht⟩
    refine ⟨trivial, ?_⟩
    simp [wSeq, wAsg, wgName, wPar, wPar3, wDrop, wRet, wRetN, wIfS, wNext, wTst, wOp, wUn, wFrz, frzD, frzM, wAnd, wOr, wNot, wIf, tAndW, tOrW, tNotW, wChain, wC, wVar, look, wNil, wCons, wTup, wLst, wNewK, wCB, w1, w2, wCall, wMeth, wMake, wIsi, isaQ, tyD, tyM, isaB, blQ, wLen, lenD, lenM, wLe, wLt, wGt, wGe, wAdd, wSub, wMul, wDiv, wMod, wPow, wNeg, wInt2, wInt1, wAbs, wIx, ixL, ixM, ixK, wIn, wNotIn, inD, inM, inK, keyD, wIsN, wNotN, isNonD, wBm, mApp, appM, mPop, popM, mUpd, updM, wDict2, dctM, wgSub, setM, wFld, fldM, wSFld, sfldM, wGet2, wGet1, wEq, wNe, asL, asLM, asK, asKM, asS, sstart, wFor, wgTup, wgCons, wgNil, wTuple, wList, wiL, wiT, wiS, wiK, wiIt, wiR1, wiR2, seqI, seqM, dicI, dicM, wSorted, wAll, wAny, wLc, wDc, wDisp, wpCons, wpNil, wLock, lockD, lockM, wItems, wDPop, dpopM, isDicM, wSl, slD, slM, wPart, wNoP, wipeS, wNever, retE, -List.lookup_eq_none_iff, of]
    exact retL (hle.rem hf0) (q tb ht)
  · exact ⟨ns, _, _, _, rfl, hns.2, rfl, ((Le.refl O).upd hg).upd hf0, updO_same, TabOK.nil.merge ht0⟩
end KH

set_option Elab.async false
set_option linter.all false
set_option maxRecDepth 100000
/-! KH: a history grows -/
namespace KH
open PySem PySem.Spec PyProof.Rows L2 TD
variable {CS : CSt} {ds : List D} {O : OO} {Q : D → OO → Prop}
theorem linesD_add {S : Hist} (w : Wf S) (tb : Tab) (ps : List Int) : linesD (S.add tb ps) = linesD S ++ [lineD tb ps] := by
  unfold linesD Hist.add
  have : S.tabs.length = S.pars.length := w.len
  rw [List.zipWith_append this]
  rfl
theorem linesD_len {S : Hist} (w : Wf S) : (linesD S).length = S.n := by
  unfold linesD
  have : S.tabs.length = S.pars.length := w.len
  rw [List.length_zipWith, this, Nat.min_self]
  rfl
theorem Two.put {tp h t p ln : Addr} {S S' : Hist} (T : Two CS O tp h t p ln S) (w : Wf S') : Two CS (putL O t p ln S') tp h t p ln S' := by
  have e1 : tp ≠ t := fun e => by subst e; have := T.tape.symm.trans T.isH.ot; cases this
  have e2 : tp ≠ p := fun e => by subst e; have := T.tape.symm.trans T.isH.op; cases this
  have e3 : tp ≠ ln := fun e => by subst e; have := T.tape.symm.trans T.lines; cases this
  have e4 : h ≠ ln := fun e => by subst e; have := T.isH.oh.symm.trans T.lines; cases this
  have H' := T.isH.put (S' := S')
  refine ⟨?_, ⟨?_, ?_, ?_, H'.tp⟩, updO_same, T.lt, T.lp, w⟩
  · unfold putL putH; rw [updO_ne e3, updO_ne e2, updO_ne e1, T.tape]
  · unfold putL; rw [updO_ne e4, H'.oh]
  · unfold putL; rw [updO_ne T.lt.symm, H'.ot]
  · unfold putL; rw [updO_ne T.lp.symm, H'.op]
theorem putL_same {tp h t p ln : Addr} {S : Hist} (T : Two CS O tp h t p ln S) : putL O t p ln S = O := by
  funext b
  unfold putL putH
  by_cases b0 : b = ln
  · subst b0; rw [updO_same, T.lines]
  · rw [updO_ne b0]
    by_cases b1 : b = p
    · subst b1; rw [updO_same, T.isH.op]
    · rw [updO_ne b1]
      by_cases b2 : b = t
      · subst b2; rw [updO_same, T.isH.ot]
      · rw [updO_ne b2]
theorem putL_alt {t p ln : Addr} (h1 : ln ≠ t) (h2 : ln ≠ p) {S : Hist} : putH (updO O ln (.lst (linesD S))) t p S = putL O t p ln S := by
  funext b
  unfold putL putH
  by_cases b0 : b = ln
  · subst b0; rw [updO_same, updO_ne h2, updO_ne h1, updO_same]
  · rw [updO_ne b0]
    by_cases b1 : b = p
    · subst b1; rw [updO_same, updO_same]
    · rw [updO_ne b1, updO_ne b1]
      by_cases b2 : b = t
      · subst b2; rw [updO_same, updO_same]
      · rw [updO_ne b2, updO_ne b2, updO_ne b0]
theorem putL_alt2 {t p ln : Addr} {S : Hist} : updO (putH O t p S) ln (.lst (linesD S)) = putL O t p ln S := rfl
theorem le_putH {O O' : OO} (h : Le O O') (t p : Addr) (S : Hist) : Le (putH O t p S) (putH O' t p S) := fun b m e => by
  unfold KH.putH at e ⊢
  by_cases b1 : b = p
  · subst b1; rw [updO_same] at e ⊢; exact e
  · rw [updO_ne b1] at e ⊢
    by_cases b2 : b = t
    · subst b2; rw [updO_same] at e ⊢; exact e
    · rw [updO_ne b2] at e ⊢; exact h _ _ e
theorem le_putL {O O' : OO} (h : Le O O') (t p ln : Addr) (S : Hist) : Le (putL O t p ln S) (putL O' t p ln S) := fun b m e => by
  unfold KH.putL at e ⊢
  by_cases b1 : b = ln
  · subst b1; rw [updO_same] at e ⊢; exact e
  · rw [updO_ne b1] at e ⊢; exact (le_putH h t p S) _ _ e
/-! ### equal tables -/
theorem val_of {κ ν : Type} [DecidableEq κ] : ∀ {t : List (κ × ν)} {k : κ} {v : ν}, (t.map (·.1)).Nodup → (k, v) ∈ t → valG t k = some v
  | (j, u) :: r, k, v, hn, hm => by
    have h1 := List.nodup_cons.mp (show (j :: r.map (·.1)).Nodup from hn)
    rw [valG_cons]
    rcases List.mem_cons.mp hm with e | hm
    · cases e; simp
    · have : j ≠ k := fun e => by subst e; exact h1.1 (List.mem_map_of_mem (f := (·.1)) hm)
      rw [if_neg this]
      exact val_of h1.2 hm
theorem tab_self {t : Tab} (ht : TabOK t) : cmpD (.dic t) (.dic t) = true ∧ eqvD (.dic t) (.dic t) = true ∧ dpD (.dic t) = 1 ∧ neK (.dic t) (.dic t) = true := by
  have go : ∀ r : Tab, (∀ kv ∈ r, kv ∈ t) → cmpK r t = true ∧ eqvK r t = true ∧ dpK r = 0 := by
    intro r
    induction r with
    | nil => intro _; refine ⟨by rw [cmpK], by rw [eqvK], by rw [dpK]⟩
    | cons kv r ih =>
      intro h
      obtain ⟨k, d⟩ := kv
      obtain ⟨i1, i2, i3⟩ := ih fun x hx => h x (List.mem_cons_of_mem _ hx)
      have hm := h (k, d) List.mem_cons_self
      have hv := val_of ht.nd hm
      have hf := vals_fl (ht.mem _ hm).2
      refine ⟨?_, ?_, ?_⟩
      · rw [cmpK, hv, i1, Bool.and_true]; exact fl_cmp hf hf
      · rw [eqvK, hv, i2, Bool.and_true]; exact (fl_eqv hf hf).mpr rfl
      · rw [dpK, i3, fl_dp hf]; rfl
  obtain ⟨i1, i2, i3⟩ := go t fun _ h => h
  refine ⟨by rw [cmpD]; exact i1, ?_, by rw [dpD, i3], rfl⟩
  rw [eqvD, i2, Bool.and_true]
  simp
theorem eqv_ss {a b : Str} : eqvD (.str a) (.str b) = (a == b) := by rw [eqvD]
theorem cmp_ss {a b : Str} : cmpD (.str a) (.str b) = true := rfl
theorem dp_s {a : Str} : dpD (.str a) = 0 := rfl
theorem ne_ss {a b : Str} : neK (.str a) (.str b) = true := rfl
/-! ### merges stay -/
theorem setL_succ (n : Nat) (P : Int → Bool) : setL (n + 1) P = setL n P ++ (if P (n : Int) = true then [(n : Int)] else []) := by
  unfold setL
  rw [List.range_succ, List.map_append, List.filter_append]
  congr 1
  simp [List.filter_cons]
theorem bases_add {S : Hist} (w : Wf S) {t : Tab} {ps : List Int} (w' : Wf (S.add t ps)) {u v : Int} (u0 : 0 ≤ u) (u1 : u < S.n) (v0 : 0 ≤ v) (v1 : v < S.n) : basesL (S.add t ps) u v = basesL S u v := by
  have hn : (S.add t ps).n = S.n + 1 := by simp [Hist.add, Hist.n]
  have ecm : (setL (S.add t ps).n fun x => (S.add t ps).rc u x && (S.add t ps).rc v x) = setL S.n fun x => S.rc u x && S.rc v x := by
    rw [hn, setL_succ]
    have : ((S.add t ps).rc u (S.n : Int) && (S.add t ps).rc v (S.n : Int)) = false := by
      cases e : (S.add t ps).rc u (S.n : Int) with
      | false => rfl
      | true =>
        have := rc_le w' u0 (by omega) e
        omega
    rw [this, if_neg Bool.false_ne_true, List.append_nil]
    exact setL_congr fun x _ _ => by rw [rc_add w u0 u1, rc_add w v0 v1]
  unfold basesL
  rw [ecm]
  refine List.filter_congr fun x _ => ?_
  congr 1
  rw [Bool.eq_iff_iff, List.any_eq_true, List.any_eq_true]
  constructor
  · rintro ⟨y, hy, q⟩
    have := mem_setL.mp hy
    rw [rc_add w this.1 this.2.1] at q
    exact ⟨y, hy, q⟩
  · rintro ⟨y, hy, q⟩
    have := mem_setL.mp hy
    rw [← rc_add (t := t) (ps := ps) w this.1 this.2.1] at q
    exact ⟨y, hy, q⟩
theorem MOK.add {S : Hist} (m : MOK S) (w : Wf S) {t : Tab} {ps : List Int} (w' : Wf (S.add t ps)) (h : ∀ u v, ps = [u, v] → ∀ b tb tu tv, (basesL S u v)[0]? = some b → S.tabs[b.toNat]? = some tb → S.tabs[u.toNat]? = some tu → S.tabs[v.toNat]? = some tv → t = (mrg tb tu tv).1) : MOK (S.add t ps) := by
  intro i u v e b tb tu tv eb etb etu etv
  have hlen : S.tabs.length = S.n := w.len
  have hpn : S.n = S.pars.length := rfl
  have hpar := (w'.par i _ e).2.1
  have hu := hpar u (by simp)
  have hv := hpar v (by simp)
  have hi : i ≤ S.n := by
    have := (List.getElem?_eq_some_iff.mp e).1
    have e2 : (S.add t ps).pars.length = S.n + 1 := by simp [Hist.add, Hist.n]
    omega
  have tl : ∀ (k : Int), 0 ≤ k → k < S.n → (S.add t ps).tabs[k.toNat]? = S.tabs[k.toNat]? := fun k k0 k1 => by
    show (S.tabs ++ [t])[k.toNat]? = _
    exact List.getElem?_append_left (by omega)
  rw [bases_add w w' hu.1 (by omega) hv.1 (by omega)] at eb
  have hb := bases_sub (S := S) (u := u) (v := v) (x := b) (List.mem_of_getElem? eb)
  rw [tl b hb.1 hb.2] at etb
  rw [tl u hu.1 (by omega)] at etu
  rw [tl v hv.1 (by omega)] at etv
  by_cases hin : i < S.n
  · have e1 : (S.pars ++ [ps])[i]? = S.pars[i]? := List.getElem?_append_left (by omega)
    rw [show (S.add t ps).pars = S.pars ++ [ps] from rfl, e1] at e
    have := m i u v e b tb tu tv eb etb etu etv
    show (S.tabs ++ [t])[i]? = _
    rw [List.getElem?_append_left (by omega), this]
  · have : i = S.n := by omega
    subst this
    rw [show (S.add t ps).pars = S.pars ++ [ps] from rfl, List.getElem?_append_right (by omega)] at e
    have e0 : S.n - S.pars.length = 0 := by omega
    rw [e0] at e
    simp at e
    have := h u v e b tb tu tv eb etb etu etv
    show (S.tabs ++ [t])[S.n]? = _
    rw [List.getElem?_append_right (by omega), hlen, Nat.sub_self]
    simp [this]
/-! ### repr -/
theorem repr_int {i : Int} {O : OO} {Q : D → OO → Prop} (h0 : 0 ≤ i) (h1 : i < 1000) (q : Q (.str (toString i)) O) : wRepr [.int i] O Q := by
  refine ⟨?_, q⟩
  have : i.natAbs < 10 ^ 12 := by omega
  have := log2_12 this
  omega
theorem names_cps {n : Str} (h : n ∈ names4) : (n.cps.toList.all fun c => decide (c < 16 ^ 8)) = true ∧ n.cps.size ≤ 2 := by
  simp only [names4, List.mem_cons, List.mem_nil_iff, or_false] at h
  rcases h with rfl | rfl | rfl | rfl <;> decide
theorem plL_names : ∀ {ns : List Str}, (∀ n ∈ ns, n ∈ names4) → plL (ns.map D.str) = true ∧ wgL (ns.map D.str) ≤ 3 * ns.length ∧ dpL (ns.map D.str) = 0
  | [], _ => ⟨rfl, by simp [wgL], rfl⟩
  | n :: r, h => by
    obtain ⟨a, b, c⟩ := plL_names fun m hm => h m (List.mem_cons_of_mem _ hm)
    obtain ⟨d, e⟩ := names_cps (h n List.mem_cons_self)
    simp only [List.map_cons, plL, plD, wgL, wgD, dpL, dpD, List.length_cons, d, a, c]
    exact ⟨by simp, by omega, by simp⟩
theorem tabs_dic {S : Hist} (w : Wf S) {v : Int} (h0 : 0 ≤ v) (h1 : v < S.n) {O : OO} {ln : Addr} (hl : O ln = some (.lst (linesD S))) {tb : Tab} (e : S.tabs[v.toNat]? = some tb) {Q : D → OO → Prop} (q : Q (.dic tb) O) :
    wIx (.ref ln) (.int v) O fun d O1 => wIx d (.int 0) O1 Q := by
  obtain ⟨tb', ps, e1, ok, e2, eL⟩ := line_at w h0 h1
  rw [e] at e1
  cases e1
  exact ix_of (asL_ref hl) eL ⟨.dic tb, at0, q⟩
def gP (CS : CSt) : WS := (wPar 4 5 (wCons (wCall (S_law_pick CS) (wCons (wVar 0) (wCons (wCB wLen (wCons (wVar 2) wNil)) wNil))) (wCons (wCall (S_law_pick CS) (wCons (wVar 0) (wCons (wCB wLen (wCons (wVar 2) wNil)) wNil))) wNil)))
def gS (CS : CSt) : WS := (wIfS (wTst (wOp wIn (wVar 5) (wCall (S_law_elders CS) (wCons (wVar 2) (wCons (wVar 4) wNil))))) (wPar 4 5 (wCons (wVar 5) (wCons (wVar 4) wNil))) wNext)
def gT (CS : CSt) : WT := (wTst (wOp wEq (wFrz (wCall (S_law_pick CS) (wCons (wVar 0) (wCons (wC (.int 2)) wNil)))) (wC (.int 0))))
def gC (CS : CSt) : WS := (wSeq (wAsg (wFrz (wCall (S_law_turned CS) (wCons (wVar 0) (wCons (wVar 3) (wCons (wOp wIx (wOp wIx (wVar 2) (wVar 4)) (wC (.int 0))) wNil))))) (wgName 6)) (wSeq (wDrop (wBm "list" mApp (wVar 2) (wCons (wTup (wCons (wFrz (wFrz (wVar 6))) (wCons (wTup (wCons (wFrz (wVar 4)) wNil)) wNil))) wNil))) (wRet (wFrz (wOp wEq (wFrz (wCB wRepr (wCons (wFrz (wMeth CS.C_History "commit" (S_History_commit CS) (wVar 1) (wCons (wVar 4) (wCons (wFrz (wVar 6)) wNil)))) wNil))) (wFrz (wCB wRepr (wCons (wFrz (wOp wSub (wCB wLen (wCons (wVar 2) wNil)) (wC (.int 1)))) wNil))))))))
def gM1 (CS : CSt) : WS := (wAsg (wMeth CS.C_History "merge" (S_History_merge CS) (wVar 1) (wCons (wVar 4) (wCons (wVar 5) wNil))) (wgName 7))
def gM2 (CS : CSt) : WS := (wIfS (wTst (wOp wIn (wVar 4) (wCall (S_law_elders CS) (wCons (wVar 2) (wCons (wVar 5) wNil))))) (wRet (wFrz (wOp wEq (wFrz (wCB wRepr (wCons (wFrz (wVar 7)) wNil))) (wFrz (wCB wRepr (wCons (wTup (wCons (wFrz (wVar 5)) (wCons (wTup wNil) wNil))) wNil)))))) wNext)
def gM3 (CS : CSt) : WS := (wAsg (wCall (S_law_merged CS) (wCons (wOp wIx (wOp wIx (wVar 2) (wOp wIx (wCall (S_law_bases CS) (wCons (wVar 2) (wCons (wVar 4) (wCons (wVar 5) wNil)))) (wC (.int 0)))) (wC (.int 0))) (wCons (wOp wIx (wOp wIx (wVar 2) (wVar 4)) (wC (.int 0))) (wCons (wOp wIx (wOp wIx (wVar 2) (wVar 5)) (wC (.int 0))) wNil)))) (wgTup 2 (wgCons (wgName 6) (wgCons (wgName 8) wgNil))))
def gM4 (CS : CSt) : WS := (wSeq (wDrop (wBm "list" mApp (wVar 2) (wCons (wTup (wCons (wFrz (wFrz (wVar 6))) (wCons (wTup (wCons (wFrz (wVar 4)) (wCons (wFrz (wVar 5)) wNil))) wNil))) wNil))) (wRet (wFrz (wOp wEq (wFrz (wCB wRepr (wCons (wFrz (wVar 7)) wNil))) (wFrz (wCB wRepr (wCons (wTup (wCons (wFrz (wOp wSub (wCB wLen (wCons (wVar 2) wNil)) (wC (.int 1)))) (wCons (wFrz (wVar 8)) wNil))) wNil)))))))
theorem grown_eq (CS : CSt) : W_law_grown CS = wSeq (gP CS) (wSeq (gS CS) (wSeq (wIfS (gT CS) (gC CS) wNext) (wSeq (gM1 CS) (wSeq (gM2 CS) (wSeq (gM3 CS) (gM4 CS)))))) := rfl

theorem toString_self (s : Str) : (s == s) = true := by simp
theorem lines_add {O : OO} {ln : Addr} {S : Hist} (w : Wf S) (hl : O ln = some (.lst (linesD S))) (tb : Tab) (ps : List Int) : updO O ln (.lst (linesD S ++ [lineD tb ps])) = updO O ln (.lst (linesD (S.add tb ps))) := by rw [linesD_add w]
theorem n_add (S : Hist) (tb : Tab) (ps : List Int) : (S.add tb ps).n = S.n + 1 := by simp [Hist.add, Hist.n]
variable {tp h t p ln : Addr} {S : Hist} {ns : List Str}
theorem grow_C (T : Two CS O tp h t p ln S) (hns : NmOK ns) (hlt : S.n < 40) (mok : MOK S) (q : ∀ S', Wf S' → MOK S' → S'.n ≤ S.n + 1 → Q (.bl true) (putL O t p ln S')) {u v : Int} (u0 : 0 ≤ u) (u1 : u < S.n) {D' : DEnds} (hD : D'.rt = (retE Q).rt) {x7 x8 x6 : Option D} :
    gC CS D' [some (.ref tp), some (.ref h), some (.ref ln), some (.lst (ns.map D.str)), some (.int u), some (.int v), x6, x7, x8] O := by
  have w := T.wf
  have sz := sizeLine_eq
  have ll := linesD_len w
  obtain ⟨tb, etb, okb⟩ := w.tabAt u0 u1
  unfold gC
  rw [wSeq_app]
  simp only [wAsg, wFrz, wCall, wCons, wNil, wVar, wOp, wC, look]
  refine tabs_dic w u0 u1 T.lines etb ⟨tp, ns, tb, rfl, T.tape, hns, okb, fun tb' ok' => ?_⟩
  simp [wSeq, wAsg, wgName, wPar, wPar3, wDrop, wRetN, wIfS, wNext, wTst, wOp, wUn, wFrz, frzD, frzM, wAnd, wOr, wNot, wIf, tAndW, tOrW, tNotW, wChain, wC, wVar, look, wNil, wCons, wTup, wLst, wNewK, wCB, w1, w2, wCall, wMeth, wMake, wIsi, isaQ, tyD, tyM, isaB, blQ, wLen, lenD, lenM, wLe, wLt, wGt, wGe, wAdd, wSub, wMul, wDiv, wMod, wPow, wNeg, wInt2, wInt1, wAbs, wIx, ixL, ixM, ixK, wIn, wNotIn, inD, inM, inK, keyD, wIsN, wNotN, isNonD, wBm, mApp, appM, mPop, popM, mUpd, updM, wDict2, dctM, wgSub, setM, wFld, fldM, wSFld, sfldM, wGet2, wGet1, wEq, wNe, asL, asLM, asK, asKM, asS, sstart, wFor, wgTup, wgCons, wgNil, wTuple, wList, wiL, wiT, wiS, wiK, wiIt, wiR1, wiR2, seqI, seqM, dicI, dicM, wSorted, wAll, wAny, wLc, wDc, wDisp, wpCons, wpNil, wLock, lockD, lockM, wItems, wDPop, dpopM, isDicM, wSl, slD, slM, wPart, wNoP, wipeS, wNever, retE, -List.lookup_eq_none_iff, T.lines]
  refine ⟨tv_ref T.lines, by omega, ?_⟩
  have eL : updO O ln (.lst (linesD S ++ [.tup [.dic tb', .tup [.int u]]])) = updO O ln (.lst (linesD (S.add tb' [u]))) := lines_add (ln := ln) w T.lines tb' [u]
  rw [eL]
  have w' : Wf (S.add tb' [u]) := w.add hlt ok' (by simp) (by simp; exact ⟨u0, u1⟩) (by simp)
  have hln : h ≠ ln := fun e => by subst e; have := T.isH.oh.symm.trans T.lines; cases this
  have H1 : IsH CS (updO O ln (.lst (linesD (S.add tb' [u])))) h t p S := ⟨by rw [updO_ne hln, T.isH.oh], by rw [updO_ne T.lt.symm, T.isH.ot], by rw [updO_ne T.lp.symm, T.isH.op], T.isH.tp⟩
  have el : putH (updO O ln (.lst (linesD (S.add tb' [u])))) t p (S.add tb' [u]) ln = some (.lst (linesD (S.add tb' [u]))) := by
    unfold putH
    rw [updO_ne T.lp, updO_ne T.lt, updO_same]
  have ll' := linesD_len w'
  rw [n_add] at ll'
  simp [wSeq, wAsg, wgName, wPar, wPar3, wDrop, wRet, wRetN, wIfS, wNext, wTst, wOp, wUn, wFrz, frzD, frzM, wAnd, wOr, wNot, wIf, tAndW, tOrW, tNotW, wChain, wC, wVar, look, wNil, wCons, wTup, wLst, wNewK, wCB, w1, w2, wCall, wMeth, wMake, wIsi, isaQ, tyD, tyM, isaB, blQ, wLen, lenD, lenM, wLe, wLt, wGt, wGe, wAdd, wSub, wMul, wDiv, wMod, wPow, wNeg, wInt2, wInt1, wAbs, wIx, ixL, ixM, ixK, wIn, wNotIn, inD, inM, inK, keyD, wIsN, wNotN, isNonD, wBm, mApp, appM, mPop, popM, mUpd, updM, wDict2, dctM, wgSub, setM, wFld, fldM, wSFld, sfldM, wGet2, wGet1, wEq, wNe, asL, asLM, asK, asKM, asS, sstart, wFor, wgTup, wgCons, wgNil, wTuple, wList, wiL, wiT, wiS, wiK, wiIt, wiR1, wiR2, seqI, seqM, dicI, dicM, wSorted, wAll, wAny, wLc, wDc, wDisp, wpCons, wpNil, wLock, lockD, lockM, wItems, wDPop, dpopM, isDicM, wSl, slD, slM, wPart, wNoP, wipeS, wNever, retE, -List.lookup_eq_none_iff, H1.oh, lkT, lkP, lk1, lk2, lk3, lk4, lk5, lk6, lk7, lk8, lk9, lk10, lk11, -List.lookup_eq_none_iff]
  refine ⟨h, t, p, S, u, .dic tb', tb', by simp, H1, w, u0, u1, rfl, ok', ?_⟩
  simp only [frzD]
  refine repr_int (by omega) (by omega) ?_
  simp [frzD, el, ll']
  refine repr_int (by omega) (by omega) ?_
  simp [frzD, cmp_ss, dp_s, eqv_ss, hD, retE]
  rw [putL_alt T.lt T.lp]
  exact ret0 (q _ w' (mok.add w w' fun x y e => by simp at e) (by rw [n_add]; omega))
theorem mrg_repr {n : Int} {ns : List Str} (h0 : 0 ≤ n) (h1 : n < 1000) (h4 : ∀ m ∈ ns, m ∈ names4) (hl : ns.length ≤ 4) {O : OO} {Q : D → OO → Prop} (q : Q (.str (reprD (.tup [.int n, .tup (ns.map D.str)]))) O) : wRepr [.tup [.int n, .tup (ns.map D.str)]] O Q := by
  obtain ⟨a, b, c⟩ := plL_names h4
  refine wRepr_pl rfl ?_ ?_ ?_ q
  · simp only [plD, plL, a]
    have : n.natAbs < 10 ^ 12 := by omega
    simp [this]
  · simp only [wgD, wgL]
    omega
  · simp only [dpD, dpL, c]
    decide
theorem mrg_names {b x y : Tab} (hb : TabOK b) (hx : TabOK x) (hy : TabOK y) : TabOK (mrg b x y).1 ∧ (∀ m ∈ (mrg b x y).2, m ∈ names4) ∧ (mrg b x y).2.length ≤ 4 := by
  obtain ⟨h4, hl⟩ := names_ok hb hx hy
  have go : ∀ (ns : List Str) (acc : Tab × List Str), (∀ n ∈ ns, n ∈ names4) → TabOK acc.1 → (∀ m ∈ acc.2, m ∈ names4) → TabOK (ns.foldl (mstep b x y) acc).1 ∧ (∀ m ∈ (ns.foldl (mstep b x y) acc).2, m ∈ names4) ∧ (ns.foldl (mstep b x y) acc).2.length ≤ acc.2.length + ns.length := by
    intro ns
    induction ns with
    | nil => intro acc _ h1 h2; exact ⟨h1, h2, by simp⟩
    | cons n r ih =>
      intro acc h h1 h2
      have e2 : (mstep b x y acc n).2 = if (mv (getT b n) (getT x n) (getT y n)).2 = true then acc.2 ++ [n] else acc.2 := rfl
      obtain ⟨i1, i2, i3⟩ := ih (mstep b x y acc n) (fun m hm => h m (List.mem_cons_of_mem _ hm)) (mstep_ok hx hy h1 (h n List.mem_cons_self)) (fun m hm => by
        rw [e2] at hm
        split at hm
        · rcases List.mem_append.mp hm with hm | hm
          · exact h2 m hm
          · rw [List.mem_singleton.mp hm]; exact h n List.mem_cons_self
        · exact h2 m hm)
      refine ⟨i1, i2, ?_⟩
      have : (mstep b x y acc n).2.length ≤ acc.2.length + 1 := by rw [e2]; split <;> simp
      simp only [List.foldl_cons, List.length_cons]
      omega
  obtain ⟨a, c, d⟩ := go (namesOf b x y) ([], []) h4 TabOK.nil (by simp)
  exact ⟨a, c, by simp at d; exact Nat.le_trans d hl⟩
theorem grow_M (T : Two CS O tp h t p ln S) (hlt : S.n < 40) (mok : MOK S) (q : ∀ S', Wf S' → MOK S' → S'.n ≤ S.n + 1 → Q (.bl true) (putL O t p ln S')) {u v : Int} (u0 : 0 ≤ u) (u1 : u < S.n) (v0 : 0 ≤ v) (v1 : v < S.n) (hsw : S.rc u v = true → S.rc v u = true) {x7 x8 x6 : Option D} :
    wSeq (gM1 CS) (wSeq (gM2 CS) (wSeq (gM3 CS) (gM4 CS))) (retE Q) [some (.ref tp), some (.ref h), some (.ref ln), some (.lst (ns.map D.str)), some (.int u), some (.int v), x6, x7, x8] O := by
  have w := T.wf
  have sz := sizeLine_eq
  have ll := linesD_len w
  rw [wSeq_app]
  unfold gM1
  simp only [wAsg, wMeth, wCons, wNil, wVar, look]
  refine ⟨h, _, rfl, T.isH.oh, lk10, h, t, p, S, u, v, rfl, T.isH, w, u0, u1, v0, v1, ?_⟩
  unfold mrgS
  by_cases h1 : S.rc v u = true
  · rw [if_pos h1]
    have eS : putH O t p S = O := by
      have e1 := putL_same T
      funext b
      by_cases b0 : b = ln
      · subst b0; unfold putH; rw [updO_ne T.lp, updO_ne T.lt]
      · have := congrFun e1 b
        unfold putL at this
        rwa [updO_ne b0] at this
    show wgName 7 _ _ (putH O t p S) _
    rw [eS]
    simp only [wgName, List.set]
    rw [wSeq_app]
    unfold gM2
    simp [wSeq, wAsg, wgName, wPar, wPar3, wDrop, wRet, wRetN, wIfS, wNext, wTst, wOp, wUn, wFrz, frzD, frzM, wAnd, wOr, wNot, wIf, tAndW, tOrW, tNotW, wChain, wC, wVar, look, wNil, wCons, wTup, wLst, wNewK, wCB, w1, w2, wCall, wMeth, wMake, wIsi, isaQ, tyD, tyM, isaB, blQ, wLen, lenD, lenM, wLe, wLt, wGt, wGe, wAdd, wSub, wMul, wDiv, wMod, wPow, wNeg, wInt2, wInt1, wAbs, wIx, ixL, ixM, ixK, wIn, wNotIn, inD, inM, inK, keyD, wIsN, wNotN, isNonD, wBm, mApp, appM, mPop, popM, mUpd, updM, wDict2, dctM, wgSub, setM, wFld, fldM, wSFld, sfldM, wGet2, wGet1, wEq, wNe, asL, asLM, asK, asKM, asS, sstart, wFor, wgTup, wgCons, wgNil, wTuple, wList, wiL, wiT, wiS, wiK, wiIt, wiR1, wiR2, seqI, seqM, dicI, dicM, wSorted, wAll, wAny, wLc, wDc, wDisp, wpCons, wpNil, wLock, lockD, lockM, wItems, wDPop, dpopM, isDicM, wSl, slD, slM, wPart, wNoP, wipeS, wNever, retE, -List.lookup_eq_none_iff]
    refine ⟨ln, S, v, by simp, T.lines, w, v0, v1, fun l nl ml => ?_⟩
    have : u ∈ l := (ml u).mpr h1
    simp [visD_eq, vis_get, this]
    refine mrg_repr (ns := []) v0 (by have := w.few; omega) (by simp) (by simp) ?_
    simp [frzD]
    refine mrg_repr (ns := []) v0 (by have := w.few; omega) (by simp) (by simp) ?_
    simp [frzD, cmp_ss, dp_s, eqv_ss]
    exact ret0 (putL_same T ▸ q S w mok (by omega))
  · have h2 : ¬ S.rc u v = true := fun z => h1 (hsw z)
    rw [if_neg h1, if_neg h2]
    intro b tb tu tv eb etb etu etv
    obtain ⟨b0, b1⟩ := bases_sub (S := S) (u := u) (v := v) (x := b) (List.mem_of_getElem? eb)
    have okb := w.tab _ (List.mem_of_getElem? etb)
    have oku := w.tab _ (List.mem_of_getElem? etu)
    have okv := w.tab _ (List.mem_of_getElem? etv)
    obtain ⟨m1, m2, m3⟩ := mrg_names okb oku okv
    have w' : Wf (S.add (mrg tb tu tv).1 [u, v]) := w.add hlt m1 (by simp) (by simp; exact ⟨⟨u0, u1⟩, v0, v1⟩) (by simp)
    have hn' := n_add S (mrg tb tu tv).1 [u, v]
    have ll' := linesD_len w'
    have lput : putH O t p (S.add (mrg tb tu tv).1 [u, v]) ln = some (.lst (linesD S)) := by
      unfold putH; rw [updO_ne T.lp, updO_ne T.lt, T.lines]
    show wgName 7 _ _ (putH O t p (S.add (mrg tb tu tv).1 [u, v])) _
    simp only [wgName, List.set]
    rw [wSeq_app]
    unfold gM2
    simp [wAsg, wgName, wPar, wPar3, wDrop, wRet, wRetN, wIfS, wNext, wTst, wOp, wUn, wFrz, frzD, frzM, wAnd, wOr, wNot, wIf, tAndW, tOrW, tNotW, wChain, wC, wVar, look, wNil, wCons, wTup, wLst, wNewK, wCB, w1, w2, wCall, wMeth, wMake, wIsi, isaQ, tyD, tyM, isaB, blQ, wLen, lenD, lenM, wLe, wLt, wGt, wGe, wAdd, wSub, wMul, wDiv, wMod, wPow, wNeg, wInt2, wInt1, wAbs, wIx, ixL, ixM, ixK, wIn, wNotIn, inD, inM, inK, keyD, wIsN, wNotN, isNonD, wBm, mApp, appM, mPop, popM, mUpd, updM, wDict2, dctM, wgSub, setM, wFld, fldM, wSFld, sfldM, wGet2, wGet1, wEq, wNe, asL, asLM, asK, asKM, asS, sstart, wFor, wgTup, wgCons, wgNil, wTuple, wList, wiL, wiT, wiS, wiK, wiIt, wiR1, wiR2, seqI, seqM, dicI, dicM, wSorted, wAll, wAny, wLc, wDc, wDisp, wpCons, wpNil, wLock, lockD, lockM, wItems, wDPop, dpopM, isDicM, wSl, slD, slM, wPart, wNoP, wipeS, wNever, retE, -List.lookup_eq_none_iff]
    refine ⟨ln, S, v, by simp, lput, w, v0, v1, fun l nl ml => ?_⟩
    have : u ∉ l := fun z => h1 ((ml u).mp z)
    simp [visD_eq, vis_get, this]
    rw [wSeq_app]
    unfold gM3
    simp only [wAsg, wCall, wCons, wNil, wVar, wOp, wC, look]
    refine ⟨ln, S, u, v, rfl, lput, w, u0, u1, v0, v1, ?_⟩
    refine ⟨.int b, at_nat (by omega) (by simp [eb]), ?_⟩
    refine tabs_dic w b0 b1 lput etb (tabs_dic w u0 u1 lput etu (tabs_dic w v0 v1 lput etv ⟨tb, tu, tv, rfl, okb, oku, okv, ?_⟩))
    simp only [mrgD, wgTup, wgCons, wgNil, wgName, List.set, List.length_cons, List.length_nil, true_and]
    unfold gM4
    rw [wSeq_app]
    simp [wSeq, wAsg, wgName, wPar, wPar3, wDrop, wRetN, wIfS, wNext, wTst, wOp, wUn, wFrz, frzD, frzM, wAnd, wOr, wNot, wIf, tAndW, tOrW, tNotW, wChain, wC, wVar, look, wNil, wCons, wTup, wLst, wNewK, wCB, w1, w2, wCall, wMeth, wMake, wIsi, isaQ, tyD, tyM, isaB, blQ, wLen, lenD, lenM, wLe, wLt, wGt, wGe, wAdd, wSub, wMul, wDiv, wMod, wPow, wNeg, wInt2, wInt1, wAbs, wIx, ixL, ixM, ixK, wIn, wNotIn, inD, inM, inK, keyD, wIsN, wNotN, isNonD, wBm, mApp, appM, mPop, popM, mUpd, updM, wDict2, dctM, wgSub, setM, wFld, fldM, wSFld, sfldM, wGet2, wGet1, wEq, wNe, asL, asLM, asK, asKM, asS, sstart, wFor, wgTup, wgCons, wgNil, wTuple, wList, wiL, wiT, wiS, wiK, wiIt, wiR1, wiR2, seqI, seqM, dicI, dicM, wSorted, wAll, wAny, wLc, wDc, wDisp, wpCons, wpNil, wLock, lockD, lockM, wItems, wDPop, dpopM, isDicM, wSl, slD, slM, wPart, wNoP, wipeS, wNever, retE, -List.lookup_eq_none_iff, lput]
    refine ⟨tv_ref lput, by omega, ?_⟩
    have eL : updO (putH O t p (S.add (mrg tb tu tv).1 [u, v])) ln (.lst (linesD S ++ [.tup [.dic (mrg tb tu tv).1, .tup [.int u, .int v]]])) = putL O t p ln (S.add (mrg tb tu tv).1 [u, v]) :=
      lines_add (O := putH O t p (S.add (mrg tb tu tv).1 [u, v])) (ln := ln) w lput (mrg tb tu tv).1 [u, v]
    rw [eL]
    have T' := T.put (S' := S.add (mrg tb tu tv).1 [u, v]) w'
    rw [hn'] at ll'
    simp [wSeq, wAsg, wgName, wPar, wPar3, wDrop, wRet, wRetN, wIfS, wNext, wTst, wOp, wUn, wFrz, frzD, frzM, wAnd, wOr, wNot, wIf, tAndW, tOrW, tNotW, wChain, wC, wVar, look, wNil, wCons, wTup, wLst, wNewK, wCB, w1, w2, wCall, wMeth, wMake, wIsi, isaQ, tyD, tyM, isaB, blQ, wLen, lenD, lenM, wLe, wLt, wGt, wGe, wAdd, wSub, wMul, wDiv, wMod, wPow, wNeg, wInt2, wInt1, wAbs, wIx, ixL, ixM, ixK, wIn, wNotIn, inD, inM, inK, keyD, wIsN, wNotN, isNonD, wBm, mApp, appM, mPop, popM, mUpd, updM, wDict2, dctM, wgSub, setM, wFld, fldM, wSFld, sfldM, wGet2, wGet1, wEq, wNe, asL, asLM, asK, asKM, asS, sstart, wFor, wgTup, wgCons, wgNil, wTuple, wList, wiL, wiT, wiS, wiK, wiIt, wiR1, wiR2, seqI, seqM, dicI, dicM, wSorted, wAll, wAny, wLc, wDc, wDisp, wpCons, wpNil, wLock, lockD, lockM, wItems, wDPop, dpopM, isDicM, wSl, slD, slM, wPart, wNoP, wipeS, wNever, retE, -List.lookup_eq_none_iff]
    refine mrg_repr (n := S.n) (by omega) (by omega) m2 m3 ?_
    simp [frzD, T'.lines, ll']
    refine mrg_repr (n := S.n) (by omega) (by omega) m2 m3 ?_
    simp [frzD, cmp_ss, dp_s, eqv_ss]
    refine ret0 (q _ w' (mok.add w w' fun x y e b' tb' tu' tv' eb' etb' etu' etv' => ?_) (by omega))
    simp at e
    obtain ⟨rfl, rfl⟩ := e
    rw [eb] at eb'; cases eb'
    rw [etb] at etb'; cases etb'
    rw [etu] at etu'; cases etu'
    rw [etv] at etv'; cases etv'
    rfl
theorem law_law_grown (h : S_law_grown CS ds O Q) : W_law_grown CS (retE Q) (sstart N_law_grown ds) O := by
  obtain ⟨tp, h, t, p, ln, S, ns, rfl, T, hns, hlt, mok, q⟩ := h
  have w := T.wf
  have sz := sizeLine_eq
  have hp := w.pos
  have ll := linesD_len w
  rw [grown_eq, wSeq_app]
  unfold gP
  simp [wAsg, wgName, wPar, wPar3, wDrop, wRet, wRetN, wIfS, wNext, wTst, wOp, wUn, wFrz, frzD, frzM, wAnd, wOr, wNot, wIf, tAndW, tOrW, tNotW, wChain, wC, wVar, look, wNil, wCons, wTup, wLst, wNewK, wCB, w1, w2, wCall, wMeth, wMake, wIsi, isaQ, tyD, tyM, isaB, blQ, wLen, lenD, lenM, wLe, wLt, wGt, wGe, wAdd, wSub, wMul, wDiv, wMod, wPow, wNeg, wInt2, wInt1, wAbs, wIx, ixL, ixM, ixK, wIn, wNotIn, inD, inM, inK, keyD, wIsN, wNotN, isNonD, wBm, mApp, appM, mPop, popM, mUpd, updM, wDict2, dctM, wgSub, setM, wFld, fldM, wSFld, sfldM, wGet2, wGet1, wEq, wNe, asL, asLM, asK, asKM, asS, sstart, wFor, wgTup, wgCons, wgNil, wTuple, wList, wiL, wiT, wiS, wiK, wiIt, wiR1, wiR2, seqI, seqM, dicI, dicM, wSorted, wAll, wAny, wLc, wDc, wDisp, wpCons, wpNil, wLock, lockD, lockM, wItems, wDPop, dpopM, isDicM, wSl, slD, slM, wPart, wNoP, wipeS, wNever, retE, -List.lookup_eq_none_iff, T.lines, ll]
  refine ⟨tp, S.n, by simp, T.tape, by omega, by omega, fun one o0 o1 => ?_⟩
  simp [wAsg, wgName, wPar, wPar3, wDrop, wRet, wRetN, wIfS, wNext, wTst, wOp, wUn, wFrz, frzD, frzM, wAnd, wOr, wNot, wIf, tAndW, tOrW, tNotW, wChain, wC, wVar, look, wNil, wCons, wTup, wLst, wNewK, wCB, w1, w2, wCall, wMeth, wMake, wIsi, isaQ, tyD, tyM, isaB, blQ, wLen, lenD, lenM, wLe, wLt, wGt, wGe, wAdd, wSub, wMul, wDiv, wMod, wPow, wNeg, wInt2, wInt1, wAbs, wIx, ixL, ixM, ixK, wIn, wNotIn, inD, inM, inK, keyD, wIsN, wNotN, isNonD, wBm, mApp, appM, mPop, popM, mUpd, updM, wDict2, dctM, wgSub, setM, wFld, fldM, wSFld, sfldM, wGet2, wGet1, wEq, wNe, asL, asLM, asK, asKM, asS, sstart, wFor, wgTup, wgCons, wgNil, wTuple, wList, wiL, wiT, wiS, wiK, wiIt, wiR1, wiR2, seqI, seqM, dicI, dicM, wSorted, wAll, wAny, wLc, wDc, wDisp, wpCons, wpNil, wLock, lockD, lockM, wItems, wDPop, dpopM, isDicM, wSl, slD, slM, wPart, wNoP, wipeS, wNever, retE, -List.lookup_eq_none_iff, T.lines, ll]
  refine ⟨tp, S.n, by simp, T.tape, by omega, by omega, fun oth p0 p1 => ?_⟩
  show wSeq (gS CS) _ (retE Q) _ O
  -- what follows the swap
  have body : ∀ (u v : Int), 0 ≤ u → u < S.n → 0 ≤ v → v < S.n → (S.rc u v = true → S.rc v u = true) → wSeq (wIfS (gT CS) (gC CS) wNext) (wSeq (gM1 CS) (wSeq (gM2 CS) (wSeq (gM3 CS) (gM4 CS)))) (retE Q) [some (.ref tp), some (.ref h), some (.ref ln), some (.lst (ns.map D.str)), some (.int u), some (.int v), none, none, none] O := by
    intro u v u0 u1 v0 v1 hsw
    rw [wSeq_app]
    unfold gT
    simp only [wIfS, wTst, wOp, wFrz, wCall, wCons, wNil, wVar, wC, look]
    refine ⟨tp, 2, rfl, T.tape, by omega, by omega, fun k k0 k1 => ?_⟩
    simp only [frzD, wEq, cmp_ii, dp_i, eqv_ii, blQ]
    refine ⟨trivial, by omega, ?_⟩
    by_cases hk : k = 0
    · simp only [hk, decide_true, if_true]
      exact grow_C T hns hlt mok q u0 u1 rfl
    · simp only [hk, decide_false, Bool.false_eq_true, if_false]
      exact grow_M T hlt mok q u0 u1 v0 v1 hsw
  generalize wSeq (wIfS (gT CS) (gC CS) wNext) (wSeq (gM1 CS) (wSeq (gM2 CS) (wSeq (gM3 CS) (gM4 CS)))) = R at body ⊢
  rw [wSeq_app]
  unfold gS
  simp only [wIfS, wTst, wOp, wCall, wCons, wNil, wVar, look]
  refine ⟨ln, S, one, rfl, T.lines, w, o0, o1, fun l nl ml => ?_⟩
  by_cases hsw : S.rc one oth = true
  · have : oth ∈ l := (ml oth).mpr hsw
    simp [visD_eq, vis_get, this, wSeq, wAsg, wgName, wPar, wPar3, wDrop, wRet, wRetN, wIfS, wNext, wTst, wOp, wUn, wFrz, frzD, frzM, wAnd, wOr, wNot, wIf, tAndW, tOrW, tNotW, wChain, wC, wVar, look, wNil, wCons, wTup, wLst, wNewK, wCB, w1, w2, wCall, wMeth, wMake, wIsi, isaQ, tyD, tyM, isaB, blQ, wLen, lenD, lenM, wLe, wLt, wGt, wGe, wAdd, wSub, wMul, wDiv, wMod, wPow, wNeg, wInt2, wInt1, wAbs, wIx, ixL, ixM, ixK, wIn, wNotIn, inD, inM, inK, keyD, wIsN, wNotN, isNonD, wBm, mApp, appM, mPop, popM, mUpd, updM, wDict2, dctM, wgSub, setM, wFld, fldM, wSFld, sfldM, wGet2, wGet1, wEq, wNe, asL, asLM, asK, asKM, asS, sstart, wFor, wgTup, wgCons, wgNil, wTuple, wList, wiL, wiT, wiS, wiK, wiIt, wiR1, wiR2, seqI, seqM, dicI, dicM, wSorted, wAll, wAny, wLc, wDc, wDisp, wpCons, wpNil, wLock, lockD, lockM, wItems, wDPop, dpopM, isDicM, wSl, slD, slM, wPart, wNoP, wipeS, wNever, retE, -List.lookup_eq_none_iff]
    exact body oth one p0 p1 o0 o1 (fun _ => hsw)
  · have : oth ∉ l := fun z => hsw ((ml oth).mp z)
    simp [visD_eq, vis_get, this, wSeq, wAsg, wgName, wPar, wPar3, wDrop, wRet, wRetN, wIfS, wNext, wTst, wOp, wUn, wFrz, frzD, frzM, wAnd, wOr, wNot, wIf, tAndW, tOrW, tNotW, wChain, wC, wVar, look, wNil, wCons, wTup, wLst, wNewK, wCB, w1, w2, wCall, wMeth, wMake, wIsi, isaQ, tyD, tyM, isaB, blQ, wLen, lenD, lenM, wLe, wLt, wGt, wGe, wAdd, wSub, wMul, wDiv, wMod, wPow, wNeg, wInt2, wInt1, wAbs, wIx, ixL, ixM, ixK, wIn, wNotIn, inD, inM, inK, keyD, wIsN, wNotN, isNonD, wBm, mApp, appM, mPop, popM, mUpd, updM, wDict2, dctM, wgSub, setM, wFld, fldM, wSFld, sfldM, wGet2, wGet1, wEq, wNe, asL, asLM, asK, asKM, asS, sstart, wFor, wgTup, wgCons, wgNil, wTuple, wList, wiL, wiT, wiS, wiK, wiIt, wiR1, wiR2, seqI, seqM, dicI, dicM, wSorted, wAll, wAny, wLc, wDc, wDisp, wpCons, wpNil, wLock, lockD, lockM, wItems, wDPop, dpopM, isDicM, wSl, slD, slM, wPart, wNoP, wipeS, wNever, retE, -List.lookup_eq_none_iff]
    exact body one oth o0 o1 p0 p1 (fun z => absurd z hsw)
end KH

set_option Elab.async false
set_option linter.all false
set_option maxRecDepth 100000
/-! KH: a history stands -/
namespace KH
open PySem PySem.Spec PyProof.Rows L2 TD
variable {CS : CSt} {ds : List D} {O : OO} {Q : D → OO → Prop} {tp h t p ln : Addr} {S : Hist}
def s1 (CS : CSt) : WS := (wAsg (wTup (wCons (wFrz (wCall (S_law_pick CS) (wCons (wVar 0) (wCons (wCB wLen (wCons (wVar 2) wNil)) wNil)))) (wCons (wFrz (wCall (S_law_pick CS) (wCons (wVar 0) (wCons (wCB wLen (wCons (wVar 2) wNil)) wNil)))) wNil))) (wgTup 2 (wgCons (wgName 3) (wgCons (wgName 4) wgNil))))
def s2 (CS : CSt) : WS := (wIfS (tOrW (wTst (wOp wNe (wFrz (wMeth CS.C_History "table_of" (S_History_table_of CS) (wVar 1) (wCons (wVar 3) wNil))) (wFrz (wOp wIx (wOp wIx (wVar 2) (wVar 3)) (wC (.int 0)))))) (wTst (wOp wNe (wFrz (wCB wRepr (wCons (wFrz (wMeth CS.C_History "parents" (S_History_parents CS) (wVar 1) (wCons (wVar 3) wNil))) wNil))) (wFrz (wCB wRepr (wCons (wFrz (wOp wIx (wOp wIx (wVar 2) (wVar 3)) (wC (.int 1)))) wNil)))))) (wRet (wC (.bl false))) wNext)
def s3 (CS : CSt) : WS := (wAsg (wTup (wCons (wFrz (wCall (S_law_elders CS) (wCons (wVar 2) (wCons (wVar 3) wNil)))) (wCons (wFrz (wCall (S_law_elders CS) (wCons (wVar 2) (wCons (wVar 4) wNil)))) wNil))) (wgTup 2 (wgCons (wgName 5) (wgCons (wgName 6) wgNil))))
def s4 (CS : CSt) : WS := (wAsg (wLst (wCons (wFrz (wMeth CS.C_History "elders" (S_History_elders CS) (wVar 1) (wCons (wVar 3) wNil))) (wCons (wFrz (wMeth CS.C_History "bases" (S_History_bases CS) (wVar 1) (wCons (wVar 3) (wCons (wVar 4) wNil)))) (wCons (wFrz (wMeth CS.C_History "bases" (S_History_bases CS) (wVar 1) (wCons (wVar 4) (wCons (wVar 3) wNil)))) (wCons (wFrz (wMeth CS.C_History "since" (S_History_since CS) (wVar 1) (wCons (wVar 3) (wCons (wVar 4) wNil)))) wNil))))) (wgName 7))
def s5 (CS : CSt) : WS := (wAsg (wLst (wCons (wFrz (wCB wTuple (wCons (wCB wSorted (wCons (wLc (wiK (wVar 5)) (wgName 9) (wTst (wOp wNe (wFrz (wVar 9)) (wFrz (wVar 3)))) (wFrz (wVar 9)) [9]) wNil)) wNil))) (wCons (wFrz (wCall (S_law_bases CS) (wCons (wVar 2) (wCons (wVar 3) (wCons (wVar 4) wNil))))) wNil))) (wgName 8))
def s6 (CS : CSt) : WS := (wAsg (wOp wAdd (wVar 8) (wLst (wCons (wFrz (wCall (S_law_bases CS) (wCons (wVar 2) (wCons (wVar 4) (wCons (wVar 3) wNil))))) (wCons (wFrz (wCB wTuple (wCons (wCB wSorted (wCons (wLc (wiK (wVar 6)) (wgName 9) (wTst (wOp wNotIn (wVar 9) (wVar 5))) (wFrz (wVar 9)) [9]) wNil)) wNil))) wNil)))) (wgName 8))
def s7 (CS : CSt) : WS := (wIfS (wTst (wOp wNe (wFrz (wCB wRepr (wCons (wFrz (wVar 7)) wNil))) (wFrz (wCB wRepr (wCons (wFrz (wVar 8)) wNil))))) (wRet (wC (.bl false))) wNext)
def s8 (CS : CSt) : WS := (wAsg (wMeth CS.C_History "table_of" (S_History_table_of CS) (wVar 1) (wCons (wVar 3) wNil)) (wgName 10))
def s9 (CS : CSt) : WS := (wAsg (wC (.int 5)) (wgSub (wVar 10) (wC (.str "more"))))
def s10 (CS : CSt) : WS := (wRet (wFrz (wOp wEq (wFrz (wMeth CS.C_History "table_of" (S_History_table_of CS) (wVar 1) (wCons (wVar 3) wNil))) (wFrz (wOp wIx (wOp wIx (wVar 2) (wVar 3)) (wC (.int 0)))))))
theorem s_eq (CS : CSt) : W_law_stands CS = (wSeq (s1 CS) (wSeq (s2 CS) (wSeq (s3 CS) (wSeq (s4 CS) (wSeq (s5 CS) (wSeq (s6 CS) (wSeq (s7 CS) (wSeq (s8 CS) (wSeq (s9 CS) (s10 CS)))))))))) := rfl

theorem wAdd_ref {a b : Addr} {O : OO} {Q : D → OO → Prop} : wAdd (.ref a) (.ref b) O Q = wAddL (.ref a) (.ref b) O Q := by simp [wAdd]
theorem frz_tup {xs : List D} {O : OO} {Q : D → OO → Prop} : frzD (.tup xs) O Q = Q (.tup xs) O := rfl
theorem frz_tupI {xs : List Int} {O : OO} {Q : D → OO → Prop} : frzD (tupI xs) O Q = Q (tupI xs) O := rfl
theorem frz_lst {xs : List D} {O : OO} {Q : D → OO → Prop} : frzD (.lst xs) O Q = Q (.lst xs) O := rfl
theorem frz_dic {xs : Tab} {O : OO} {Q : D → OO → Prop} : frzD (.dic xs) O Q = Q (.dic xs) O := rfl
theorem frz_bl {b : Bool} {O : OO} {Q : D → OO → Prop} : frzD (.bl b) O Q = Q (.bl b) O := rfl
theorem frz_rdic {a : Addr} {xs : Tab} {O : OO} {Q : D → OO → Prop} (h : O a = some (.dic xs)) : frzD (.ref a) O Q = Q (.dic xs) (remO O a) := by
  show frzM a O Q (O a) = _
  rw [h]
  rfl
theorem frz_rlst {a : Addr} {xs : List D} {O : OO} {Q : D → OO → Prop} (h : O a = some (.lst xs)) : frzD (.ref a) O Q = Q (.lst xs) (remO O a) := by
  show frzM a O Q (O a) = _
  rw [h]
  rfl
def Few (L : List Int) : Prop := L.length ≤ 40 ∧ ∀ x ∈ L, 0 ≤ x ∧ x < 1000
theorem few_ints {L : List Int} (h : Few L) : plD (tupI L) = true ∧ wgD (tupI L) ≤ 1680 ∧ dpD (tupI L) = 1 := by
  refine ⟨?_, ?_, ?_⟩
  · simp only [tupI, plD]
    exact plL_ints fun x hx => by
      have := h.2 x hx
      omega
  · simp only [tupI, wgD, wgL_ints]
    have := h.1
    omega
  · simp only [tupI, dpD, dpL_ints]
theorem few_setL {n : Nat} {P : Int → Bool} (h : n ≤ 40) : Few (setL n P) := ⟨Nat.le_trans (setL_len n P) h, fun x hx => by have := mem_setL.mp hx; omega⟩
theorem few_bases {S : Hist} (w : Wf S) {u v : Int} : Few (basesL S u v) := by rw [bases_setL]; exact few_setL w.few
theorem repr_told {L1 L2 L3 L4 : List Int} (h1 : Few L1) (h2 : Few L2) (h3 : Few L3) (h4 : Few L4) {O : OO} {Q : D → OO → Prop} (q : Q (.str (reprD (.lst [tupI L1, tupI L2, tupI L3, tupI L4]))) O) : wRepr [.lst [tupI L1, tupI L2, tupI L3, tupI L4]] O Q := by
  obtain ⟨a1, b1, c1⟩ := few_ints h1
  obtain ⟨a2, b2, c2⟩ := few_ints h2
  obtain ⟨a3, b3, c3⟩ := few_ints h3
  obtain ⟨a4, b4, c4⟩ := few_ints h4
  refine wRepr_pl rfl ?_ ?_ ?_ q
  · simp only [plD, plL, a1, a2, a3, a4]
    rfl
  · simp only [wgD, wgL]
    omega
  · simp only [dpD, dpL, c1, c2, c3, c4]
    decide
theorem repr_par {ps : List Int} (hl : ps.length ≤ 2) (hb : ∀ x ∈ ps, 0 ≤ x ∧ x < 1000) {O : OO} {Q : D → OO → Prop} (q : Q (.str (reprD (tupI ps))) O) : wRepr [tupI ps] O Q := by
  refine wRepr_pl rfl ?_ ?_ ?_ q
  · simp only [tupI, plD]
    exact plL_ints fun x hx => by have := hb x hx; omega
  · simp only [tupI, wgD, wgL_ints]
    omega
  · simp only [tupI, dpD, dpL_ints]
    decide
theorem tabs_at0 {S : Hist} (w : Wf S) {v : Int} (h0 : 0 ≤ v) (h1 : v < S.n) {O : OO} {ln : Addr} (hl : O ln = some (.lst (linesD S))) {ps : List Int} (e : S.pars[v.toNat]? = some ps) {Q : D → OO → Prop} (q : Q (tupI ps) O) :
    wIx (.ref ln) (.int v) O fun d O1 => wIx d (.int 1) O1 Q := by
  obtain ⟨tb', ps', e1, ok, e2, eL⟩ := line_at w h0 h1
  rw [e] at e2
  cases e2
  exact ix_of (asL_ref hl) eL ⟨tupI ps, at1, q⟩
theorem law_law_stands (h : S_law_stands CS ds O Q) : W_law_stands CS (retE Q) (sstart N_law_stands ds) O := by
  obtain ⟨tp, h, t, p, ln, S, rfl, T, q⟩ := h
  have w := T.wf
  have hf := w.few
  have hp := w.pos
  have sz := sizeLine_eq
  have ll := linesD_len w
  rw [s_eq, wSeq_app]
  unfold s1
  simp [wAsg, wgName, wPar, wPar3, wDrop, wRet, wRetN, wIfS, wNext, wTst, wOp, wUn, wFrz, frzD, frzM, wAnd, wOr, wNot, wIf, tAndW, tOrW, tNotW, wChain, wC, wVar, look, wNil, wCons, wTup, wLst, wNewK, wCB, w1, w2, wCall, wMeth, wMake, wIsi, isaQ, tyD, tyM, isaB, blQ, wLen, lenD, lenM, wLe, wLt, wGt, wGe, wAdd, wSub, wMul, wDiv, wMod, wPow, wNeg, wInt2, wInt1, wAbs, wIx, ixL, ixM, ixK, wIn, wNotIn, inD, inM, inK, keyD, wIsN, wNotN, isNonD, wBm, mApp, appM, mPop, popM, mUpd, updM, wDict2, dctM, wgSub, setM, wFld, fldM, wSFld, sfldM, wGet2, wGet1, wEq, wNe, asL, asLM, asK, asKM, asS, sstart, wFor, wgTup, wgCons, wgNil, wTuple, wList, wiL, wiT, wiS, wiK, wiIt, wiR1, wiR2, seqI, seqM, dicI, dicM, wSorted, wAll, wAny, wLc, wDc, wDisp, wpCons, wpNil, wLock, lockD, lockM, wItems, wDPop, dpopM, isDicM, wSl, slD, slM, wPart, wNoP, wipeS, wNever, retE, -List.lookup_eq_none_iff, T.lines, ll]
  refine ⟨tp, S.n, by simp, T.tape, by omega, by omega, fun u u0 u1 => ?_⟩
  simp [wAsg, wgName, wPar, wPar3, wDrop, wRet, wRetN, wIfS, wNext, wTst, wOp, wUn, wFrz, frzD, frzM, wAnd, wOr, wNot, wIf, tAndW, tOrW, tNotW, wChain, wC, wVar, look, wNil, wCons, wTup, wLst, wNewK, wCB, w1, w2, wCall, wMeth, wMake, wIsi, isaQ, tyD, tyM, isaB, blQ, wLen, lenD, lenM, wLe, wLt, wGt, wGe, wAdd, wSub, wMul, wDiv, wMod, wPow, wNeg, wInt2, wInt1, wAbs, wIx, ixL, ixM, ixK, wIn, wNotIn, inD, inM, inK, keyD, wIsN, wNotN, isNonD, wBm, mApp, appM, mPop, popM, mUpd, updM, wDict2, dctM, wgSub, setM, wFld, fldM, wSFld, sfldM, wGet2, wGet1, wEq, wNe, asL, asLM, asK, asKM, asS, sstart, wFor, wgTup, wgCons, wgNil, wTuple, wList, wiL, wiT, wiS, wiK, wiIt, wiR1, wiR2, seqI, seqM, dicI, dicM, wSorted, wAll, wAny, wLc, wDc, wDisp, wpCons, wpNil, wLock, lockD, lockM, wItems, wDPop, dpopM, isDicM, wSl, slD, slM, wPart, wNoP, wipeS, wNever, retE, -List.lookup_eq_none_iff, T.lines, ll]
  refine ⟨tp, S.n, by simp, T.tape, by omega, by omega, fun v v0 v1 => ?_⟩
  simp [wAsg, wgName, wPar, wPar3, wDrop, wRet, wRetN, wIfS, wNext, wTst, wOp, wUn, wFrz, frzD, frzM, wAnd, wOr, wNot, wIf, tAndW, tOrW, tNotW, wChain, wC, wVar, look, wNil, wCons, wTup, wLst, wNewK, wCB, w1, w2, wCall, wMeth, wMake, wIsi, isaQ, tyD, tyM, isaB, blQ, wLen, lenD, lenM, wLe, wLt, wGt, wGe, wAdd, wSub, wMul, wDiv, wMod, wPow, wNeg, wInt2, wInt1, wAbs, wIx, ixL, ixM, ixK, wIn, wNotIn, inD, inM, inK, keyD, wIsN, wNotN, isNonD, wBm, mApp, appM, mPop, popM, mUpd, updM, wDict2, dctM, wgSub, setM, wFld, fldM, wSFld, sfldM, wGet2, wGet1, wEq, wNe, asL, asLM, asK, asKM, asS, sstart, wFor, wgTup, wgCons, wgNil, wTuple, wList, wiL, wiT, wiS, wiK, wiIt, wiR1, wiR2, seqI, seqM, dicI, dicM, wSorted, wAll, wAny, wLc, wDc, wDisp, wpCons, wpNil, wLock, lockD, lockM, wItems, wDPop, dpopM, isDicM, wSl, slD, slM, wPart, wNoP, wipeS, wNever, retE, -List.lookup_eq_none_iff]
  obtain ⟨tb, etb, okb⟩ := w.tabAt u0 u1
  obtain ⟨ps, eps⟩ := w.parAt u0 u1
  obtain ⟨pl2, plb, _⟩ := w.par _ _ eps
  obtain ⟨c1, c2, c3, c4⟩ := tab_self okb
  rw [wSeq_app]
  unfold s2
  simp only [wIfS, tOrW, wTst, wOp, wFrz, wMeth, wCons, wNil, wVar, wC, look]
  refine ⟨h, _, rfl, T.isH.oh, lk4, h, t, p, S, u, tb, rfl, T.isH, w, u0, u1, etb, fun a ha => ?_⟩
  have hla : ln ≠ a := neO T.lines ha
  try dsimp only
  rw [frz_rdic updO_same, remO_updO ha]
  refine tabs_dic w u0 u1 T.lines etb ?_
  simp only [frz_dic, wNe, c1, c2, c3, c4, blQ]
  refine ⟨trivial, trivial, by omega, ?_⟩
  simp only [Bool.not_true, Bool.false_eq_true, if_false, wCB, wCons, wNil, wFrz, wVar, look, wMeth, wOp, wC]
  refine ⟨h, _, rfl, T.isH.oh, lk5, h, t, p, S, u, ps, rfl, T.isH, w, u0, u1, eps, ?_⟩
  try dsimp only
  rw [frz_tupI]
  refine repr_par pl2 (fun x hx => by have := plb x hx; omega) ?_
  try dsimp only
  rw [frz_str]
  refine tabs_at0 w u0 u1 T.lines eps ?_
  try dsimp only
  rw [frz_tupI]
  refine repr_par pl2 (fun x hx => by have := plb x hx; omega) ?_
  simp only [frz_str, wNe, cmp_ss, ne_ss, dp_s, eqv_ss, blQ, wNext]
  refine ⟨trivial, trivial, by omega, ?_⟩
  simp only [beq_self_eq_true, Bool.not_true, Bool.false_eq_true, if_false]
  rw [wSeq_app]
  unfold s3
  simp only [wAsg, wTup, wCons, wNil, wFrz, wCall, wVar, look]
  refine ⟨ln, S, u, rfl, T.lines, w, u0, u1, fun l1 n1 m1 => ?_⟩
  try dsimp only
  rw [visD_eq, frz_dic]
  refine ⟨ln, S, v, rfl, T.lines, w, v0, v1, fun l2 n2 m2 => ?_⟩
  try dsimp only
  rw [visD_eq, frz_dic]
  simp only [wgTup, wgCons, wgName, wgNil, List.set, List.length_cons, List.length_nil, true_and]
  rw [wSeq_app]
  unfold s4
  simp only [wAsg, wLst, wCons, wNil, wFrz, wMeth, wVar, look]
  refine ⟨h, _, rfl, T.isH.oh, lk7, h, t, p, S, u, rfl, T.isH, w, u0, u1, ?_⟩
  try dsimp only
  rw [frz_tupI]
  refine ⟨h, _, rfl, T.isH.oh, lk9, h, t, p, S, u, v, rfl, T.isH, w, u0, u1, v0, v1, ?_⟩
  try dsimp only
  rw [frz_tupI]
  refine ⟨h, _, rfl, T.isH.oh, lk9, h, t, p, S, v, u, rfl, T.isH, w, v0, v1, u0, u1, ?_⟩
  try dsimp only
  rw [frz_tupI]
  refine ⟨h, _, rfl, T.isH.oh, lk11, h, t, p, S, u, v, rfl, T.isH, w, u0, u1, v0, v1, ?_⟩
  try dsimp only
  rw [frz_tupI]
  intro a1 ha1
  simp only [wgName, List.set]
  have hl1 : ln ≠ a1 := neO T.lines ha1
  have line1 : updO O a1 (.lst [tupI (setL S.n fun x => S.rc u x && decide (x ≠ u)), tupI (basesL S u v), tupI (basesL S v u), tupI (setL S.n fun x => S.rc v x && !S.rc u x)]) ln = some (.lst (linesD S)) := by rw [updO_ne hl1, T.lines]
  have le1 : Le O (updO O a1 (.lst [tupI (setL S.n fun x => S.rc u x && decide (x ≠ u)), tupI (basesL S u v), tupI (basesL S v u), tupI (setL S.n fun x => S.rc v x && !S.rc u x)])) := (Le.refl O).upd ha1
  have told1 : updO O a1 (.lst [tupI (setL S.n fun x => S.rc u x && decide (x ≠ u)), tupI (basesL S u v), tupI (basesL S v u), tupI (setL S.n fun x => S.rc v x && !S.rc u x)]) a1 = some (.lst [tupI (setL S.n fun x => S.rc u x && decide (x ≠ u)), tupI (basesL S u v), tupI (basesL S v u), tupI (setL S.n fun x => S.rc v x && !S.rc u x)]) := updO_same
  generalize updO O a1 (.lst [tupI (setL S.n fun x => S.rc u x && decide (x ≠ u)), tupI (basesL S u v), tupI (basesL S v u), tupI (setL S.n fun x => S.rc v x && !S.rc u x)]) = O1 at line1 le1 told1 ⊢
  rw [wSeq_app]
  unfold s5
  simp [wSeq, wAsg, wgName, wPar, wPar3, wDrop, wRet, wRetN, wIfS, wNext, wTst, wOp, wUn, wFrz, frzD, frzM, wAnd, wOr, wNot, wIf, tAndW, tOrW, tNotW, wChain, wC, wVar, look, wNil, wCons, wTup, wLst, wNewK, wCB, w1, w2, wCall, wMeth, wMake, wIsi, isaQ, tyD, tyM, isaB, blQ, wLen, lenD, lenM, wLe, wLt, wGt, wGe, wAdd, wSub, wMul, wDiv, wMod, wPow, wNeg, wInt2, wInt1, wAbs, wIx, ixL, ixM, ixK, wIn, wNotIn, inD, inM, inK, keyD, wIsN, wNotN, isNonD, wBm, mApp, appM, mPop, popM, mUpd, updM, wDict2, dctM, wgSub, setM, wFld, fldM, wSFld, sfldM, wGet2, wGet1, wEq, wNe, asL, asLM, asK, asKM, asS, sstart, wFor, wgTup, wgCons, wgNil, wTuple, wList, wiL, wiT, wiS, wiK, wiIt, wiR1, wiR2, seqI, seqM, dicI, dicM, wAll, wAny, wLc, wDc, wDisp, wpCons, wpNil, wLock, lockD, lockM, wItems, wDPop, dpopM, isDicM, wSl, slD, slM, wPart, wNoP, wipeS, wNever, retE, -List.lookup_eq_none_iff]
  intro a2 ha2
  have h12 : a1 ≠ a2 := neO told1 ha2
  have hl2 : ln ≠ a2 := neO line1 ha2
  have hlen1 := line_len w u0 u1 n1 m1
  rw [vis_keysD]
  refine lcN_run (f := pickI fun k => !decide (k = u)) (fun d hd acc R N hh => ?_) (fun acc => trivial) (by simp; omega) ?_
  · obtain ⟨k, hk, rfl⟩ := mem_int hd
    by_cases hku : k = u
    · subst hku
      simpa [wSeq, wAsg, wgName, wPar, wPar3, wDrop, wRet, wRetN, wIfS, wNext, wTst, wOp, wUn, wFrz, frzD, frzM, wAnd, wOr, wNot, wIf, tAndW, tOrW, tNotW, wChain, wC, wVar, look, wNil, wCons, wTup, wLst, wNewK, wCB, w1, w2, wCall, wMeth, wMake, wIsi, isaQ, tyD, tyM, isaB, blQ, wLen, lenD, lenM, wLe, wLt, wGt, wGe, wAdd, wSub, wMul, wDiv, wMod, wPow, wNeg, wInt2, wInt1, wAbs, wIx, ixL, ixM, ixK, wIn, wNotIn, inD, inM, inK, keyD, wIsN, wNotN, isNonD, wBm, mApp, appM, mPop, popM, mUpd, updM, wDict2, dctM, wgSub, setM, wFld, fldM, wSFld, sfldM, wGet2, wGet1, wEq, wNe, asL, asLM, asK, asKM, asS, sstart, wFor, wgTup, wgCons, wgNil, wTuple, wList, wiL, wiT, wiS, wiK, wiIt, wiR1, wiR2, seqI, seqM, dicI, dicM, wSorted, wAll, wAny, wLc, wDc, wDisp, wpCons, wpNil, wLock, lockD, lockM, wItems, wDPop, dpopM, isDicM, wSl, slD, slM, wPart, wNoP, wipeS, wNever, retE, -List.lookup_eq_none_iff, pickI, cmp_ii, ne_ii, dp_i, eqv_ii] using hh
    · simpa [wSeq, wAsg, wgName, wPar, wPar3, wDrop, wRet, wRetN, wIfS, wNext, wTst, wOp, wUn, wFrz, frzD, frzM, wAnd, wOr, wNot, wIf, tAndW, tOrW, tNotW, wChain, wC, wVar, look, wNil, wCons, wTup, wLst, wNewK, wCB, w1, w2, wCall, wMeth, wMake, wIsi, isaQ, tyD, tyM, isaB, blQ, wLen, lenD, lenM, wLe, wLt, wGt, wGe, wAdd, wSub, wMul, wDiv, wMod, wPow, wNeg, wInt2, wInt1, wAbs, wIx, ixL, ixM, ixK, wIn, wNotIn, inD, inM, inK, keyD, wIsN, wNotN, isNonD, wBm, mApp, appM, mPop, popM, mUpd, updM, wDict2, dctM, wgSub, setM, wFld, fldM, wSFld, sfldM, wGet2, wGet1, wEq, wNe, asL, asLM, asK, asKM, asS, sstart, wFor, wgTup, wgCons, wgNil, wTuple, wList, wiL, wiT, wiS, wiK, wiIt, wiR1, wiR2, seqI, seqM, dicI, dicM, wSorted, wAll, wAny, wLc, wDc, wDisp, wpCons, wpNil, wLock, lockD, lockM, wItems, wDPop, dpopM, isDicM, wSl, slD, slM, wPart, wNoP, wipeS, wNever, retE, -List.lookup_eq_none_iff, pickI, cmp_ii, ne_ii, dp_i, eqv_ii, hku] using hh
  rw [pick_map, List.nil_append]
  refine sortedL_i (asL_ref updO_same) (asI_map _) fun a3 ha3 => ?_
  obtain ⟨h32, h3'⟩ := none_upd ha3
  have e1 : sortI (l1.filter fun k => !decide (k = u)) = setL S.n fun x => S.rc u x && decide (x ≠ u) := by
    refine sort_setL (n1.sublist List.filter_sublist) fun x => ?_
    rw [List.mem_filter, m1]
    constructor
    · rintro ⟨a, b⟩
      have := rc_le w u0 u1 a
      exact ⟨this.1, by omega, by simp [a]; simpa using b⟩
    · rintro ⟨_, _, c⟩
      simp at c
      exact ⟨c.1, by simpa using c.2⟩
  rw [e1]
  have le3 := (le1.upd (m := .lst ((l1.filter fun k => !decide (k = u)).map D.int)) (none_le le1 ha2)).upd (m := .lst ((setL S.n fun x => S.rc u x && decide (x ≠ u)).map D.int)) (a := a3) (none_le le1 h3')
  simp
  refine ⟨ln, S, u, v, by simp, by rw [updO_ne (neO line1 h3'), updO_ne hl2, line1], w, u0, u1, v0, v1, ?_⟩
  simp [tupI]
  intro a4 ha4
  have h41 : a1 ≠ a4 := by
    refine neO (m := .lst [tupI (setL S.n fun x => S.rc u x && decide (x ≠ u)), tupI (basesL S u v), tupI (basesL S v u), tupI (setL S.n fun x => S.rc v x && !S.rc u x)]) ?_ ha4
    rw [updO_ne (neO told1 h3'), updO_ne h12, told1]
  have hl4 : ln ≠ a4 := by
    refine neO (m := .lst (linesD S)) ?_ ha4
    rw [updO_ne (neO line1 h3'), updO_ne hl2, line1]
  obtain ⟨_, ha4'⟩ := none_upd ha4
  obtain ⟨_, ha4''⟩ := none_upd ha4'
  generalize hO4 : updO (updO (updO O1 a2 (.lst ((l1.filter fun k => !decide (k = u)).map D.int))) a3 (.lst ((setL S.n fun x => S.rc u x && !decide (x = u)).map D.int))) a4 (.lst [.tup ((setL S.n fun x => S.rc u x && !decide (x = u)).map D.int), .tup ((basesL S u v).map D.int)]) = O4
  have le4 : Le O O4 := by
    rw [← hO4]
    exact ((le1.upd (none_le le1 ha2)).upd (none_le le1 h3')).upd (none_le le1 ha4'')
  have line4 : O4 ln = some (.lst (linesD S)) := le4 _ _ T.lines
  have told4 : O4 a1 = some (.lst [tupI (setL S.n fun x => S.rc u x && decide (x ≠ u)), tupI (basesL S u v), tupI (basesL S v u), tupI (setL S.n fun x => S.rc v x && !S.rc u x)]) := by
    rw [← hO4, updO_ne h41, updO_ne (neO told1 h3'), updO_ne h12, told1]
  have own4 : O4 a4 = some (.lst [.tup ((setL S.n fun x => S.rc u x && !decide (x = u)).map D.int), .tup ((basesL S u v).map D.int)]) := by rw [← hO4, updO_same]
  have eE : (setL S.n fun x => S.rc u x && decide (x ≠ u)) = setL S.n fun x => S.rc u x && !decide (x = u) := by
    congr 1
    funext x
    simp
  clear hO4 ha4 ha4' ha4'' le3 ha3 e1
  rw [eE] at told4
  -- own + [..]
  unfold s6
  simp [wSeq, wAsg, wgName, wPar, wPar3, wDrop, wRet, wRetN, wIfS, wNext, wTst, wOp, wUn, wFrz, frzD, frzM, wAnd, wOr, wNot, wIf, tAndW, tOrW, tNotW, wChain, wC, wVar, look, wNil, wCons, wTup, wLst, wNewK, wCB, w1, w2, wCall, wMeth, wMake, wIsi, isaQ, tyD, tyM, isaB, blQ, wLen, lenD, lenM, wLe, wLt, wGt, wGe, wSub, wMul, wDiv, wMod, wPow, wNeg, wInt2, wInt1, wAbs, wIx, ixL, ixM, ixK, wIn, wNotIn, inD, inM, inK, keyD, wIsN, wNotN, isNonD, wBm, mApp, appM, mPop, popM, mUpd, updM, wDict2, dctM, wgSub, setM, wFld, fldM, wSFld, sfldM, wGet2, wGet1, wEq, wNe, asL, asLM, asK, asKM, asS, sstart, wFor, wgTup, wgCons, wgNil, wTuple, wList, wiL, wiT, wiS, wiK, wiIt, wiR1, wiR2, seqI, seqM, dicI, dicM, wAll, wAny, wLc, wDc, wDisp, wpCons, wpNil, wLock, lockD, lockM, wItems, wDPop, dpopM, isDicM, wSl, slD, slM, wPart, wNoP, wipeS, wNever, retE, -List.lookup_eq_none_iff]
  refine ⟨ln, S, v, u, by simp, line4, w, v0, v1, u0, u1, ?_⟩
  simp [tupI]
  intro a5 ha5
  have hl5 : ln ≠ a5 := neO line4 ha5
  have hlen2 := line_len w v0 v1 n2 m2
  rw [vis_keysD]
  refine lcN_run (f := pickI fun k => !S.rc u k) (fun d hd acc R N hh => ?_) (fun acc => trivial) (by simp; omega) ?_
  · obtain ⟨k, hk, rfl⟩ := mem_int hd
    have e := m1 k
    by_cases hkv : S.rc u k = true
    · have : k ∈ l1 := e.mpr hkv
      simpa [wSeq, wAsg, wgName, wPar, wPar3, wDrop, wRet, wRetN, wIfS, wNext, wTst, wOp, wUn, wFrz, frzD, frzM, wAnd, wOr, wNot, wIf, tAndW, tOrW, tNotW, wChain, wC, wVar, look, wNil, wCons, wTup, wLst, wNewK, wCB, w1, w2, wCall, wMeth, wMake, wIsi, isaQ, tyD, tyM, isaB, blQ, wLen, lenD, lenM, wLe, wLt, wGt, wGe, wAdd, wSub, wMul, wDiv, wMod, wPow, wNeg, wInt2, wInt1, wAbs, wIx, ixL, ixM, ixK, wIn, wNotIn, inD, inM, inK, keyD, wIsN, wNotN, isNonD, wBm, mApp, appM, mPop, popM, mUpd, updM, wDict2, dctM, wgSub, setM, wFld, fldM, wSFld, sfldM, wGet2, wGet1, wEq, wNe, asL, asLM, asK, asKM, asS, sstart, wFor, wgTup, wgCons, wgNil, wTuple, wList, wiL, wiT, wiS, wiK, wiIt, wiR1, wiR2, seqI, seqM, dicI, dicM, wSorted, wAll, wAny, wLc, wDc, wDisp, wpCons, wpNil, wLock, lockD, lockM, wItems, wDPop, dpopM, isDicM, wSl, slD, slM, wPart, wNoP, wipeS, wNever, retE, -List.lookup_eq_none_iff, pickI, vis_get, this, hkv] using hh
    · have : k ∉ l1 := fun z => hkv (e.mp z)
      simpa [wSeq, wAsg, wgName, wPar, wPar3, wDrop, wRet, wRetN, wIfS, wNext, wTst, wOp, wUn, wFrz, frzD, frzM, wAnd, wOr, wNot, wIf, tAndW, tOrW, tNotW, wChain, wC, wVar, look, wNil, wCons, wTup, wLst, wNewK, wCB, w1, w2, wCall, wMeth, wMake, wIsi, isaQ, tyD, tyM, isaB, blQ, wLen, lenD, lenM, wLe, wLt, wGt, wGe, wAdd, wSub, wMul, wDiv, wMod, wPow, wNeg, wInt2, wInt1, wAbs, wIx, ixL, ixM, ixK, wIn, wNotIn, inD, inM, inK, keyD, wIsN, wNotN, isNonD, wBm, mApp, appM, mPop, popM, mUpd, updM, wDict2, dctM, wgSub, setM, wFld, fldM, wSFld, sfldM, wGet2, wGet1, wEq, wNe, asL, asLM, asK, asKM, asS, sstart, wFor, wgTup, wgCons, wgNil, wTuple, wList, wiL, wiT, wiS, wiK, wiIt, wiR1, wiR2, seqI, seqM, dicI, dicM, wSorted, wAll, wAny, wLc, wDc, wDisp, wpCons, wpNil, wLock, lockD, lockM, wItems, wDPop, dpopM, isDicM, wSl, slD, slM, wPart, wNoP, wipeS, wNever, retE, -List.lookup_eq_none_iff, pickI, vis_get, this, hkv] using hh
  rw [pick_map, List.nil_append]
  refine sortedL_i (asL_ref updO_same) (asI_map _) fun a6 ha6 => ?_
  obtain ⟨h65, ha6'⟩ := none_upd ha6
  have e2 : sortI (l2.filter fun k => !S.rc u k) = setL S.n fun x => S.rc v x && !S.rc u x := by
    refine sort_setL (n2.sublist List.filter_sublist) fun x => ?_
    rw [List.mem_filter, m2]
    constructor
    · rintro ⟨a, b⟩
      have := rc_le w v0 v1 a
      exact ⟨this.1, by omega, by simp [a]; simpa using b⟩
    · rintro ⟨_, _, c⟩
      simp at c
      exact ⟨c.1, by simpa using c.2⟩
  rw [e2]
  simp
  intro a7 ha7
  obtain ⟨h76, ha7'⟩ := none_upd ha7
  obtain ⟨h75, ha7''⟩ := none_upd ha7'
  have n5 := none_le le4 ha5
  have n6 := none_le le4 ha6'
  have n7 := none_le le4 ha7''
  have h47 : a4 ≠ a7 := neO own4 ha7''
  have h17 : a1 ≠ a7 := neO told4 ha7''
  generalize hO7 : updO (updO (updO O4 a5 (.lst ((l2.filter fun k => !S.rc u k).map D.int))) a6 (.lst ((setL S.n fun x => S.rc v x && !S.rc u x).map D.int))) a7 (.lst [.tup ((basesL S v u).map D.int), .tup ((setL S.n fun x => S.rc v x && !S.rc u x).map D.int)]) = O7
  have le7 : Le O O7 := by
    rw [← hO7]
    exact ((le4.upd n5).upd n6).upd n7
  have told7 : O7 a1 = some (.lst [tupI (setL S.n fun x => S.rc u x && !decide (x = u)), tupI (basesL S u v), tupI (basesL S v u), tupI (setL S.n fun x => S.rc v x && !S.rc u x)]) := by
    rw [← hO7, updO_ne h17, updO_ne (neO told4 ha6'), updO_ne (neO told4 ha5), told4]
  have own7 : O7 a4 = some (.lst [.tup ((setL S.n fun x => S.rc u x && !decide (x = u)).map D.int), .tup ((basesL S u v).map D.int)]) := by
    rw [← hO7, updO_ne h47, updO_ne (neO own4 ha6'), updO_ne (neO own4 ha5), own4]
  have new7 : O7 a7 = some (.lst [.tup ((basesL S v u).map D.int), .tup ((setL S.n fun x => S.rc v x && !S.rc u x).map D.int)]) := by rw [← hO7, updO_same]
  clear hO7 ha7 ha7' ha7'' ha6 ha6'
  rw [wAdd_ref]
  refine ⟨_, _, asL_ref own7, asL_ref new7, by rw [sz]; simp only [List.length_cons, List.length_nil]; omega, fun a8 ha8 => ?_⟩
  have h18 : a1 ≠ a8 := neO told7 ha8
  have n8 := none_le le7 ha8
  -- the two are shown alike
  unfold s7
  simp only [wIfS, wTst, wOp, wFrz, wCB, wCons, wNil, wVar, look]
  rw [frz_rlst (by rw [updO_ne h18, told7])]
  refine repr_told (few_setL hf) (few_bases w) (few_bases w) (few_setL hf) ?_
  rw [frz_str]
  try dsimp only
  rw [frz_rlst (by rw [remO_ne h18.symm, updO_same])]
  refine repr_told (few_setL hf) (few_bases w) (few_bases w) (few_setL hf) ?_
  simp only [frz_str, wNe, cmp_ss, ne_ss, dp_s, eqv_ss, blQ, wNext]
  refine ⟨trivial, trivial, by omega, ?_⟩
  have le9 : Le O (remO (remO (updO O7 a8 (.lst ([.tup ((setL S.n fun x => S.rc u x && !decide (x = u)).map D.int), .tup ((basesL S u v).map D.int)] ++ [.tup ((basesL S v u).map D.int), .tup ((setL S.n fun x => S.rc v x && !S.rc u x).map D.int)]))) a1) a8) := ((le7.upd n8).rem ha1).rem n8
  simp only [tupI, List.cons_append, List.nil_append, beq_self_eq_true, Bool.not_true, Bool.false_eq_true, if_false] at le9 ⊢
  generalize remO (remO (updO O7 a8 (.lst [.tup ((setL S.n fun x => S.rc u x && !decide (x = u)).map D.int), .tup ((basesL S u v).map D.int), .tup ((basesL S v u).map D.int), .tup ((setL S.n fun x => S.rc v x && !S.rc u x).map D.int)])) a1) a8 = O9 at le9 ⊢
  have H9 := T.isH.le le9
  rw [wSeq_app]
  unfold s8
  simp only [wAsg, wMeth, wCons, wNil, wVar, look]
  refine ⟨h, _, rfl, H9.oh, lk4, h, t, p, S, u, tb, rfl, H9, w, u0, u1, etb, fun a9 ha9 => ?_⟩
  have n9 := none_le le9 ha9
  have lt := okb.len
  simp only [wgName, List.set]
  rw [wSeq_app]
  unfold s9
  simp [wSeq, wAsg, wgName, wPar, wPar3, wDrop, wRet, wRetN, wIfS, wNext, wTst, wOp, wUn, wFrz, frzD, frzM, wAnd, wOr, wNot, wIf, tAndW, tOrW, tNotW, wChain, wC, wVar, look, wNil, wCons, wTup, wLst, wNewK, wCB, w1, w2, wCall, wMeth, wMake, wIsi, isaQ, tyD, tyM, isaB, blQ, wLen, lenD, lenM, wLe, wLt, wGt, wGe, wAdd, wSub, wMul, wDiv, wMod, wPow, wNeg, wInt2, wInt1, wAbs, wIx, ixL, ixM, ixK, wIn, wNotIn, inD, inM, inK, keyD, wIsN, wNotN, isNonD, wBm, mApp, appM, mPop, popM, mUpd, updM, wDict2, dctM, wgSub, setM, wFld, fldM, wSFld, sfldM, wGet2, wGet1, wEq, wNe, asL, asLM, asK, asKM, asS, sstart, wFor, wgTup, wgCons, wgNil, wTuple, wList, wiL, wiT, wiS, wiK, wiIt, wiR1, wiR2, seqI, seqM, dicI, dicM, wSorted, wAll, wAny, wLc, wDc, wDisp, wpCons, wpNil, wLock, lockD, lockM, wItems, wDPop, dpopM, isDicM, wSl, slD, slM, wPart, wNoP, wipeS, wNever, retE, -List.lookup_eq_none_iff]
  refine ⟨by omega, ?_⟩
  unfold s10
  have le10 := le9.upd (m := .dic (putG tb (.inr "more") (.int 5))) n9
  have H10 := T.isH.le le10
  simp only [wRet, wFrz, wOp, wMeth, wCons, wNil, wVar, wC, look]
  refine ⟨h, _, rfl, H10.oh, lk4, h, t, p, S, u, tb, rfl, H10, w, u0, u1, etb, fun b hb => ?_⟩
  try dsimp only
  rw [frz_rdic updO_same, remO_updO hb]
  refine tabs_dic w u0 u1 (le10 _ _ T.lines) etb ?_
  simp only [frz_dic, wEq, c1, c2, c3]
  refine ⟨trivial, by omega, ?_⟩
  rw [frz_bl]
  exact retL le10 q
end KH

set_option Elab.async false
set_option linter.all false
set_option maxRecDepth 100000
/-! KH: the law behind its tape -/
namespace KH
open PySem PySem.Spec PyProof.Rows L2 TD
variable {CS : CSt} {ds : List D} {O : OO} {Q : D → OO → Prop} {tp h t p ln : Addr} {S : Hist}
def w1 (CS : CSt) : WS := (wIfS (tNotW (wTst (wCall (S_law_known_right CS) wNil))) (wRet (wC (.bl false))) wNext)
def w2 (CS : CSt) : WS := (wAsg (wFrz (wSl (wLst (wCons (wC (.str "a")) (wCons (wC (.str "b")) (wCons (wC (.str "c")) (wCons (wC (.str "dd")) wNil))))) wNoP (wPart (wOp wAdd (wC (.int 1)) (wCall (S_law_pick CS) (wCons (wVar 1) (wCons (wC (.int 4)) wNil))))))) (wgName 2))
def w3 (CS : CSt) : WS := (wAsg (wCall (S_law_table CS) (wCons (wVar 1) (wCons (wFrz (wVar 2)) wNil))) (wgName 3))
def w4 (CS : CSt) : WS := (wPar 4 5 (wCons (wMake CS.C_History (S_History___init__ CS) (wCons (wVar 3) wNil)) (wCons (wLst (wCons (wTup (wCons (wFrz (wCB wDict2 (wCons (wItems (wVar 3)) wNil))) (wCons (wTup wNil) wNil))) wNil)) wNil)))
def w5 (CS : CSt) : WS := (wAsg (wC (.int 1)) (wgSub (wVar 3) (wC (.str "later"))))
def w6 (CS : CSt) : WS := (wFor (wiR1 (wCons (wOp wAdd (wC (.int 8)) (wCall (S_law_pick CS) (wCons (wVar 1) (wCons (wC (.int 12)) wNil)))) wNil)) (wgName 6) (wIfS (tOrW (tNotW (wTst (wCall (S_law_grown CS) (wCons (wVar 1) (wCons (wVar 4) (wCons (wVar 5) (wCons (wFrz (wVar 2)) wNil))))))) (tNotW (wTst (wCall (S_law_stands CS) (wCons (wVar 1) (wCons (wVar 4) (wCons (wVar 5) wNil))))))) (wRet (wC (.bl false))) wNext))
def w7 (CS : CSt) : WS := (wFor (wiR1 (wCons (wCB wLen (wCons (wVar 5) wNil)) wNil)) (wgName 7) (wSeq (wIfS (wTst (wOp wNe (wFrz (wMeth CS.C_History "table_of" (S_History_table_of CS) (wVar 4) (wCons (wVar 7) wNil))) (wFrz (wOp wIx (wOp wIx (wVar 5) (wVar 7)) (wC (.int 0)))))) (wRet (wC (.bl false))) wNext) (wIfS (wTst (wOp wEq (wFrz (wCB wLen (wCons (wOp wIx (wOp wIx (wVar 5) (wVar 7)) (wC (.int 1))) wNil))) (wC (.int 2)))) (wSeq (wAsg (wOp wIx (wOp wIx (wVar 5) (wVar 7)) (wC (.int 1))) (wgTup 2 (wgCons (wgName 8) (wgCons (wgName 9) wgNil)))) (wSeq (wAsg (wFrz (wMeth CS.C_History "table_of" (S_History_table_of CS) (wVar 4) (wCons (wOp wIx (wMeth CS.C_History "bases" (S_History_bases CS) (wVar 4) (wCons (wVar 8) (wCons (wVar 9) wNil))) (wC (.int 0))) wNil))) (wgName 10)) (wIfS (wTst (wOp wNe (wFrz (wOp wIx (wCall (S_merged CS) (wCons (wFrz (wVar 10)) (wCons (wFrz (wMeth CS.C_History "table_of" (S_History_table_of CS) (wVar 4) (wCons (wVar 8) wNil))) (wCons (wFrz (wMeth CS.C_History "table_of" (S_History_table_of CS) (wVar 4) (wCons (wVar 9) wNil))) wNil)))) (wC (.int 0)))) (wFrz (wOp wIx (wOp wIx (wVar 5) (wVar 7)) (wC (.int 0)))))) (wRet (wC (.bl false))) wNext))) wNext)))
def w8 (CS : CSt) : WS := (wRet (wC (.bl true)))
theorem w_eq (CS : CSt) : W_law CS = (wSeq (w1 CS) (wSeq (w2 CS) (wSeq (w3 CS) (wSeq (w4 CS) (wSeq (w5 CS) (wSeq (w6 CS) (wSeq (w7 CS) (w8 CS)))))))) := rfl

theorem merge_app {κ ν : Type} [DecidableEq κ] : ∀ {t acc : List (κ × ν)}, ((acc ++ t).map (·.1)).Nodup → mergeG acc t = acc ++ t
  | [], acc, _ => by simp [mergeG]
  | (k, v) :: r, acc, h => by
    have e : putG acc k v = acc ++ [(k, v)] := by
      unfold putG
      have : ¬ (acc.any fun kv => decide (kv.1 = k)) = true := by
        intro z
        obtain ⟨kv, h1, h2⟩ := List.any_eq_true.mp z
        rw [List.map_append, List.nodup_append] at h
        exact h.2.2 kv.1 (List.mem_map_of_mem h1) k (by simp) (of_decide_eq_true h2)
      rw [if_neg this]
    show mergeG (putG acc k v) r = _
    rw [e, merge_app (by simpa using h)]
    simp
theorem merge_nil {t : Tab} (ht : TabOK t) : mergeG [] t = t := by
  have := merge_app (acc := []) (t := t) (by simpa using ht.nd)
  simpa using this
theorem wf_one {tb : Tab} (ok : TabOK tb) : Wf ⟨[tb], [[]]⟩ where
  len := rfl
  pos := by simp [Hist.n]
  few := by simp [Hist.n]
  tab := fun u hu => by simp at hu; subst hu; exact ok
  par := fun i ps e => by
    cases i with
    | zero => simp at e; subst e; simp
    | succ i => simp at e
theorem mok_one {tb : Tab} : MOK ⟨[tb], [[]]⟩ := fun i u v e => by
  cases i with
  | zero => simp at e
  | succ i => simp at e
theorem names_cut {k : Int} (h0 : 0 ≤ k) (h1 : k < 4) : ∃ ns, NmOK ns ∧ cutD [.str "a", .str "b", .str "c", .str "dd"] none (some (1 + k)) = ns.map D.str := by
  have : k = 0 ∨ k = 1 ∨ k = 2 ∨ k = 3 := by omega
  rcases this with rfl | rfl | rfl | rfl
  · exact ⟨["a"], ⟨by decide, by decide⟩, rfl⟩
  · exact ⟨["a", "b"], ⟨by decide, by decide⟩, rfl⟩
  · exact ⟨["a", "b", "c"], ⟨by decide, by decide⟩, rfl⟩
  · exact ⟨["a", "b", "c", "dd"], ⟨by decide, by decide⟩, rfl⟩
/-- the last loop -/
theorem law_last (T : Two CS O tp h t p ln S) (mok : MOK S) (q : ∀ O', Q (.bl true) O') {x0 x2 x3 x6 x7 x8 x9 x10 : Option D} {R : SD → OO → Prop} (hR : ∀ s O', R s O') :
    w7 CS { retE Q with nx := R } [x0, some (.ref tp), x2, x3, some (.ref h), some (.ref ln), x6, x7, x8, x9, x10] O := by
  have w := T.wf
  have sz := sizeLine_eq
  have hf := w.few
  have ll := linesD_len w
  unfold w7
  simp only [wFor, wiR1, wCons, wNil, wCB, wVar, look]
  refine len_of (asL_ref T.lines) ?_
  rw [ll]
  refine ⟨by omega, by omega, ?_⟩
  refine forN_run (fun r s O' => ∃ (x7 x8 x9 x10 : Option D), s = [x0, some (.ref tp), x2, x3, some (.ref h), some (.ref ln), x6, x7, x8, x9, x10] ∧ Le O O' ∧ ∀ d ∈ r, ∃ i : Int, d = .int i ∧ 0 ≤ i ∧ i < S.n) ?_ ?_ ?_
  · rintro d r s O' K hK ⟨x7, x8, x9, x10, rfl, hle, hr⟩
    obtain ⟨i, rfl, i0, i1⟩ := hr d List.mem_cons_self
    have hr' : ∀ d ∈ r, ∃ i : Int, d = .int i ∧ 0 ≤ i ∧ i < S.n := fun d hd => hr d (List.mem_cons_of_mem _ hd)
    have hK' : ∀ (x8 x9 x10 : Option D) O1, Le O O1 → K [x0, some (.ref tp), x2, x3, some (.ref h), some (.ref ln), x6, some (.int i), x8, x9, x10] O1 := fun x8 x9 x10 O1 l => hK _ _ ⟨_, _, _, _, rfl, l, hr'⟩
    refine ⟨trivial, ?_⟩
    simp only [wgName, List.set]
    have H' := T.isH.le hle
    have line' := hle _ _ T.lines
    obtain ⟨tb, etb, okb⟩ := w.tabAt i0 i1
    obtain ⟨ps, eps⟩ := w.parAt i0 i1
    obtain ⟨pl2, plb, _⟩ := w.par _ _ eps
    obtain ⟨c1, c2, c3, c4⟩ := tab_self okb
    rw [wSeq_app]
    simp only [wIfS, wTst, wOp, wFrz, wMeth, wCons, wNil, wVar, wC, look]
    refine ⟨h, _, rfl, H'.oh, lk4, h, t, p, S, i, tb, rfl, H', w, i0, i1, etb, fun a ha => ?_⟩
    try dsimp only
    rw [frz_rdic updO_same, remO_updO ha]
    refine tabs_dic w i0 i1 line' etb ?_
    simp only [frz_dic, wNe, c1, c2, c3, c4, blQ]
    refine ⟨trivial, trivial, by omega, ?_⟩
    simp only [Bool.not_true, Bool.false_eq_true, if_false, wNext, wCB, wCons, wNil]
    simp only [wIfS, wTst, wOp, wFrz, wCB, wCons, wNil, wVar, look, wC]
    refine tabs_at0 w i0 i1 line' eps ?_
    have lps : wLen [tupI ps] O' = fun Q => Q (.int ps.length) O' := by
      funext Q
      show Q (.int (ps.map D.int).length) O' = _
      rw [List.length_map]
    rw [lps]
    dsimp only
    rw [frz_int]
    simp only [wEq, cmp_ii, dp_i, eqv_ii, blQ]
    refine ⟨trivial, by omega, ?_⟩
    by_cases hps : (ps.length : Int) = 2
    · obtain ⟨u, v, rfl⟩ : ∃ u v, ps = [u, v] := by
        match ps, hps with
        | [u, v], _ => exact ⟨u, v, rfl⟩
        | [], h => simp at h
        | [_], h => simp at h
        | _ :: _ :: _ :: _, h => simp at h; omega
      have hu := plb u (by simp)
      have hv := plb v (by simp)
      have u1 : u < S.n := by omega
      have v1 : v < S.n := by omega
      obtain ⟨b, r', eb⟩ := bases_ne w hu.1 u1 hv.1 v1
      obtain ⟨b0, b1⟩ := bases_sub (S := S) (u := u) (v := v) (x := b) (by rw [eb]; simp)
      obtain ⟨tb', etb', okb'⟩ := w.tabAt b0 b1
      obtain ⟨tu, etu, oku⟩ := w.tabAt hu.1 u1
      obtain ⟨tv, etv, okv⟩ := w.tabAt hv.1 v1
      have em : tb = (mrg tb' tu tv).1 := by
        have := mok i.toNat u v eps b tb' tu tv (by rw [eb]; rfl) etb' etu etv
        rw [etb] at this
        exact Option.some.inj this
      simp only [hps, decide_true, if_true]
      rw [wSeq_app]
      simp only [wAsg, wOp, wVar, wC, look]
      refine tabs_at0 w i0 i1 line' eps ?_
      simp only [tupI, wgTup, wgCons, wgName, wgNil, List.map, List.set, List.length_cons, List.length_nil, true_and]
      rw [wSeq_app]
      simp only [wAsg, wFrz, wMeth, wCons, wNil, wVar, look, wOp, wC]
      try simp only [look]
      refine ⟨h, _, rfl, H'.oh, lk4, h, _, rfl, H'.oh, lk9, h, t, p, S, u, v, rfl, H', w, hu.1, u1, hv.1, v1, ?_⟩
      refine ⟨.int b, at_nat (by omega) (by simp [eb]), h, t, p, S, b, tb', rfl, H', w, b0, b1, etb', fun c hc => ?_⟩
      try dsimp only
      rw [frz_rdic updO_same, remO_updO hc]
      try simp only [wgName, List.set]
      simp only [wIfS, wTst, wOp, wFrz, wCall, wMeth, wCons, wNil, wVar, look, wC]
      rw [frz_dic]
      refine ⟨h, _, rfl, H'.oh, lk4, h, t, p, S, u, tu, rfl, H', w, hu.1, u1, etu, fun d hd => ?_⟩
      try dsimp only
      rw [frz_rdic updO_same, remO_updO hd]
      refine ⟨h, _, rfl, H'.oh, lk4, h, t, p, S, v, tv, rfl, H', w, hv.1, v1, etv, fun e he => ?_⟩
      try dsimp only
      rw [frz_rdic updO_same, remO_updO he]
      refine ⟨tb', tu, tv, rfl, okb', oku, okv, ⟨.dic (mrg tb' tu tv).1, at0, ?_⟩⟩
      rw [← em]
      try dsimp only
      rw [frz_dic]
      refine tabs_dic w i0 i1 line' etb ?_
      simp only [frz_dic, wNe, c1, c2, c3, c4, blQ]
      refine ⟨trivial, trivial, by omega, ?_⟩
      simp only [Bool.not_true, Bool.false_eq_true, if_false, wNext]
      exact hK' _ _ _ _ hle
    · simp only [hps, decide_false, Bool.false_eq_true, if_false, wNext]
      exact hK' _ _ _ _ hle
  · rintro s O' ⟨x7, x8, x9, x10, rfl, hle, hr⟩
    exact ⟨trivial, hR _ _⟩
  · refine ⟨_, _, _, _, rfl, Le.refl O, fun d hd => ?_⟩
    obtain ⟨k, hk, rfl⟩ := List.mem_map.mp hd
    have := List.mem_range.mp hk
    exact ⟨_, rfl, by omega, by omega⟩
/-- the turns -/
theorem law_turns (T : Two CS O tp h t p ln S) (hS : S.n = 1) (mok : MOK S) {ns : List Str} (hns : NmOK ns) {x0 x3 x6 x7 x8 x9 x10 : Option D} {R : SD → OO → Prop} (hR : ∀ O' S' x6, Two CS O' tp h t p ln S' → MOK S' → R [x0, some (.ref tp), some (.lst (ns.map D.str)), x3, some (.ref h), some (.ref ln), x6, x7, x8, x9, x10] O') :
    w6 CS { retE Q with nx := R } [x0, some (.ref tp), some (.lst (ns.map D.str)), x3, some (.ref h), some (.ref ln), x6, x7, x8, x9, x10] O := by
  unfold w6
  simp only [wFor, wiR1, wCons, wNil, wOp, wC, wCall, wVar, look]
  refine ⟨tp, 12, rfl, T.tape, by omega, by omega, fun k k0 k1 => ?_⟩
  show wAdd (.int 8) (.int k) O _
  refine ⟨by omega, by omega, ?_⟩
  refine forN_run (fun r s O' => ∃ (S' : Hist) (x6 : Option D), s = [x0, some (.ref tp), some (.lst (ns.map D.str)), x3, some (.ref h), some (.ref ln), x6, x7, x8, x9, x10] ∧ Two CS O' tp h t p ln S' ∧ MOK S' ∧ S'.n + r.length ≤ 30) ?_ ?_ ?_
  · rintro d r s O' K hK ⟨S', x6, rfl, T', mok', hl⟩
    simp only [List.length_cons] at hl
    refine ⟨trivial, ?_⟩
    simp only [wgName, List.set, wIfS, tOrW, tNotW, wTst, wCall, wCons, wNil, wVar, wFrz, look]
    rw [frz_lst]
    refine ⟨tp, h, t, p, ln, S', ns, rfl, T', hns, by omega, mok', fun S2 w2 mok2 hn2 => ?_⟩
    have T2 := T'.put (S' := S2) w2
    simp only [blQ, Bool.not_true, Bool.false_eq_true, if_false]
    refine ⟨tp, h, t, p, ln, S2, rfl, T2, ?_⟩
    simp only [blQ, Bool.not_true, Bool.false_eq_true, if_false, wNext]
    exact hK _ _ ⟨S2, _, rfl, T2, mok2, by omega⟩
  · rintro s O' ⟨S', x6, rfl, T', mok', hl⟩
    exact ⟨trivial, hR _ _ _ T' mok'⟩
  · exact ⟨S, _, rfl, T, mok, by simp; omega⟩
end KH

set_option Elab.async false
set_option linter.all false
set_option maxRecDepth 100000
/-! KH: the law behind its tape, whole -/
namespace KH
open PySem PySem.Spec PyProof.Rows L2 TD
variable {CS : CSt} {ds : List D} {O : OO} {Q : D → OO → Prop}
theorem dict2_lst {a : Addr} {O : OO} {Q : D → OO → Prop} {ds : List D} {kvs : Tab} (h : O a = some (.lst ds)) (hp : asP ds = some kvs) (q : ∀ b, O b = none → Q (.ref b) (updO O b (.dic (mergeG [] kvs)))) : wDict2 [.ref a] O Q := by
  have e : wDict2 [.ref a] O Q = dctM O Q (O a) := rfl
  rw [e, h]
  exact ⟨kvs, hp, q⟩
theorem law_law {tp : Addr} {x0 : Option D} (ha : O tp = some .tape) (q : ∀ O', Q (.bl true) O') : W_law CS (retE Q) [x0, some (.ref tp), none, none, none, none, none, none, none, none, none] O := by
  have sz := sizeLine_eq
  have q' : ∀ O', ∃ O2, Le O2 O' ∧ Q (.bl true) O2 := fun O' => ret0 (q O')
  rw [w_eq, wSeq_app]
  unfold w1
  simp only [wIfS, tNotW, wTst, wCall, wNil]
  refine ⟨rfl, ?_⟩
  simp only [blQ, Bool.not_true, Bool.false_eq_true, if_false, wNext]
  (try dsimp only)
  rw [wSeq_app]
  unfold w2
  simp [wAsg, wgName, wPar, wPar3, wDrop, wRet, wRetN, wIfS, wNext, wTst, wOp, wUn, wFrz, wAnd, wOr, wNot, wIf, tAndW, tOrW, tNotW, wChain, wC, wVar, look, wNil, wCons, wTup, wLst, wNewK, wCB, w1, w2, wCall, wMeth, wMake, wIsi, isaQ, tyD, tyM, isaB, blQ, wLen, lenD, lenM, wLe, wLt, wGt, wGe, wAdd, wSub, wMul, wDiv, wMod, wPow, wNeg, wInt2, wInt1, wAbs, wIx, ixL, ixM, ixK, wIn, wNotIn, inD, inM, inK, keyD, wIsN, wNotN, isNonD, wBm, mApp, appM, mPop, popM, mUpd, updM, wDict2, dctM, wgSub, setM, wFld, fldM, wSFld, sfldM, wGet2, wGet1, wEq, wNe, asL, asLM, asK, asKM, asS, sstart, wFor, wgTup, wgCons, wgNil, wTuple, wList, wiL, wiT, wiS, wiK, wiIt, wiR1, wiR2, seqI, seqM, dicI, dicM, wSorted, wAll, wAny, wLc, wDc, wDisp, wpCons, wpNil, wLock, lockD, lockM, wItems, wDPop, dpopM, isDicM, wSl, wPart, wNoP, wipeS, wNever, retE, -List.lookup_eq_none_iff]
  intro a ha0
  have hta : tp ≠ a := neO ha ha0
  refine ⟨tp, 4, by simp, by rw [updO_ne hta, ha], by omega, by omega, fun k k0 k1 => ?_⟩
  obtain ⟨ns, hns, ec⟩ := names_cut k0 k1
  simp [slD, slM]
  rw [ec]
  intro b hb
  obtain ⟨hba, hb0⟩ := none_upd hb
  (try dsimp only)
  rw [frz_rlst updO_same, remO_updO hb]
  have hal : Le O (updO O a (.lst [.str "a", .str "b", .str "c", .str "dd"])) := (Le.refl O).upd ha0
  generalize updO O a (.lst [.str "a", .str "b", .str "c", .str "dd"]) = O1 at hal hb ⊢
  have t1 := hal _ _ ha
  (try dsimp only)
  rw [wSeq_app]
  unfold w3
  simp only [wAsg, wCall, wCons, wNil, wVar, wFrz, look, wgName, List.set]
  (try dsimp only)
  rw [frz_lst]
  refine ⟨tp, ns, rfl, t1, hns, fun tb f okb hf => ?_⟩
  have htf : tp ≠ f := neO t1 hf
  (try dsimp only)
  rw [wSeq_app]
  unfold w4
  simp only [wPar, wCons, wNil, wMake, wVar, look]
  intro h hh
  obtain ⟨hhf, hh0⟩ := none_upd hh
  refine ⟨h, .ref f, tb, rfl, updO_same, asK_ref (by rw [updO_ne hhf.symm, updO_same]), okb, fun t p ht hp htp => ?_⟩
  obtain ⟨hth, ht'⟩ := none_upd ht
  obtain ⟨htf', ht0⟩ := none_upd ht'
  obtain ⟨hph, hp'⟩ := none_upd hp
  obtain ⟨hpf, hp0⟩ := none_upd hp'
  refine ⟨rfl, ?_⟩
  have e2 : putH (updO (updO (updO O1 f (.dic tb)) h (.ins CS.C_History [])) h (.ins CS.C_History [("kept_tables", .ref t), ("kept_parents", .ref p)])) t p ⟨[tb], [[]]⟩ = putH (updO (updO O1 f (.dic tb)) h (.ins CS.C_History [("kept_tables", .ref t), ("kept_parents", .ref p)])) t p ⟨[tb], [[]]⟩ := by rw [updO_updO]
  (try dsimp only)
  rw [e2]
  have l2 : Le O1 (putH (updO (updO O1 f (.dic tb)) h (.ins CS.C_History [("kept_tables", .ref t), ("kept_parents", .ref p)])) t p ⟨[tb], [[]]⟩) := ((((Le.refl O1).upd hf).upd hh0).upd ht0).upd hp0
  have f2 : (putH (updO (updO O1 f (.dic tb)) h (.ins CS.C_History [("kept_tables", .ref t), ("kept_parents", .ref p)])) t p ⟨[tb], [[]]⟩) f = some (.dic tb) := by
    unfold putH; rw [updO_ne hpf.symm, updO_ne htf'.symm, updO_ne hhf.symm, updO_same]
  have H2 : IsH CS (putH (updO (updO O1 f (.dic tb)) h (.ins CS.C_History [("kept_tables", .ref t), ("kept_parents", .ref p)])) t p ⟨[tb], [[]]⟩) h t p ⟨[tb], [[]]⟩ :=
    ⟨by unfold putH; rw [updO_ne hph.symm, updO_ne hth.symm, updO_same], by unfold putH; rw [updO_ne htp, updO_same], updO_same, htp⟩
  generalize putH (updO (updO O1 f (.dic tb)) h (.ins CS.C_History [("kept_tables", .ref t), ("kept_parents", .ref p)])) t p ⟨[tb], [[]]⟩ = O2 at l2 f2 H2 ⊢
  simp only [wLst, wCons, wNil, wTup, wFrz, wCB, wItems, wVar, look]
  refine ⟨tb, asK_ref f2, fun c hc => ?_⟩
  have eP : asP (itemsD tb) = some tb := by
    have := asP_items (t := tb) (u := []) (ds := []) rfl
    simpa using this
  refine dict2_lst updO_same eP fun d hd => ?_
  (try dsimp only)
  rw [merge_nil okb]
  (try dsimp only)
  rw [frz_rdic updO_same, remO_updO hd]
  intro ln hln
  obtain ⟨hlc, hln0⟩ := none_upd hln
  have l3 : Le O2 (updO (updO O2 c (.lst (itemsD tb))) ln (.lst [.tup [.dic tb, .tup []]])) := ((Le.refl O2).upd hc).upd hln0
  have line3 : (updO (updO O2 c (.lst (itemsD tb))) ln (.lst [.tup [.dic tb, .tup []]])) ln = some (.lst (linesD ⟨[tb], [[]]⟩)) := updO_same
  have f3 := l3 _ _ f2
  have H3 := H2.le l3
  have t3 := l3 _ _ (l2 _ _ t1)
  have hlt : ln ≠ t := (neO H2.ot hln0).symm
  have hlp : ln ≠ p := (neO H2.op hln0).symm
  have hlf : ln ≠ f := (neO f2 hln0).symm
  generalize updO (updO O2 c (.lst (itemsD tb))) ln (.lst [.tup [.dic tb, .tup []]]) = O3 at l3 line3 f3 H3 t3 ⊢
  try simp only [List.set]
  (try dsimp only)
  rw [wSeq_app]
  unfold w5
  have lt := okb.len
  simp only [wAsg, wC, wgSub, wVar, look]
  show setM f (.str "later") (.int 1) O3 _ (O3 f)
  (try dsimp only)
  rw [f3]
  refine ⟨by omega, ?_⟩
  -- the table that was drawn first is not the history's
  have hfh : h ≠ f := hhf
  have T4 : Two CS (updO O3 f (.dic (putG tb (.inr "later") (.int 1)))) tp h t p ln ⟨[tb], [[]]⟩ := by
    refine ⟨by rw [updO_ne htf, t3], ⟨by rw [updO_ne hhf, H3.oh], by rw [updO_ne htf', H3.ot], by rw [updO_ne hpf, H3.op], H3.tp⟩, by rw [updO_ne hlf, line3], hlt, hlp, wf_one okb⟩
  (try dsimp only)
  rw [wSeq_app]
  refine law_turns T4 rfl mok_one hns fun O' S' x6 T' mok' => ?_
  (try dsimp only)
  rw [wSeq_app]
  exact law_last T' mok' q fun s O' => q' O'
end KH

set_option Elab.async false
set_option linter.all false
set_option maxRecDepth 100000
/-! KH: the known history -/
namespace KH
open PySem PySem.Spec PyProof.Rows L2 TD
variable {CS : CSt} {ds : List D} {O : OO} {Q : D → OO → Prop} {h t p : Addr} {S : Hist}
def kr1 (CS : CSt) : WS := (wAsg (wMake CS.C_History (S_History___init__ CS) (wCons (wDisp (wpCons (wC (.str "a")) (wC (.int 0)) wpNil)) wNil)) (wgName 0))
def kr2 (CS : CSt) : WS := (wAsg (wLst (wCons (wFrz (wMeth CS.C_History "commit" (S_History_commit CS) (wVar 0) (wCons (wC (.int 0)) (wCons (wDisp (wpCons (wC (.str "a")) (wC (.int 1)) wpNil)) wNil)))) (wCons (wFrz (wMeth CS.C_History "commit" (S_History_commit CS) (wVar 0) (wCons (wC (.int 0)) (wCons (wDisp (wpCons (wC (.str "a")) (wC (.int 0)) (wpCons (wC (.str "b")) (wC (.int 2)) wpNil))) wNil)))) (wCons (wFrz (wMeth CS.C_History "merge" (S_History_merge CS) (wVar 0) (wCons (wC (.int 1)) (wCons (wC (.int 2)) wNil)))) wNil)))) (wgName 1))
def kr3 (CS : CSt) : WS := (wDrop (wBm "list" mApp (wVar 1) (wCons (wFrz (wMeth CS.C_History "merge" (S_History_merge CS) (wVar 0) (wCons (wC (.int 2)) (wCons (wC (.int 1)) wNil)))) wNil)))
def kr4 (CS : CSt) : WS := (wAsg (wOp wAdd (wVar 1) (wLst (wCons (wFrz (wMeth CS.C_History "table_of" (S_History_table_of CS) (wVar 0) (wCons (wC (.int 3)) wNil))) (wCons (wFrz (wMeth CS.C_History "bases" (S_History_bases CS) (wVar 0) (wCons (wC (.int 3)) (wCons (wC (.int 4)) wNil)))) (wCons (wFrz (wMeth CS.C_History "commit" (S_History_commit CS) (wVar 0) (wCons (wC (.int 3)) (wCons (wDisp (wpCons (wC (.str "a")) (wC (.int 1)) (wpCons (wC (.str "b")) (wC (.int 3)) wpNil))) wNil)))) wNil))))) (wgName 1))
def kr5 (CS : CSt) : WS := (wAsg (wOp wAdd (wVar 1) (wLst (wCons (wFrz (wMeth CS.C_History "commit" (S_History_commit CS) (wVar 0) (wCons (wC (.int 4)) (wCons (wDisp (wpCons (wC (.str "b")) (wC (.int 2)) wpNil)) wNil)))) (wCons (wFrz (wMeth CS.C_History "merge" (S_History_merge CS) (wVar 0) (wCons (wC (.int 5)) (wCons (wC (.int 6)) wNil)))) (wCons (wFrz (wMeth CS.C_History "table_of" (S_History_table_of CS) (wVar 0) (wCons (wC (.int 7)) wNil))) (wCons (wFrz (wMeth CS.C_History "parents" (S_History_parents CS) (wVar 0) (wCons (wC (.int 7)) wNil))) wNil)))))) (wgName 1))
def kr6 (CS : CSt) : WS := (wAsg (wOp wAdd (wVar 1) (wLst (wCons (wFrz (wMeth CS.C_History "elders" (S_History_elders CS) (wVar 0) (wCons (wC (.int 7)) wNil))) (wCons (wFrz (wMeth CS.C_History "since" (S_History_since CS) (wVar 0) (wCons (wC (.int 5)) (wCons (wC (.int 7)) wNil)))) (wCons (wFrz (wMeth CS.C_History "merge" (S_History_merge CS) (wVar 0) (wCons (wC (.int 0)) (wCons (wC (.int 7)) wNil)))) (wCons (wFrz (wMeth CS.C_History "merge" (S_History_merge CS) (wVar 0) (wCons (wC (.int 7)) (wCons (wC (.int 7)) wNil)))) wNil)))))) (wgName 1))
def kr7 (CS : CSt) : WS := (wDrop (wBm "list" mApp (wVar 1) (wCons (wFrz (wMeth CS.C_History "bases" (S_History_bases CS) (wVar 0) (wCons (wC (.int 0)) (wCons (wC (.int 7)) wNil)))) wNil)))
def kr8 (CS : CSt) : WS := (wAsg (wLst (wCons (wC (.int 1)) (wCons (wC (.int 2)) (wCons (wTup (wCons (wC (.int 3)) (wCons (wTup wNil) wNil))) (wCons (wTup (wCons (wC (.int 4)) (wCons (wTup wNil) wNil))) (wCons (wFrz (wDisp (wpCons (wC (.str "a")) (wC (.int 1)) (wpCons (wC (.str "b")) (wC (.int 2)) wpNil)))) (wCons (wTup (wCons (wC (.int 1)) (wCons (wC (.int 2)) wNil))) (wCons (wC (.int 5)) (wCons (wC (.int 6)) (wCons (wTup (wCons (wC (.int 7)) (wCons (wTup (wCons (wC (.str "b")) wNil)) wNil))) (wCons (wFrz (wDisp (wpCons (wC (.str "b")) (wC (.int 3)) wpNil))) (wCons (wTup (wCons (wC (.int 5)) (wCons (wC (.int 6)) wNil))) wNil)))))))))))) (wgName 2))
def kr9 (CS : CSt) : WS := (wAsg (wOp wAdd (wVar 2) (wLst (wCons (wTup (wCons (wC (.int 0)) (wCons (wC (.int 1)) (wCons (wC (.int 2)) (wCons (wC (.int 3)) (wCons (wC (.int 4)) (wCons (wC (.int 5)) (wCons (wC (.int 6)) wNil)))))))) (wCons (wTup (wCons (wC (.int 4)) (wCons (wC (.int 6)) (wCons (wC (.int 7)) wNil)))) (wCons (wTup (wCons (wC (.int 7)) (wCons (wTup wNil) wNil))) (wCons (wTup (wCons (wC (.int 7)) (wCons (wTup wNil) wNil))) (wCons (wTup (wCons (wC (.int 0)) wNil)) wNil))))))) (wgName 2))
def kr10 (CS : CSt) : WS := (wRet (wFrz (wOp wEq (wFrz (wVar 1)) (wFrz (wVar 2)))))
theorem kr_eq (CS : CSt) : W_law_known_right CS = (wSeq (kr1 CS) (wSeq (kr2 CS) (wSeq (kr3 CS) (wSeq (kr4 CS) (wSeq (kr5 CS) (wSeq (kr6 CS) (wSeq (kr7 CS) (wSeq (kr8 CS) (wSeq (kr9 CS) (kr10 CS)))))))))) := rfl

def Keep (t p : Addr) (O O' : OO) : Prop := ∀ b m, b ≠ t → b ≠ p → O b = some m → O' b = some m
theorem Keep.refl (t p : Addr) (O : OO) : Keep t p O O := fun _ _ _ _ h => h
theorem Keep.trans {t p : Addr} {O O' O2 : OO} (h : Keep t p O O') (k : Keep t p O' O2) : Keep t p O O2 := fun b m h1 h2 e => k b m h1 h2 (h b m h1 h2 e)
theorem Keep.of_le {t p : Addr} {O O' : OO} (h : Le O O') : Keep t p O O' := fun b m _ _ e => h b m e
theorem Keep.put {t p : Addr} {O : OO} {S : Hist} : Keep t p O (putH O t p S) := fun b m h1 h2 e => by unfold putH; rw [updO_ne h2, updO_ne h1, e]
theorem Keep.upd0 {t p b : Addr} {O O' : OO} {m : MO} (k : Keep t p O O') (hb : O b = none) : Keep t p O (updO O' b m) := fun c m h1 h2 e => by
  have hc : c ≠ b := fun hbq => by rw [hbq, hb] at e; cases e
  rw [updO_ne hc]; exact k c m h1 h2 e
theorem Keep.no {CS : CSt} {t p b h : Addr} {O O' : OO} {S : Hist} (k : Keep t p O O') (A : IsH CS O' h t p S) (hb : O' b = none) : O b = none := by
  cases e : O b with
  | none => rfl
  | some m => exact absurd (k b m (neO' A.ot hb) (neO' A.op hb) e) (by rw [hb]; simp)
theorem k_commit (H : IsH CS O h t p S) (w : Wf S) {v : Int} (h0 : 0 ≤ v) (h1 : v < S.n) {tb : Tab} (ok : TabOK tb) (q : ∀ O', IsH CS O' h t p (S.add tb [v]) → Keep t p O O' → Q (.int S.n) O') (a : Addr) (ha : O a = none) :
    S_History_commit CS [.ref h, .int v, .ref a] (updO O a (.dic tb)) Q := by
  have H1 : IsH CS (updO O a (.dic tb)) h t p S := H.le ((Le.refl O).upd ha)
  exact ⟨h, t, p, S, v, .ref a, tb, rfl, H1, w, h0, h1, asK_ref updO_same, ok, q _ H1.put ((Keep.of_le ((Le.refl O).upd ha)).trans Keep.put)⟩
theorem k_merge (H : IsH CS O h t p S) (w : Wf S) {u v b : Int} {tb tu tv tm : Tab} {cl : List Str} (u0 : 0 ≤ u) (u1 : u < S.n) (v0 : 0 ≤ v) (v1 : v < S.n) (r1 : S.rc v u = false) (r2 : S.rc u v = false) (eb : (basesL S u v)[0]? = some b)
    (etb : S.tabs[b.toNat]? = some tb) (etu : S.tabs[u.toNat]? = some tu) (etv : S.tabs[v.toNat]? = some tv) (em : mrg tb tu tv = (tm, cl)) (q : ∀ O', IsH CS O' h t p (S.add tm [u, v]) → Keep t p O O' → Q (.tup [.int S.n, .tup (cl.map D.str)]) O') :
    S_History_merge CS [.ref h, .int u, .int v] O Q := by
  refine ⟨h, t, p, S, u, v, rfl, H, w, u0, u1, v0, v1, ?_⟩
  unfold mrgS
  rw [if_neg (by rw [r1]; decide), if_neg (by rw [r2]; decide)]
  intro b' tb' tu' tv' eb' etb' etu' etv'
  rw [eb] at eb'; cases eb'
  rw [etb] at etb'; cases etb'
  rw [etu] at etu'; cases etu'
  rw [etv] at etv'; cases etv'
  rw [em]
  exact q _ H.put Keep.put
theorem k_merge0 (H : IsH CS O h t p S) (w : Wf S) {u v : Int} (u0 : 0 ≤ u) (u1 : u < S.n) (v0 : 0 ≤ v) (v1 : v < S.n) (r1 : S.rc v u = true) (q : ∀ O', IsH CS O' h t p S → Keep t p O O' → Q (.tup [.int v, .tup []]) O') :
    S_History_merge CS [.ref h, .int u, .int v] O Q := by
  refine ⟨h, t, p, S, u, v, rfl, H, w, u0, u1, v0, v1, ?_⟩
  unfold mrgS
  rw [if_pos r1]
  exact q _ H.put Keep.put
/-! ### the states -/
abbrev kA : Key := .inr "a"
abbrev kB : Key := .inr "b"
def T0 : Tab := [(kA, .int 0)]
def T1 : Tab := [(kA, .int 1)]
def T2 : Tab := [(kA, .int 0), (kB, .int 2)]
def T3 : Tab := [(kA, .int 1), (kB, .int 2)]
def T5 : Tab := [(kA, .int 1), (kB, .int 3)]
def T6 : Tab := [(kB, .int 2)]
def T7 : Tab := [(kB, .int 3)]
theorem ok_of {t : Tab} (h : ∀ kv ∈ t, (kv.1 = kA ∨ kv.1 = kB) ∧ (kv.2 = .int 0 ∨ kv.2 = .int 1 ∨ kv.2 = .int 2 ∨ kv.2 = .int 3)) (hn : (t.map (·.1)).Nodup) : TabOK t where
  mem := fun kv hk => by
    obtain ⟨h1, h2⟩ := h kv hk
    refine ⟨?_, ?_⟩
    · rcases h1 with e | e
      · exact ⟨"a", by decide, e⟩
      · exact ⟨"b", by decide, e⟩
    · rcases h2 with e | e | e | e <;> rw [e] <;> simp [vals]
  nd := hn
theorem ok0 : TabOK T0 := ok_of (by simp [T0]) (by decide)
theorem ok1 : TabOK T1 := ok_of (by simp [T1]) (by decide)
theorem ok2 : TabOK T2 := ok_of (by simp [T2]) (by decide)
theorem ok3 : TabOK T3 := ok_of (by simp [T3]) (by decide)
theorem ok5 : TabOK T5 := ok_of (by simp [T5]) (by decide)
theorem ok6 : TabOK T6 := ok_of (by simp [T6]) (by decide)
theorem ok7 : TabOK T7 := ok_of (by simp [T7]) (by decide)
def H0 : Hist := ⟨[T0], [[]]⟩
def H1 : Hist := H0.add T1 [0]
def H2 : Hist := H1.add T2 [0]
def H3 : Hist := H2.add T3 [1, 2]
def H4 : Hist := H3.add T3 [2, 1]
def H5 : Hist := H4.add T5 [3]
def H6 : Hist := H5.add T6 [4]
def H7 : Hist := H6.add T7 [5, 6]
theorem wf0 : Wf H0 where
  len := rfl
  pos := by decide
  few := by decide
  tab := fun u hu => by simp [H0] at hu; subst hu; exact ok0
  par := fun i ps e => by
    cases i with
    | zero => simp [H0] at e; subst e; simp
    | succ i => simp [H0] at e
theorem wf1 : Wf H1 := wf0.add (by decide) ok1 (by decide) (by decide) (by decide)
theorem wf2 : Wf H2 := wf1.add (by decide) ok2 (by decide) (by decide) (by decide)
theorem wf3 : Wf H3 := wf2.add (by decide) ok3 (by decide) (by decide) (by decide)
theorem wf4 : Wf H4 := wf3.add (by decide) ok3 (by decide) (by decide) (by decide)
theorem wf5 : Wf H5 := wf4.add (by decide) ok5 (by decide) (by decide) (by decide)
theorem wf6 : Wf H6 := wf5.add (by decide) ok6 (by decide) (by decide) (by decide)
theorem wf7 : Wf H7 := wf6.add (by decide) ok7 (by decide) (by decide) (by decide)
theorem m3 : mrg T0 T1 T2 = (T3, []) := by rfl
theorem m4 : mrg T0 T2 T1 = (T3, []) := by rfl
theorem m7 : mrg T1 T5 T6 = (T7, [("b" : Str)]) := by rfl
theorem bs3 : (basesL H2 1 2)[0]? = some 0 := by decide
theorem bs4 : (basesL H3 2 1)[0]? = some 0 := by decide
theorem bs7 : (basesL H6 5 6)[0]? = some 1 := by decide
theorem bs34 : basesL H4 3 4 = [1, 2] := by decide
theorem bs07 : basesL H7 0 7 = [0] := by decide
theorem el7 : (setL H7.n fun x => H7.rc 7 x && decide (x ≠ 7)) = [0, 1, 2, 3, 4, 5, 6] := by decide
theorem si57 : (setL H7.n fun x => H7.rc 7 x && !H7.rc 5 x) = [4, 6, 7] := by decide
theorem app_ref {a : Addr} {y : D} {xs : List D} {O : OO} {Q : D → OO → Prop} (e : O a = some (.lst xs)) (hl : xs.length < sizeLine) (q : Q .non (updO O a (.lst (xs ++ [y])))) : mApp (.ref a) [y] O Q := by
  have e1 : mApp (.ref a) [y] O Q = appM a y O Q (O a) := rfl
  rw [e1, e]
  exact ⟨hl, q⟩
theorem add_ref {a b : Addr} {xs ys : List D} {O : OO} {Q : D → OO → Prop} (e : O a = some (.lst xs)) (f : O b = some (.lst ys)) (hl : xs.length + ys.length ≤ 1000) (q : ∀ c, O c = none → Q (.ref c) (updO O c (.lst (xs ++ ys)))) : wAdd (.ref a) (.ref b) O Q := by
  rw [wAdd_ref]
  exact ⟨xs, ys, asL_ref e, asL_ref f, by rw [sizeLine_eq]; omega, q⟩
theorem k_table (H : IsH CS O h t p S) (w : Wf S) {v : Int} (h0 : 0 ≤ v) (h1 : v < S.n) {tb : Tab} (e : S.tabs[v.toNat]? = some tb) {Q : D → OO → Prop} (q : Q (.dic tb) O) : S_History_table_of CS [.ref h, .int v] O fun d O1 => frzD d O1 Q :=
  ⟨h, t, p, S, v, tb, rfl, H, w, h0, h1, e, fun a ha => by
    show frzD (.ref a) (updO O a (.dic tb)) Q
    rw [frz_rdic updO_same, remO_updO ha]; exact q⟩
theorem frz_ref {a : Addr} {O : OO} {Q : D → OO → Prop} : frzD (.ref a) O Q = frzM a O Q (O a) := rfl
theorem law_law_known_right (h : S_law_known_right CS ds O Q) : W_law_known_right CS (retE Q) (sstart N_law_known_right ds) O := by
  obtain ⟨rfl, q⟩ := h
  rw [kr_eq, wSeq_app]
  unfold kr1
  simp only [wAsg, wMake, wCons, wNil, wDisp, wpCons, wpNil, wC]
  intro a ha
  refine ⟨kA, rfl, updO_same, fun h hh => ?_⟩
  rw [updO_updO] at hh ⊢
  obtain ⟨hha, hh0⟩ := none_upd hh
  refine ⟨h, .ref a, T0, rfl, updO_same, asK_ref (by rw [updO_ne hha.symm, updO_same]; rfl), ok0, fun t p ht hp htp => ⟨rfl, ?_⟩⟩
  obtain ⟨hth, ht'⟩ := none_upd ht
  obtain ⟨hta, ht0⟩ := none_upd ht'
  obtain ⟨hph, hp'⟩ := none_upd hp
  obtain ⟨hpa, hp0⟩ := none_upd hp'
  rw [updO_updO]
  have l0 : Le O (putH (updO (updO O a (.dic (mergeG [] [(kA, .int 0)]))) h (.ins CS.C_History [("kept_tables", .ref t), ("kept_parents", .ref p)])) t p ⟨[T0], [[]]⟩) := ((((Le.refl O).upd ha).upd hh0).upd ht0).upd hp0
  have A0 : IsH CS (putH (updO (updO O a (.dic (mergeG [] [(kA, .int 0)]))) h (.ins CS.C_History [("kept_tables", .ref t), ("kept_parents", .ref p)])) t p ⟨[T0], [[]]⟩) h t p H0 :=
    ⟨by unfold putH; rw [updO_ne hph.symm, updO_ne hth.symm, updO_same], by unfold putH; rw [updO_ne htp, updO_same]; rfl, updO_same, htp⟩
  generalize putH (updO (updO O a (.dic (mergeG [] [(kA, .int 0)]))) h (.ins CS.C_History [("kept_tables", .ref t), ("kept_parents", .ref p)])) t p ⟨[T0], [[]]⟩ = O0 at l0 A0 ⊢
  have k0 : Keep t p O O0 := Keep.of_le l0
  clear l0 ht hp ht' hp' hh
  show wSeq (kr2 CS) _ _ [some (.ref h), none, none] O0
  rw [wSeq_app]
  unfold kr2
  simp only [wAsg, wLst, wFrz, wMeth, wCons, wNil, wDisp, wpCons, wpNil, wC, wVar, look, wgName, List.set]
  refine ⟨h, _, rfl, A0.oh, lk3, fun a1 ha1 => ⟨kA, rfl, updO_same, ?_⟩⟩
  rw [updO_updO]
  show S_History_commit CS [.ref h, .int 0, .ref a1] (updO O0 a1 (.dic T1)) _
  refine k_commit A0 wf0 (by decide) (by decide) ok1 (fun O1 A1 K1 => ?_) a1 ha1
  (try dsimp only)
  rw [frz_int]
  refine ⟨h, _, rfl, A1.oh, lk3, fun a2 ha2 => ⟨kA, rfl, kB, rfl, updO_same, ?_⟩⟩
  rw [updO_updO]
  show S_History_commit CS [.ref h, .int 0, .ref a2] (updO O1 a2 (.dic T2)) _
  refine k_commit A1 wf1 (by decide) (by decide) ok2 (fun O2 A2 K2 => ?_) a2 ha2
  (try dsimp only)
  rw [frz_int]
  refine ⟨h, _, rfl, A2.oh, lk10, ?_⟩
  refine k_merge A2 wf2 (by decide) (by decide) (by decide) (by decide) (by decide) (by decide) bs3 (etb := by rfl) (etu := by rfl) (etv := by rfl) m3 fun O3 A3 K3 => ?_
  (try dsimp only)
  rw [frz_tup]
  intro tl htl
  have t1 : t ≠ tl := neO A3.ot htl
  have t2 : p ≠ tl := neO A3.op htl
  have k3 : Keep t p O0 O3 := (K1.trans K2).trans K3
  have A3' := A3.le ((Le.refl O3).upd (m := .lst [.int H0.n, .int H1.n, .tup [.int H2.n, .tup []]]) htl)
  have o3 : (updO O3 tl (.lst [.int H0.n, .int H1.n, .tup [.int H2.n, .tup []]])) tl = some (.lst [.int H0.n, .int H1.n, .tup [.int H2.n, .tup []]]) := updO_same
  show wSeq (kr3 CS) _ _ [some (.ref h), some (.ref tl), none] (updO O3 tl (.lst [.int H0.n, .int H1.n, .tup [.int H2.n, .tup []]]))
  have k3' : Keep t p O0 (updO O3 tl (.lst [.int H0.n, .int H1.n, .tup [.int H2.n, .tup []]])) := k3.trans (Keep.of_le ((Le.refl O3).upd htl))
  generalize updO O3 tl (.lst [.int H0.n, .int H1.n, .tup [.int H2.n, .tup []]]) = P3 at A3' o3 k3' ⊢
  rw [wSeq_app]
  unfold kr3
  simp only [wDrop, wBm, wFrz, wMeth, wCons, wNil, wC, wVar, look]
  refine ⟨tv_ref o3, h, _, rfl, A3'.oh, lk10, ?_⟩
  refine k_merge A3' wf3 (by decide) (by decide) (by decide) (by decide) (by decide) (by decide) bs4 (etb := by rfl) (etu := by rfl) (etv := by rfl) m4 fun O4 A4 K4 => ?_
  have o4 := K4 _ _ t1.symm t2.symm o3
  (try dsimp only)
  rw [frz_tup]
  refine app_ref o4 (by rw [sizeLine_eq]; simp) ?_
  have a4 : ∀ m, IsH CS (updO O4 tl m) h t p H4 := fun m => ⟨by rw [updO_ne (fun e => by subst e; have := A4.oh.symm.trans o4; cases this), A4.oh], by rw [updO_ne t1, A4.ot]; try rfl, by rw [updO_ne t2, A4.op]; try rfl, A4.tp⟩
  have A4' := a4 (.lst ([.int H0.n, .int H1.n, .tup [.int H2.n, .tup []]] ++ [.tup [.int H3.n, .tup []]]))
  have o4' : (updO O4 tl (.lst ([.int H0.n, .int H1.n, .tup [.int H2.n, .tup []]] ++ [.tup [.int H3.n, .tup []]]))) tl = some (.lst ([.int H0.n, .int H1.n, .tup [.int H2.n, .tup []]] ++ [.tup [.int H3.n, .tup []]])) := updO_same
  show wSeq (kr4 CS) _ _ [some (.ref h), some (.ref tl), none] (updO O4 tl (.lst ([.int H0.n, .int H1.n, .tup [.int H2.n, .tup []]] ++ [.tup [.int H3.n, .tup []]])))
  have htl0 : O tl = none := (k0.trans k3).no A3 htl
  have k4' : Keep t p O (updO O4 tl (.lst ([.int H0.n, .int H1.n, .tup [.int H2.n, .tup []]] ++ [.tup [.int H3.n, .tup []]]))) := ((k0.trans k3').trans K4).upd0 htl0
  generalize updO O4 tl (.lst ([.int H0.n, .int H1.n, .tup [.int H2.n, .tup []]] ++ [.tup [.int H3.n, .tup []]])) = P4 at A4' o4' k4' ⊢
  rw [wSeq_app]
  unfold kr4
  simp only [wAsg, wOp, wLst, wFrz, wMeth, wCons, wNil, wDisp, wpCons, wpNil, wC, wVar, look, wgName, List.set]
  refine ⟨h, _, rfl, A4'.oh, lk4, ?_⟩
  refine k_table A4' wf4 (by decide) (by decide) (tb := T3) (by rfl) ?_
  refine ⟨h, _, rfl, A4'.oh, lk9, h, t, p, H4, 3, 4, rfl, A4', wf4, by decide, by decide, by decide, by decide, ?_⟩
  (try dsimp only)
  rw [frz_tupI]
  refine ⟨h, _, rfl, A4'.oh, lk3, fun a5 ha5 => ⟨kA, rfl, kB, rfl, updO_same, ?_⟩⟩
  rw [updO_updO]
  show S_History_commit CS [.ref h, .int 3, .ref a5] (updO P4 a5 (.dic T5)) _
  refine k_commit A4' wf4 (by decide) (by decide) ok5 (fun O5 A5 K5 => ?_) a5 ha5
  have o5 := K5 _ _ t1.symm t2.symm o4'
  (try dsimp only)
  rw [frz_int]
  intro b5 hb5
  refine add_ref (by rw [updO_ne (neO o5 hb5), o5]) updO_same (by simp) fun tm htm => ?_
  obtain ⟨_, htm'⟩ := none_upd htm
  have A5' : IsH CS (updO (updO O5 b5 (.lst [.dic T3, tupI (basesL H4 3 4), .int H4.n])) tm (.lst ([.int H0.n, .int H1.n, .tup [.int H2.n, .tup []]] ++ [.tup [.int H3.n, .tup []]] ++ [.dic T3, tupI (basesL H4 3 4), .int H4.n]))) h t p H5 := A5.le (((Le.refl O5).upd hb5).upd htm')
  have o5' : (updO (updO O5 b5 (.lst [.dic T3, tupI (basesL H4 3 4), .int H4.n])) tm (.lst ([.int H0.n, .int H1.n, .tup [.int H2.n, .tup []]] ++ [.tup [.int H3.n, .tup []]] ++ [.dic T3, tupI (basesL H4 3 4), .int H4.n]))) tm = some (.lst ([.int H0.n, .int H1.n, .tup [.int H2.n, .tup []]] ++ [.tup [.int H3.n, .tup []]] ++ [.dic T3, tupI (basesL H4 3 4), .int H4.n])) := updO_same
  have k5' : Keep t p O (updO (updO O5 b5 (.lst [.dic T3, tupI (basesL H4 3 4), .int H4.n])) tm (.lst ([.int H0.n, .int H1.n, .tup [.int H2.n, .tup []]] ++ [.tup [.int H3.n, .tup []]] ++ [.dic T3, tupI (basesL H4 3 4), .int H4.n]))) := (k4'.trans K5).trans (Keep.of_le (((Le.refl O5).upd hb5).upd htm'))
  generalize updO (updO O5 b5 (.lst [.dic T3, tupI (basesL H4 3 4), .int H4.n])) tm (.lst ([.int H0.n, .int H1.n, .tup [.int H2.n, .tup []]] ++ [.tup [.int H3.n, .tup []]] ++ [.dic T3, tupI (basesL H4 3 4), .int H4.n])) = P5 at A5' o5' k5' ⊢
  have s1 : t ≠ tm := neO A5.ot htm'
  have s2 : p ≠ tm := neO A5.op htm'
  generalize hL5 : ([.int H0.n, .int H1.n, .tup [.int H2.n, .tup []]] ++ [.tup [.int H3.n, .tup []]] ++ [.dic T3, tupI (basesL H4 3 4), .int H4.n] : List D) = L5 at o5'
  rw [wSeq_app]
  unfold kr5
  simp only [wAsg, wOp, wLst, wFrz, wMeth, wCons, wNil, wDisp, wpCons, wpNil, wC, wVar, look, wgName, List.set]
  refine ⟨h, _, rfl, A5'.oh, lk3, fun a6 ha6 => ⟨kB, rfl, updO_same, ?_⟩⟩
  rw [updO_updO]
  show S_History_commit CS [.ref h, .int 4, .ref a6] (updO P5 a6 (.dic T6)) _
  refine k_commit A5' wf5 (by decide) (by decide) ok6 (fun O6 A6 K6 => ?_) a6 ha6
  have o6 := K6 _ _ s1.symm s2.symm o5'
  (try dsimp only)
  rw [frz_int]
  refine ⟨h, _, rfl, A6.oh, lk10, ?_⟩
  refine k_merge A6 wf6 (by decide) (by decide) (by decide) (by decide) (by decide) (by decide) bs7 (etb := by rfl) (etu := by rfl) (etv := by rfl) m7 fun O7 A7 K7 => ?_
  have o7 := K7 _ _ s1.symm s2.symm o6
  (try dsimp only)
  rw [frz_tup]
  refine ⟨h, _, rfl, A7.oh, lk4, ?_⟩
  refine k_table A7 wf7 (by decide) (by decide) (tb := T7) (by rfl) ?_
  refine ⟨h, _, rfl, A7.oh, lk5, h, t, p, H7, 7, [5, 6], rfl, A7, wf7, by decide, by decide, by rfl, ?_⟩
  (try dsimp only)
  rw [frz_tupI]
  intro b7 hb7
  refine add_ref (by rw [updO_ne (neO o7 hb7), o7]) updO_same (by rw [← hL5]; simp) fun tn htn => ?_
  obtain ⟨_, htn'⟩ := none_upd htn
  have A7' := A7.le (((Le.refl O7).upd (m := .lst [.int H5.n, .tup [.int H6.n, .tup ([("b" : Str)].map D.str)], .dic T7, tupI [5, 6]]) hb7).upd (m := .lst (L5 ++ [.int H5.n, .tup [.int H6.n, .tup ([("b" : Str)].map D.str)], .dic T7, tupI [5, 6]])) htn')
  have o7' : (updO (updO O7 b7 (.lst [.int H5.n, .tup [.int H6.n, .tup ([("b" : Str)].map D.str)], .dic T7, tupI [5, 6]])) tn (.lst (L5 ++ [.int H5.n, .tup [.int H6.n, .tup ([("b" : Str)].map D.str)], .dic T7, tupI [5, 6]]))) tn = some (.lst (L5 ++ [.int H5.n, .tup [.int H6.n, .tup ([("b" : Str)].map D.str)], .dic T7, tupI [5, 6]])) := updO_same
  show wSeq (kr6 CS) _ _ [some (.ref h), some (.ref tn), none] (updO (updO O7 b7 (.lst [.int H5.n, .tup [.int H6.n, .tup ([("b" : Str)].map D.str)], .dic T7, tupI [5, 6]])) tn (.lst (L5 ++ [.int H5.n, .tup [.int H6.n, .tup ([("b" : Str)].map D.str)], .dic T7, tupI [5, 6]])))
  have k7' : Keep t p O (updO (updO O7 b7 (.lst [.int H5.n, .tup [.int H6.n, .tup ([("b" : Str)].map D.str)], .dic T7, tupI [5, 6]])) tn (.lst (L5 ++ [.int H5.n, .tup [.int H6.n, .tup ([("b" : Str)].map D.str)], .dic T7, tupI [5, 6]]))) := ((k5'.trans K6).trans K7).trans (Keep.of_le (((Le.refl O7).upd hb7).upd htn'))
  generalize updO (updO O7 b7 (.lst [.int H5.n, .tup [.int H6.n, .tup ([("b" : Str)].map D.str)], .dic T7, tupI [5, 6]])) tn (.lst (L5 ++ [.int H5.n, .tup [.int H6.n, .tup ([("b" : Str)].map D.str)], .dic T7, tupI [5, 6]])) = P7 at A7' o7' k7' ⊢
  replace A7' : IsH CS P7 h t p H7 := A7'
  have r1 : t ≠ tn := neO A7.ot htn'
  have r2 : p ≠ tn := neO A7.op htn'
  generalize hL7 : (L5 ++ [.int H5.n, .tup [.int H6.n, .tup ([("b" : Str)].map D.str)], .dic T7, tupI [5, 6]] : List D) = L7 at o7'
  rw [wSeq_app]
  unfold kr6
  simp only [wAsg, wOp, wLst, wFrz, wMeth, wCons, wNil, wDisp, wpCons, wpNil, wC, wVar, look, wgName, List.set]
  refine ⟨h, _, rfl, A7'.oh, lk7, h, t, p, H7, 7, rfl, A7', wf7, by decide, by decide, ?_⟩
  rw [el7]
  (try dsimp only)
  rw [frz_tupI]
  refine ⟨h, _, rfl, A7'.oh, lk11, h, t, p, H7, 5, 7, rfl, A7', wf7, by decide, by decide, by decide, by decide, ?_⟩
  rw [si57]
  (try dsimp only)
  rw [frz_tupI]
  refine ⟨h, _, rfl, A7'.oh, lk10, ?_⟩
  refine k_merge0 A7' wf7 (by decide) (by decide) (by decide) (by decide) (by decide) fun O8 A8 K8 => ?_
  have o8 := K8 _ _ r1.symm r2.symm o7'
  (try dsimp only)
  rw [frz_tup]
  refine ⟨h, _, rfl, A8.oh, lk10, ?_⟩
  refine k_merge0 A8 wf7 (by decide) (by decide) (by decide) (by decide) (by decide) fun O9 A9 K9 => ?_
  have o9 := K9 _ _ r1.symm r2.symm o8
  (try dsimp only)
  rw [frz_tup]
  intro b9 hb9
  refine add_ref (by rw [updO_ne (neO o9 hb9), o9]) updO_same (by rw [← hL7, ← hL5]; simp) fun tq htq => ?_
  obtain ⟨_, htq'⟩ := none_upd htq
  have A9' := A9.le (((Le.refl O9).upd (m := .lst [tupI [0, 1, 2, 3, 4, 5, 6], tupI [4, 6, 7], .tup [.int 7, .tup []], .tup [.int 7, .tup []]]) hb9).upd (m := .lst (L7 ++ [tupI [0, 1, 2, 3, 4, 5, 6], tupI [4, 6, 7], .tup [.int 7, .tup []], .tup [.int 7, .tup []]])) htq')
  have k9 : Keep t p O O9 := (k7'.trans K8).trans K9
  have k9' : Keep t p O (updO (updO O9 b9 (.lst [tupI [0, 1, 2, 3, 4, 5, 6], tupI [4, 6, 7], .tup [.int 7, .tup []], .tup [.int 7, .tup []]])) tq (.lst (L7 ++ [tupI [0, 1, 2, 3, 4, 5, 6], tupI [4, 6, 7], .tup [.int 7, .tup []], .tup [.int 7, .tup []]]))) := k9.trans (Keep.of_le (((Le.refl O9).upd hb9).upd htq'))
  have hq0 : O tq = none := k9.no A9 htq'
  have o9' : (updO (updO O9 b9 (.lst [tupI [0, 1, 2, 3, 4, 5, 6], tupI [4, 6, 7], .tup [.int 7, .tup []], .tup [.int 7, .tup []]])) tq (.lst (L7 ++ [tupI [0, 1, 2, 3, 4, 5, 6], tupI [4, 6, 7], .tup [.int 7, .tup []], .tup [.int 7, .tup []]]))) tq = some (.lst (L7 ++ [tupI [0, 1, 2, 3, 4, 5, 6], tupI [4, 6, 7], .tup [.int 7, .tup []], .tup [.int 7, .tup []]])) := updO_same
  show wSeq (kr7 CS) _ _ [some (.ref h), some (.ref tq), none] (updO (updO O9 b9 (.lst [tupI [0, 1, 2, 3, 4, 5, 6], tupI [4, 6, 7], .tup [.int 7, .tup []], .tup [.int 7, .tup []]])) tq (.lst (L7 ++ [tupI [0, 1, 2, 3, 4, 5, 6], tupI [4, 6, 7], .tup [.int 7, .tup []], .tup [.int 7, .tup []]])))
  generalize updO (updO O9 b9 (.lst [tupI [0, 1, 2, 3, 4, 5, 6], tupI [4, 6, 7], .tup [.int 7, .tup []], .tup [.int 7, .tup []]])) tq (.lst (L7 ++ [tupI [0, 1, 2, 3, 4, 5, 6], tupI [4, 6, 7], .tup [.int 7, .tup []], .tup [.int 7, .tup []]])) = P9 at A9' k9' o9' ⊢
  replace A9' : IsH CS P9 h t p H7 := A9'
  rw [wSeq_app]
  unfold kr7
  simp only [wDrop, wBm, wFrz, wMeth, wCons, wNil, wC, wVar, look]
  refine ⟨tv_ref o9', ?_⟩
  refine ⟨h, _, rfl, A9'.oh, lk9, h, t, p, H7, 0, 7, rfl, A9', wf7, by decide, by decide, by decide, by decide, ?_⟩
  rw [bs07]
  (try dsimp only)
  rw [frz_tupI]
  refine app_ref o9' (by rw [← hL7, ← hL5, sizeLine_eq]; simp) ?_
  show wSeq (kr8 CS) _ _ [some (.ref h), some (.ref tq), none] (updO P9 tq _)
  have k10 : Keep t p O (updO P9 tq (.lst (L7 ++ [tupI [0, 1, 2, 3, 4, 5, 6], tupI [4, 6, 7], .tup [.int 7, .tup []], .tup [.int 7, .tup []]] ++ [tupI [0]]))) := fun b m h1 h2 e => by
    have hb : b ≠ tq := fun hbq => by rw [hbq, hq0] at e; cases e
    rw [updO_ne hb]; exact k9' b m h1 h2 e
  have o10 : (updO P9 tq (.lst (L7 ++ [tupI [0, 1, 2, 3, 4, 5, 6], tupI [4, 6, 7], .tup [.int 7, .tup []], .tup [.int 7, .tup []]] ++ [tupI [0]]))) tq = some (.lst (L7 ++ [tupI [0, 1, 2, 3, 4, 5, 6], tupI [4, 6, 7], .tup [.int 7, .tup []], .tup [.int 7, .tup []]] ++ [tupI [0]])) := updO_same
  generalize updO P9 tq (.lst (L7 ++ [tupI [0, 1, 2, 3, 4, 5, 6], tupI [4, 6, 7], .tup [.int 7, .tup []], .tup [.int 7, .tup []]] ++ [tupI [0]])) = P at k10 o10 ⊢
  rw [wSeq_app]
  unfold kr8
  simp only [wAsg, wOp, wLst, wFrz, wMeth, wCons, wNil, wTup, wDisp, wpCons, wpNil, wC, wVar, look, wgName, List.set]
  intro c hc
  refine ⟨kA, rfl, kB, rfl, updO_same, ?_⟩
  rw [updO_updO, frz_rdic updO_same, remO_updO hc]
  intro c2 hc2
  refine ⟨kB, rfl, updO_same, ?_⟩
  rw [updO_updO, frz_rdic updO_same, remO_updO hc2]
  intro d hd
  show wSeq (kr9 CS) _ _ [some (.ref h), some (.ref tq), some (.ref d)] (updO P d (.lst [.int 1, .int 2, .tup [.int 3, .tup []], .tup [.int 4, .tup []], .dic T3, tupI [1, 2], .int 5, .int 6, .tup [.int 7, .tup [.str "b"]], .dic T7, tupI [5, 6]]))
  rw [wSeq_app]
  unfold kr9
  simp only [wAsg, wOp, wLst, wFrz, wMeth, wCons, wNil, wTup, wDisp, wpCons, wpNil, wC, wVar, look, wgName, List.set]
  intro d2 hd2
  obtain ⟨hd2d, hd2'⟩ := none_upd hd2
  refine add_ref (by rw [updO_ne hd2d.symm, updO_same]) updO_same (by simp) fun d3 hd3 => ?_
  obtain ⟨hd3d, hd3'⟩ := none_upd hd3
  obtain ⟨hd3e, hd3''⟩ := none_upd hd3'
  have l3 := (((Le.refl P).upd (m := .lst [.int 1, .int 2, .tup [.int 3, .tup []], .tup [.int 4, .tup []], .dic T3, tupI [1, 2], .int 5, .int 6, .tup [.int 7, .tup [.str "b"]], .dic T7, tupI [5, 6]]) hd).upd (m := .lst [tupI [0, 1, 2, 3, 4, 5, 6], tupI [4, 6, 7], .tup [.int 7, .tup []], .tup [.int 7, .tup []], tupI [0]]) hd2')
  unfold kr10
  simp only [wRet, wOp, wFrz, wVar, look]
  have tqd : tq ≠ d := neO o10 hd
  have tqd2 : tq ≠ d2 := neO o10 hd2'
  have tqd3 : tq ≠ d3 := neO o10 hd3''
  rw [frz_rlst (by rw [updO_ne tqd3, updO_ne tqd2, updO_ne tqd, o10])]
  rw [frz_rlst (by rw [remO_ne tqd3.symm, updO_same])]
  refine ⟨?_, ?_, ?_⟩
  · rw [← hL7, ← hL5, bs34]; rfl
  · rw [← hL7, ← hL5, bs34]; decide
  · have ev : eqvD (.lst (L7 ++ [tupI [0, 1, 2, 3, 4, 5, 6], tupI [4, 6, 7], .tup [.int 7, .tup []], .tup [.int 7, .tup []]] ++ [tupI [0]])) (.lst ([.int 1, .int 2, .tup [.int 3, .tup []], .tup [.int 4, .tup []], .dic T3, tupI [1, 2], .int 5, .int 6, .tup [.int 7, .tup [.str "b"]], .dic T7, tupI [5, 6]] ++ [.tup [.int 0, .int 1, .int 2, .int 3, .int 4, .int 5, .int 6], .tup [.int 4, .int 6, .int 7], .tup [.int 7, .tup []], .tup [.int 7, .tup []], .tup [.int 0]])) = true := by
      rw [← hL7, ← hL5, bs34]; rfl
    rw [ev]
    show frzD (.bl true) _ _
    rw [frz_bl]
    refine ⟨O, fun b m e => ?_, q⟩
    have b1 : b ≠ tq := fun h => by rw [h, hq0] at e; cases e
    have e1 := k10 b m (neO e ht0) (neO e hp0) e
    rw [remO_ne (neO e1 hd3''), remO_ne b1, updO_ne (neO e1 hd3''), updO_ne (neO e1 hd2'), updO_ne (neO e1 hd)]
    exact e1
end KH

set_option Elab.async false
set_option linter.all false
set_option maxRecDepth 100000

/-! KH: the derivations -/
namespace KH
open PySem PySem.Spec PyProof.Rows L2 TD
section
variable {P : Program} {w : World} {K : PySem.W.Frag} {mg : Str → Option Value} {base : Heap}
theorem der_is_integer (T : TX K mg) (cdv : Value) (A : Around) (outer : List Env) (s : Shared) (H : Hp) (E : XK) (hr : RoomG 0 (A.deeper (envOfC "is_integer" (defScope s_is_integer) s.heap.objs.size T.a_is_integer cdv))) :
    DSs (cxOf CX0 P w K mg base N_is_integer "is_integer" (defScope s_is_integer) T.a_is_integer cdv A outer s H E).nox (defBody s_is_integer) (W_is_integer T.cs) :=
  have nd := sc_is_integer.nd
  (dss_one (ds_ret (de_frz (de_and (de_cb c_isi (by rfl) T.z_isinstance rfl (da_cons (dv 0) (da_cons (de_gty (by rfl) T.z_int rfl) da_nil))) (de_one (de_not (de_cb c_isi (by rfl) T.z_isinstance rfl (da_cons (dv 0) (da_cons (de_gty (by rfl) T.z_bool rfl) da_nil)))))))))
theorem der_is_within (T : TX K mg) (G_is_integer : DFn P w K mg base 1 T.a_is_integer T.d_is_integer ["thing"] (S_is_integer T.cs)) (cdv : Value) (A : Around) (outer : List Env) (s : Shared) (H : Hp) (E : XK) (hr : RoomG 1 (A.deeper (envOfC "is_within" (defScope s_is_within) s.heap.objs.size T.a_is_within cdv))) :
    DSs (cxOf CX0 P w K mg base N_is_within "is_within" (defScope s_is_within) T.a_is_within cdv A outer s H E).nox (defBody s_is_within) (W_is_within T.cs) :=
  have nd := sc_is_within.nd
  (dss_one (ds_ret (de_frz (de_and (de_call (G_is_integer.mono (by decide)) hr (by rfl) T.m_is_integer T.F_is_integer.kp T.b_is_integer (da_cons (dv 0) da_nil)) (de_one (de_chain o_le o_le (dv 1) (dv 0) (dv 2)))))))
theorem der_is_name (T : TX K mg) (cdv : Value) (A : Around) (outer : List Env) (s : Shared) (H : Hp) (E : XK) (hr : RoomG 0 (A.deeper (envOfC "is_name" (defScope s_is_name) s.heap.objs.size T.a_is_name cdv))) :
    DSs (cxOf CX0 P w K mg base N_is_name "is_name" (defScope s_is_name) T.a_is_name cdv A outer s H E).nox (defBody s_is_name) (W_is_name T.cs) :=
  have nd := sc_is_name.nd
  (dss_one (ds_ret (de_frz (de_and (de_cb c_isi (by rfl) T.z_isinstance rfl (da_cons (dv 0) (da_cons (de_gty (by rfl) T.z_str rfl) da_nil))) (de_and (de_chain o_le o_le de_int (de_cb c_len (by rfl) T.z_len rfl (da_cons (dv 0) da_nil)) de_int) (de_one (de_cb (c_all rfl) (by rfl) T.z_all rfl (da_cons (de_lc (own := [("sign", 1)]) rfl nd (di_str (dv 0)) (blkOk_by (own := [("sign", 1)]) (N := N_is_name) (sc := defScope s_is_name) (by decide +kernel)) (fun _ _ _ _ _ => (dgw_name 1 nd (by decide))) (fun _ _ _ _ _ => dts_nil) (fun _ _ _ _ _ => (de_frz (de_chain o_le o_le de_str (dv 1) de_str)))) da_nil))))))))
theorem der_is_word (T : TX K mg) (cdv : Value) (A : Around) (outer : List Env) (s : Shared) (H : Hp) (E : XK) (hr : RoomG 0 (A.deeper (envOfC "is_word" (defScope s_is_word) s.heap.objs.size T.a_is_word cdv))) :
    DSs (cxOf CX0 P w K mg base N_is_word "is_word" (defScope s_is_word) T.a_is_word cdv A outer s H E).nox (defBody s_is_word) (W_is_word T.cs) :=
  have nd := sc_is_word.nd
  (dss_one (ds_ret (de_frz (de_and (de_cb c_isi (by rfl) T.z_isinstance rfl (da_cons (dv 0) (da_cons (de_gty (by rfl) T.z_str rfl) da_nil))) (de_and (de_cmp o_le (de_cb c_len (by rfl) T.z_len rfl (da_cons (dv 0) da_nil)) (de_gint (by rfl) T.k_MOST_SIGNS) (nomark _)) (de_one (de_cb (c_all rfl) (by rfl) T.z_all rfl (da_cons (de_lc (own := [("sign", 1)]) rfl nd (di_str (dv 0)) (blkOk_by (own := [("sign", 1)]) (N := N_is_word) (sc := defScope s_is_word) (by decide +kernel)) (fun _ _ _ _ _ => (dgw_name 1 nd (by decide))) (fun _ _ _ _ _ => dts_nil) (fun _ _ _ _ _ => (de_frz (de_chain o_le o_le de_str (dv 1) de_str)))) da_nil))))))))
theorem der_is_value (T : TX K mg) (G_is_within : DFn P w K mg base 2 T.a_is_within T.d_is_within ["thing", "least", "most"] (S_is_within T.cs)) (G_is_word : DFn P w K mg base 1 T.a_is_word T.d_is_word ["thing"] (S_is_word T.cs)) (cdv : Value) (A : Around) (outer : List Env) (s : Shared) (H : Hp) (E : XK) (hr : RoomG 2 (A.deeper (envOfC "is_value" (defScope s_is_value) s.heap.objs.size T.a_is_value cdv))) :
    DSs (cxOf CX0 P w K mg base N_is_value "is_value" (defScope s_is_value) T.a_is_value cdv A outer s H E).nox (defBody s_is_value) (W_is_value T.cs) :=
  have nd := sc_is_value.nd
  (dss_one (ds_ret (de_frz (de_or (de_call (G_is_word.mono (by decide)) hr (by rfl) T.m_is_word T.F_is_word.kp T.b_is_word (da_cons (dv 0) da_nil)) (de_one (de_call (G_is_within.mono (by decide)) hr (by rfl) T.m_is_within T.F_is_within.kp T.b_is_within (da_cons (dv 0) (da_cons (de_un o_neg (de_gint (by rfl) T.k_MOST_VALUE)) (da_cons (de_gint (by rfl) T.k_MOST_VALUE) da_nil)))))))))
theorem der_is_flat_table (T : TX K mg) (G_is_name : DFn P w K mg base 1 T.a_is_name T.d_is_name ["thing"] (S_is_name T.cs)) (G_is_value : DFn P w K mg base 3 T.a_is_value T.d_is_value ["thing"] (S_is_value T.cs)) (cdv : Value) (A : Around) (outer : List Env) (s : Shared) (H : Hp) (E : XK) (hr : RoomG 3 (A.deeper (envOfC "is_flat_table" (defScope s_is_flat_table) s.heap.objs.size T.a_is_flat_table cdv))) :
    DSs (cxOf CX0 P w K mg base N_is_flat_table "is_flat_table" (defScope s_is_flat_table) T.a_is_flat_table cdv A outer s H E).nox (defBody s_is_flat_table) (W_is_flat_table T.cs) :=
  have nd := sc_is_flat_table.nd
  (dss_cons (ds_if (DW.dt (dw_or (dt_not (dt_val (de_cb c_isi (by rfl) T.z_isinstance rfl (da_cons (dv 0) (da_cons (de_gty (by rfl) T.z_dict rfl) da_nil))))) (dw_or1 (dt_cmp o_gt (de_cb c_len (by rfl) T.z_len rfl (da_cons (dv 0) da_nil)) (de_gint (by rfl) T.k_MOST_NAMES) (nomark _))))) (dss_one (ds_ret de_bl)) dss_nil) (dss_one (ds_ret (de_frz (de_cb (c_all rfl) (by rfl) T.z_all rfl (da_cons (de_lock 0 (de_lc (own := [("name", 1), ("value", 2)]) rfl nd (di_items (dv 0)) (blkOk_by (own := [("name", 1), ("value", 2)]) (N := N_is_flat_table) (sc := defScope s_is_flat_table) (by decide +kernel)) (fun _ _ _ _ _ => (dgw_tup rfl (dgws_cons (dgw_name 1 nd (by decide)) (dgws_cons (dgw_name 2 nd (by decide)) dgws_nil)))) (fun _ _ _ _ _ => dts_nil) (fun _ _ _ _ _ => (de_frz (de_and (de_call (G_is_name.mono (by decide)) hr (by rfl) T.m_is_name T.F_is_name.kp T.b_is_name (da_cons (dv 1) da_nil)) (de_one (de_call (G_is_value.mono (by decide)) hr (by rfl) T.m_is_value T.F_is_value.kp T.b_is_value (da_cons (dv 2) da_nil)))))))) da_nil))))))
theorem der_check_flat (T : TX K mg) (G_is_flat_table : DFn P w K mg base 4 T.a_is_flat_table T.d_is_flat_table ["thing"] (S_is_flat_table T.cs)) (cdv : Value) (A : Around) (outer : List Env) (s : Shared) (H : Hp) (E : XK) (hr : RoomG 4 (A.deeper (envOfC "check_flat" (defScope s_check_flat) s.heap.objs.size T.a_check_flat cdv))) :
    DSs (cxOf CX0 P w K mg base N_check_flat "check_flat" (defScope s_check_flat) T.a_check_flat cdv A outer s H E).nox (defBody s_check_flat) (W_check_flat T.cs) :=
  have nd := sc_check_flat.nd
  (dss_one (ds_if (dt_not (dt_val (de_call (G_is_flat_table.mono (by decide)) hr (by rfl) T.m_is_flat_table T.F_is_flat_table.kp T.b_is_flat_table (da_cons (dv 0) da_nil)))) (dss_one ds_never) dss_nil))
theorem der_all_names (T : TX K mg) (cdv : Value) (A : Around) (outer : List Env) (s : Shared) (H : Hp) (E : XK) (hr : RoomG 0 (A.deeper (envOfC "all_names" (defScope s_all_names) s.heap.objs.size T.a_all_names cdv))) :
    DSs (cxOf CX0 P w K mg base N_all_names "all_names" (defScope s_all_names) T.a_all_names cdv A outer s H E).nox (defBody s_all_names) (W_all_names T.cs) :=
  have nd := sc_all_names.nd
  (dss_cons (ds_set 1 nd de_newK) (dss_cons (ds_for PassesOwn.never rfl (di_list (dv 0)) (dg_name 2 nd) (dss_one (ds_expr (de_bm PySem.F.plainAttrs_dict PySem.F.slot_dict_update PySem.F.type_dict_update m_upd (dv 1) (da_cons (de_frz (dv 2)) da_nil))))) (dss_one (ds_ret (de_frz (de_cb (c_sorted rfl) (by rfl) T.z_sorted rfl (da_cons (dv 1) da_nil)))))))
theorem der_merged_value (T : TX K mg) (cdv : Value) (A : Around) (outer : List Env) (s : Shared) (H : Hp) (E : XK) (hr : RoomG 0 (A.deeper (envOfC "merged_value" (defScope s_merged_value) s.heap.objs.size T.a_merged_value cdv))) :
    DSs (cxOf CX0 P w K mg base N_merged_value "merged_value" (defScope s_merged_value) T.a_merged_value cdv A outer s H E).nox (defBody s_merged_value) (W_merged_value T.cs) :=
  have nd := sc_merged_value.nd
  (dss_cons (ds_if (DW.dt (dw_or (dt_cmp (o_eq hr.u64) (de_frz (dv 1)) (de_frz (dv 2)) (nomark _)) (dw_or1 (dt_cmp (o_eq hr.u64) (de_frz (dv 2)) (de_frz (dv 0)) (nomark _))))) (dss_one (ds_ret (de_tup (da_cons (de_frz (dv 1)) (da_cons de_bl da_nil))))) dss_nil) (dss_one (ds_ret (de_frz (de_if (dt_cmp (o_eq hr.u64) (de_frz (dv 1)) (de_frz (dv 0)) (nomark _)) (de_tup (da_cons (de_frz (dv 2)) (da_cons de_bl da_nil))) (de_tup (da_cons (de_frz (dv 1)) (da_cons de_bl da_nil))))))))
theorem der_raw_merged (T : TX K mg) (G_all_names : DFn P w K mg base 1 T.a_all_names T.d_all_names ["tables"] (S_all_names T.cs)) (G_merged_value : DFn P w K mg base 1 T.a_merged_value T.d_merged_value ["old", "first", "second"] (S_merged_value T.cs)) (cdv : Value) (A : Around) (outer : List Env) (s : Shared) (H : Hp) (E : XK) (hr : RoomG 1 (A.deeper (envOfC "raw_merged" (defScope s_raw_merged) s.heap.objs.size T.a_raw_merged cdv))) :
    DSs (cxOf CX0 P w K mg base N_raw_merged "raw_merged" (defScope s_raw_merged) T.a_raw_merged cdv A outer s H E).nox (defBody s_raw_merged) (W_raw_merged T.cs) :=
  have nd := sc_raw_merged.nd
  (dss_cons (ds_par 3 4 rfl nd (da_cons de_newK (da_cons (de_lst da_nil) da_nil))) (dss_cons (ds_for PassesOwn.never rfl (di_list (de_call (G_all_names.mono (by decide)) hr (by rfl) T.m_all_names T.F_all_names.kp T.b_all_names (da_cons (de_lst (da_cons (de_frz (dv 0)) (da_cons (de_frz (dv 1)) (da_cons (de_frz (dv 2)) da_nil)))) da_nil))) (dg_name 5 nd) (dss_cons (ds_set 6 nd (de_call (G_merged_value.mono (by decide)) hr (by rfl) T.m_merged_value T.F_merged_value.kp T.b_merged_value (da_cons (de_get2 hr.u1 (dv 0) (dv 5) de_non) (da_cons (de_get2 hr.u1 (dv 1) (dv 5) de_non) (da_cons (de_get2 hr.u1 (dv 2) (dv 5) de_non) da_nil))))) (dss_cons (ds_if (dt_cmp o_notN (de_ix hr.u1 (dv 6) de_int) de_non (nomark _)) (dss_one (ds_asg (de_frz (de_ix hr.u1 (dv 6) de_int)) (dg_sub hr.u1 (dv 3) (dv 5)))) dss_nil) (dss_one (ds_if (dt_val (de_ix hr.u1 (dv 6) de_int)) (dss_one (ds_expr (de_bm PySem.F.plainAttrs_list PySem.F.slot_list_append PySem.F.type_list_append m_app (dv 4) (da_cons (de_frz (dv 5)) da_nil)))) dss_nil))))) (dss_one (ds_ret (de_tup (da_cons (de_frz (dv 3)) (da_cons (de_frz (de_ct c_tuple (by rfl) T.z_tuple rfl (da_cons (dv 4) da_nil))) da_nil)))))))
theorem der_merged (T : TX K mg) (G_check_flat : DFn P w K mg base 5 T.a_check_flat T.d_check_flat ["table"] (S_check_flat T.cs)) (G_raw_merged : DFn P w K mg base 2 T.a_raw_merged T.d_raw_merged ["base", "one", "other"] (S_raw_merged T.cs)) (cdv : Value) (A : Around) (outer : List Env) (s : Shared) (H : Hp) (E : XK) (hr : RoomG 5 (A.deeper (envOfC "merged" (defScope s_merged) s.heap.objs.size T.a_merged cdv))) :
    DSs (cxOf CX0 P w K mg base N_merged "merged" (defScope s_merged) T.a_merged cdv A outer s H E).nox (defBody s_merged) (W_merged T.cs) :=
  have nd := sc_merged.nd
  (dss_cons (ds_expr (de_call (G_check_flat.mono (by decide)) hr (by rfl) T.m_check_flat T.F_check_flat.kp T.b_check_flat (da_cons (dv 0) da_nil))) (dss_cons (ds_expr (de_call (G_check_flat.mono (by decide)) hr (by rfl) T.m_check_flat T.F_check_flat.kp T.b_check_flat (da_cons (dv 1) da_nil))) (dss_cons (ds_expr (de_call (G_check_flat.mono (by decide)) hr (by rfl) T.m_check_flat T.F_check_flat.kp T.b_check_flat (da_cons (dv 2) da_nil))) (dss_one (ds_ret (de_frz (de_call (G_raw_merged.mono (by decide)) hr (by rfl) T.m_raw_merged T.F_raw_merged.kp T.b_raw_merged (da_cons (dv 0) (da_cons (dv 1) (da_cons (dv 2) da_nil))))))))))
theorem der_History___init__ (T : TX K mg) (G_check_flat : DFn P w K mg base 5 T.a_check_flat T.d_check_flat ["table"] (S_check_flat T.cs)) (cdv : Value) (A : Around) (outer : List Env) (s : Shared) (H : Hp) (E : XK) (hr : RoomG 5 (A.deeper (envOfC "History.__init__" (defScope s_History___init__) s.heap.objs.size T.a_History___init__ cdv))) :
    DSs (cxOf CX0 P w K mg base N_History___init__ "History.__init__" (defScope s_History___init__) T.a_History___init__ cdv A outer s H E).nox (defBody s_History___init__) (W_History___init__ T.cs) :=
  have nd := sc_History___init__.nd
  (dss_cons (ds_expr (de_call (G_check_flat.mono (by decide)) hr (by rfl) T.m_check_flat T.F_check_flat.kp T.b_check_flat (da_cons (dv 1) da_nil))) (dss_cons (ds_fld T.c_History T.n_History_kept_tables (dv 0) (de_lst (da_cons (de_frz (de_ct (c_dict2 rfl) (by rfl) T.z_dict rfl (da_cons (dv 1) da_nil))) da_nil))) (dss_one (ds_fld T.c_History T.n_History_kept_parents (dv 0) (de_lst (da_cons (de_tup da_nil) da_nil))))))
theorem der_History_check_version (T : TX K mg) (G_is_within : DFn P w K mg base 2 T.a_is_within T.d_is_within ["thing", "least", "most"] (S_is_within T.cs)) (cdv : Value) (A : Around) (outer : List Env) (s : Shared) (H : Hp) (E : XK) (hr : RoomG 2 (A.deeper (envOfC "History.check_version" (defScope s_History_check_version) s.heap.objs.size T.a_History_check_version cdv))) :
    DSs (cxOf CX0 P w K mg base N_History_check_version "History.check_version" (defScope s_History_check_version) T.a_History_check_version cdv A outer s H E).nox (defBody s_History_check_version) (W_History_check_version T.cs) :=
  have nd := sc_History_check_version.nd
  (dss_one (ds_if (dt_not (dt_val (de_call (G_is_within.mono (by decide)) hr (by rfl) T.m_is_within T.F_is_within.kp T.b_is_within (da_cons (dv 1) (da_cons de_int (da_cons (de_op o_sub (de_cb c_len (by rfl) T.z_len rfl (da_cons (de_fld T.c_History T.n_History_kept_tables (dv 0)) da_nil)) de_int) da_nil)))))) (dss_one ds_never) dss_nil))
theorem der_History_enter (T : TX K mg) (cdv : Value) (A : Around) (outer : List Env) (s : Shared) (H : Hp) (E : XK) (hr : RoomG 0 (A.deeper (envOfC "History.enter" (defScope s_History_enter) s.heap.objs.size T.a_History_enter cdv))) :
    DSs (cxOf CX0 P w K mg base N_History_enter "History.enter" (defScope s_History_enter) T.a_History_enter cdv A outer s H E).nox (defBody s_History_enter) (W_History_enter T.cs) :=
  have nd := sc_History_enter.nd
  (dss_cons (ds_expr (de_bm PySem.F.plainAttrs_list PySem.F.slot_list_append PySem.F.type_list_append m_app (de_fld T.c_History T.n_History_kept_tables (dv 0)) (da_cons (de_frz (de_ct (c_dict2 rfl) (by rfl) T.z_dict rfl (da_cons (dv 1) da_nil))) da_nil))) (dss_cons (ds_expr (de_bm PySem.F.plainAttrs_list PySem.F.slot_list_append PySem.F.type_list_append m_app (de_fld T.c_History T.n_History_kept_parents (dv 0)) (da_cons (de_frz (dv 2)) da_nil))) (dss_one (ds_ret (de_frz (de_op o_sub (de_cb c_len (by rfl) T.z_len rfl (da_cons (de_fld T.c_History T.n_History_kept_tables (dv 0)) da_nil)) de_int))))))
theorem der_History_commit (T : TX K mg) (G_History_check_version : DFn P w K mg base 3 T.a_History_check_version T.d_History_check_version ["self", "version"] (S_History_check_version T.cs)) (G_History_enter : DFn P w K mg base 1 T.a_History_enter T.d_History_enter ["self", "table", "parents"] (S_History_enter T.cs)) (G_check_flat : DFn P w K mg base 5 T.a_check_flat T.d_check_flat ["table"] (S_check_flat T.cs)) (cdv : Value) (A : Around) (outer : List Env) (s : Shared) (H : Hp) (E : XK) (hr : RoomG 5 (A.deeper (envOfC "History.commit" (defScope s_History_commit) s.heap.objs.size T.a_History_commit cdv))) :
    DSs (cxOf CX0 P w K mg base N_History_commit "History.commit" (defScope s_History_commit) T.a_History_commit cdv A outer s H E).nox (defBody s_History_commit) (W_History_commit T.cs) :=
  have nd := sc_History_commit.nd
  (dss_cons (ds_expr (de_meth T.c_History T.M_History_check_version (G_History_check_version.mono (by decide)) hr T.b_History_check_version (dv 0) (da_cons (dv 1) da_nil))) (dss_cons (ds_expr (de_call (G_check_flat.mono (by decide)) hr (by rfl) T.m_check_flat T.F_check_flat.kp T.b_check_flat (da_cons (dv 2) da_nil))) (dss_one (ds_ret (de_frz (de_meth T.c_History T.M_History_enter (G_History_enter.mono (by decide)) hr T.b_History_enter (dv 0) (da_cons (dv 2) (da_cons (de_tup (da_cons (de_frz (dv 1)) da_nil)) da_nil))))))))
theorem der_History_table_of (T : TX K mg) (G_History_check_version : DFn P w K mg base 3 T.a_History_check_version T.d_History_check_version ["self", "version"] (S_History_check_version T.cs)) (cdv : Value) (A : Around) (outer : List Env) (s : Shared) (H : Hp) (E : XK) (hr : RoomG 3 (A.deeper (envOfC "History.table_of" (defScope s_History_table_of) s.heap.objs.size T.a_History_table_of cdv))) :
    DSs (cxOf CX0 P w K mg base N_History_table_of "History.table_of" (defScope s_History_table_of) T.a_History_table_of cdv A outer s H E).nox (defBody s_History_table_of) (W_History_table_of T.cs) :=
  have nd := sc_History_table_of.nd
  (dss_cons (ds_expr (de_meth T.c_History T.M_History_check_version (G_History_check_version.mono (by decide)) hr T.b_History_check_version (dv 0) (da_cons (dv 1) da_nil))) (dss_one (ds_ret (de_ct (c_dict2 rfl) (by rfl) T.z_dict rfl (da_cons (de_ix hr.u1 (de_fld T.c_History T.n_History_kept_tables (dv 0)) (dv 1)) da_nil)))))
theorem der_History_parents (T : TX K mg) (G_History_check_version : DFn P w K mg base 3 T.a_History_check_version T.d_History_check_version ["self", "version"] (S_History_check_version T.cs)) (cdv : Value) (A : Around) (outer : List Env) (s : Shared) (H : Hp) (E : XK) (hr : RoomG 3 (A.deeper (envOfC "History.parents" (defScope s_History_parents) s.heap.objs.size T.a_History_parents cdv))) :
    DSs (cxOf CX0 P w K mg base N_History_parents "History.parents" (defScope s_History_parents) T.a_History_parents cdv A outer s H E).nox (defBody s_History_parents) (W_History_parents T.cs) :=
  have nd := sc_History_parents.nd
  (dss_cons (ds_expr (de_meth T.c_History T.M_History_check_version (G_History_check_version.mono (by decide)) hr T.b_History_check_version (dv 0) (da_cons (dv 1) da_nil))) (dss_one (ds_ret (de_frz (de_ix hr.u1 (de_fld T.c_History T.n_History_kept_parents (dv 0)) (dv 1))))))
theorem der_History_line_of (T : TX K mg) (cdv : Value) (A : Around) (outer : List Env) (s : Shared) (H : Hp) (E : XK) (hr : RoomG 0 (A.deeper (envOfC "History.line_of" (defScope s_History_line_of) s.heap.objs.size T.a_History_line_of cdv))) :
    DSs (cxOf CX0 P w K mg base N_History_line_of "History.line_of" (defScope s_History_line_of) T.a_History_line_of cdv A outer s H E).nox (defBody s_History_line_of) (W_History_line_of T.cs) :=
  have nd := sc_History_line_of.nd
  (dss_cons (ds_par 2 3 rfl nd (da_cons (de_disp (dp_cons (dv 1) de_bl dp_nil)) (da_cons (de_lst (da_cons (de_frz (dv 1)) da_nil)) da_nil))) (dss_cons (ds_while PassesOwn.never (dt_cmp o_gt (de_cb c_len (by rfl) T.z_len rfl (da_cons (dv 3) da_nil)) de_int (nomark _)) (dss_one (ds_for PassesOwn.never rfl (di_tup (de_ix hr.u1 (de_fld T.c_History T.n_History_kept_parents (dv 0)) (de_bm0 PySem.F.plainAttrs_list PySem.F.slot_list_pop PySem.F.type_list_pop m_pop (dv 3)))) (dg_name 4 nd) (dss_one (ds_if (dt_cmp (o_notIn hr.u1) (dv 4) (dv 2) (by rfl)) (dss_cons (ds_asg de_bl (dg_sub hr.u1 (dv 2) (dv 4))) (dss_one (ds_expr (de_bm PySem.F.plainAttrs_list PySem.F.slot_list_append PySem.F.type_list_append m_app (dv 3) (da_cons (de_frz (dv 4)) da_nil))))) dss_nil))))) (dss_one (ds_ret (de_frz (dv 2))))))
theorem der_History_elders (T : TX K mg) (G_History_check_version : DFn P w K mg base 3 T.a_History_check_version T.d_History_check_version ["self", "version"] (S_History_check_version T.cs)) (G_History_line_of : DFn P w K mg base 1 T.a_History_line_of T.d_History_line_of ["self", "version"] (S_History_line_of T.cs)) (cdv : Value) (A : Around) (outer : List Env) (s : Shared) (H : Hp) (E : XK) (hr : RoomG 3 (A.deeper (envOfC "History.elders" (defScope s_History_elders) s.heap.objs.size T.a_History_elders cdv))) :
    DSs (cxOf CX0 P w K mg base N_History_elders "History.elders" (defScope s_History_elders) T.a_History_elders cdv A outer s H E).nox (defBody s_History_elders) (W_History_elders T.cs) :=
  have nd := sc_History_elders.nd
  (dss_cons (ds_expr (de_meth T.c_History T.M_History_check_version (G_History_check_version.mono (by decide)) hr T.b_History_check_version (dv 0) (da_cons (dv 1) da_nil))) (dss_one (ds_ret (de_frz (de_ct c_tuple (by rfl) T.z_tuple rfl (da_cons (de_lc (own := [("one", 2)]) rfl nd (di_list (de_cb (c_sorted rfl) (by rfl) T.z_sorted rfl (da_cons (de_meth T.c_History T.M_History_line_of (G_History_line_of.mono (by decide)) hr T.b_History_line_of (dv 0) (da_cons (dv 1) da_nil)) da_nil))) (blkOk_by (own := [("one", 2)]) (N := N_History_elders) (sc := defScope s_History_elders) (by decide +kernel)) (fun _ _ _ _ _ => (dgw_name 2 nd (by decide))) (fun _ _ _ _ _ => (dts_one (dt_cmp (o_ne hr.u64) (de_frz (dv 2)) (de_frz (dv 1)) (nomark _)))) (fun _ _ _ _ _ => (de_frz (dv 2)))) da_nil))))))
theorem der_History_raw_bases (T : TX K mg) (G_History_line_of : DFn P w K mg base 1 T.a_History_line_of T.d_History_line_of ["self", "version"] (S_History_line_of T.cs)) (cdv : Value) (A : Around) (outer : List Env) (s : Shared) (H : Hp) (E : XK) (hr : RoomG 1 (A.deeper (envOfC "History.raw_bases" (defScope s_History_raw_bases) s.heap.objs.size T.a_History_raw_bases cdv))) :
    DSs (cxOf CX0 P w K mg base N_History_raw_bases "History.raw_bases" (defScope s_History_raw_bases) T.a_History_raw_bases cdv A outer s H E).nox (defBody s_History_raw_bases) (W_History_raw_bases T.cs) :=
  have nd := sc_History_raw_bases.nd
  (dss_cons (ds_asg (de_tup (da_cons (de_frz (de_meth T.c_History T.M_History_line_of (G_History_line_of.mono (by decide)) hr T.b_History_line_of (dv 0) (da_cons (dv 1) da_nil))) (da_cons (de_frz (de_meth T.c_History T.M_History_line_of (G_History_line_of.mono (by decide)) hr T.b_History_line_of (dv 0) (da_cons (dv 2) da_nil))) da_nil))) (dg_tup rfl (dgs_cons (dg_name 3 nd) (dgs_cons (dg_name 4 nd) dgs_nil)))) (dss_cons (ds_setLc (own := [("version", 6)]) 5 rfl nd (di_list (de_cb (c_sorted rfl) (by rfl) T.z_sorted rfl (da_cons (dv 3) da_nil))) (blkOk_by (own := [("version", 6)]) (N := N_History_raw_bases) (sc := defScope s_History_raw_bases) (by decide +kernel)) (fun _ _ _ _ _ => (dgw_name 6 nd (by decide))) (fun _ _ _ _ _ => (dts_one (dt_cmp (o_in hr.u1) (dv 6) (dv 4) (by rfl)))) (fun _ _ _ _ _ => (de_frz (dv 6))) (sw_true rfl rfl rfl (by decide +kernel))) (dss_cons (ds_set 7 nd de_newK) (dss_cons (ds_for PassesOwn.never rfl (di_list (dv 5)) (dg_name 6 nd) (dss_cons (ds_set 8 nd (de_meth T.c_History T.M_History_line_of (G_History_line_of.mono (by decide)) hr T.b_History_line_of (dv 0) (da_cons (dv 6) da_nil))) (dss_one (ds_expr (de_bm PySem.F.plainAttrs_dict PySem.F.slot_dict_update PySem.F.type_dict_update m_upd (dv 7) (da_cons (de_frz (de_dc (own := [("elder", 9)]) rfl nd (di_keys (dv 8)) (blkOk_by (own := [("elder", 9)]) (N := N_History_raw_bases) (sc := defScope s_History_raw_bases) (by decide +kernel)) (fun _ _ _ _ _ => (dgw_name 9 nd (by decide))) (fun _ _ _ _ _ => (dts_one (dt_cmp (o_ne hr.u64) (de_frz (dv 9)) (de_frz (dv 6)) (nomark _)))) (fun _ _ _ _ _ => (dv 9)) (fun _ _ _ _ _ => de_bl))) da_nil)))))) (dss_one (ds_ret (de_frz (de_lc (own := [("version", 6)]) rfl nd (di_list (dv 5)) (blkOk_by (own := [("version", 6)]) (N := N_History_raw_bases) (sc := defScope s_History_raw_bases) (by decide +kernel)) (fun _ _ _ _ _ => (dgw_name 6 nd (by decide))) (fun _ _ _ _ _ => (dts_one (dt_cmp (o_notIn hr.u1) (dv 6) (dv 7) (by rfl)))) (fun _ _ _ _ _ => (de_frz (dv 6)))))))))))
theorem der_History_bases (T : TX K mg) (G_History_check_version : DFn P w K mg base 3 T.a_History_check_version T.d_History_check_version ["self", "version"] (S_History_check_version T.cs)) (G_History_raw_bases : DFn P w K mg base 2 T.a_History_raw_bases T.d_History_raw_bases ["self", "one", "other"] (S_History_raw_bases T.cs)) (cdv : Value) (A : Around) (outer : List Env) (s : Shared) (H : Hp) (E : XK) (hr : RoomG 3 (A.deeper (envOfC "History.bases" (defScope s_History_bases) s.heap.objs.size T.a_History_bases cdv))) :
    DSs (cxOf CX0 P w K mg base N_History_bases "History.bases" (defScope s_History_bases) T.a_History_bases cdv A outer s H E).nox (defBody s_History_bases) (W_History_bases T.cs) :=
  have nd := sc_History_bases.nd
  (dss_cons (ds_expr (de_meth T.c_History T.M_History_check_version (G_History_check_version.mono (by decide)) hr T.b_History_check_version (dv 0) (da_cons (dv 1) da_nil))) (dss_cons (ds_expr (de_meth T.c_History T.M_History_check_version (G_History_check_version.mono (by decide)) hr T.b_History_check_version (dv 0) (da_cons (dv 2) da_nil))) (dss_one (ds_ret (de_frz (de_ct c_tuple (by rfl) T.z_tuple rfl (da_cons (de_meth T.c_History T.M_History_raw_bases (G_History_raw_bases.mono (by decide)) hr T.b_History_raw_bases (dv 0) (da_cons (dv 1) (da_cons (dv 2) da_nil))) da_nil)))))))
theorem der_History_merge (T : TX K mg) (G_History_check_version : DFn P w K mg base 3 T.a_History_check_version T.d_History_check_version ["self", "version"] (S_History_check_version T.cs)) (G_History_enter : DFn P w K mg base 1 T.a_History_enter T.d_History_enter ["self", "table", "parents"] (S_History_enter T.cs)) (G_History_line_of : DFn P w K mg base 1 T.a_History_line_of T.d_History_line_of ["self", "version"] (S_History_line_of T.cs)) (G_History_raw_bases : DFn P w K mg base 2 T.a_History_raw_bases T.d_History_raw_bases ["self", "one", "other"] (S_History_raw_bases T.cs)) (G_raw_merged : DFn P w K mg base 2 T.a_raw_merged T.d_raw_merged ["base", "one", "other"] (S_raw_merged T.cs)) (cdv : Value) (A : Around) (outer : List Env) (s : Shared) (H : Hp) (E : XK) (hr : RoomG 3 (A.deeper (envOfC "History.merge" (defScope s_History_merge) s.heap.objs.size T.a_History_merge cdv))) :
    DSs (cxOf CX0 P w K mg base N_History_merge "History.merge" (defScope s_History_merge) T.a_History_merge cdv A outer s H E).nox (defBody s_History_merge) (W_History_merge T.cs) :=
  have nd := sc_History_merge.nd
  (dss_cons (ds_expr (de_meth T.c_History T.M_History_check_version (G_History_check_version.mono (by decide)) hr T.b_History_check_version (dv 0) (da_cons (dv 1) da_nil))) (dss_cons (ds_expr (de_meth T.c_History T.M_History_check_version (G_History_check_version.mono (by decide)) hr T.b_History_check_version (dv 0) (da_cons (dv 2) da_nil))) (dss_cons (ds_if (dt_cmp (o_in hr.u1) (dv 1) (de_meth T.c_History T.M_History_line_of (G_History_line_of.mono (by decide)) hr T.b_History_line_of (dv 0) (da_cons (dv 2) da_nil)) (by rfl)) (dss_one (ds_ret (de_tup (da_cons (de_frz (dv 2)) (da_cons (de_tup da_nil) da_nil))))) dss_nil) (dss_cons (ds_if (dt_cmp (o_in hr.u1) (dv 2) (de_meth T.c_History T.M_History_line_of (G_History_line_of.mono (by decide)) hr T.b_History_line_of (dv 0) (da_cons (dv 1) da_nil)) (by rfl)) (dss_one (ds_ret (de_tup (da_cons (de_frz (dv 1)) (da_cons (de_tup da_nil) da_nil))))) dss_nil) (dss_cons (ds_set 3 nd (de_ix hr.u1 (de_meth T.c_History T.M_History_raw_bases (G_History_raw_bases.mono (by decide)) hr T.b_History_raw_bases (dv 0) (da_cons (dv 1) (da_cons (dv 2) da_nil))) de_int)) (dss_cons (ds_asg (de_call (G_raw_merged.mono (by decide)) hr (by rfl) T.m_raw_merged T.F_raw_merged.kp T.b_raw_merged (da_cons (de_ix hr.u1 (de_fld T.c_History T.n_History_kept_tables (dv 0)) (dv 3)) (da_cons (de_ix hr.u1 (de_fld T.c_History T.n_History_kept_tables (dv 0)) (dv 1)) (da_cons (de_ix hr.u1 (de_fld T.c_History T.n_History_kept_tables (dv 0)) (dv 2)) da_nil)))) (dg_tup rfl (dgs_cons (dg_name 4 nd) (dgs_cons (dg_name 5 nd) dgs_nil)))) (dss_one (ds_ret (de_tup (da_cons (de_frz (de_meth T.c_History T.M_History_enter (G_History_enter.mono (by decide)) hr T.b_History_enter (dv 0) (da_cons (dv 4) (da_cons (de_tup (da_cons (de_frz (dv 1)) (da_cons (de_frz (dv 2)) da_nil))) da_nil)))) (da_cons (de_frz (dv 5)) da_nil)))))))))))
theorem der_History_since (T : TX K mg) (G_History_check_version : DFn P w K mg base 3 T.a_History_check_version T.d_History_check_version ["self", "version"] (S_History_check_version T.cs)) (G_History_line_of : DFn P w K mg base 1 T.a_History_line_of T.d_History_line_of ["self", "version"] (S_History_line_of T.cs)) (cdv : Value) (A : Around) (outer : List Env) (s : Shared) (H : Hp) (E : XK) (hr : RoomG 3 (A.deeper (envOfC "History.since" (defScope s_History_since) s.heap.objs.size T.a_History_since cdv))) :
    DSs (cxOf CX0 P w K mg base N_History_since "History.since" (defScope s_History_since) T.a_History_since cdv A outer s H E).nox (defBody s_History_since) (W_History_since T.cs) :=
  have nd := sc_History_since.nd
  (dss_cons (ds_expr (de_meth T.c_History T.M_History_check_version (G_History_check_version.mono (by decide)) hr T.b_History_check_version (dv 0) (da_cons (dv 1) da_nil))) (dss_cons (ds_expr (de_meth T.c_History T.M_History_check_version (G_History_check_version.mono (by decide)) hr T.b_History_check_version (dv 0) (da_cons (dv 2) da_nil))) (dss_cons (ds_set 3 nd (de_meth T.c_History T.M_History_line_of (G_History_line_of.mono (by decide)) hr T.b_History_line_of (dv 0) (da_cons (dv 1) da_nil))) (dss_one (ds_ret (de_frz (de_ct c_tuple (by rfl) T.z_tuple rfl (da_cons (de_lc (own := [("version", 4)]) rfl nd (di_list (de_cb (c_sorted rfl) (by rfl) T.z_sorted rfl (da_cons (de_meth T.c_History T.M_History_line_of (G_History_line_of.mono (by decide)) hr T.b_History_line_of (dv 0) (da_cons (dv 2) da_nil)) da_nil))) (blkOk_by (own := [("version", 4)]) (N := N_History_since) (sc := defScope s_History_since) (by decide +kernel)) (fun _ _ _ _ _ => (dgw_name 4 nd (by decide))) (fun _ _ _ _ _ => (dts_one (dt_cmp (o_notIn hr.u1) (dv 4) (dv 3) (by rfl)))) (fun _ _ _ _ _ => (de_frz (dv 4)))) da_nil))))))))
theorem der_law_pick (T : TX K mg) (cdv : Value) (A : Around) (outer : List Env) (s : Shared) (H : Hp) (E : XK) (hr : RoomG 0 (A.deeper (envOfC "_law_pick" (defScope s_law_pick) s.heap.objs.size T.a_law_pick cdv))) :
    DSs (cxOf CX0 P w K mg base N_law_pick "_law_pick" (defScope s_law_pick) T.a_law_pick cdv A outer s H E).nox (defBody s_law_pick) (W_law_pick T.cs) :=
  have nd := sc_law_pick.nd
  (dss_cons (ds_if (DW.dt (dw_and (dt_cmp (o_eq hr.u64) (de_frz (de_ix hr.u1 (dv 0) de_int)) de_int (nomark _)) (dw_and1 (dt_cmp o_lt (de_ix hr.u1 (dv 0) de_int) (de_cb c_len (by rfl) T.z_len rfl (da_cons (de_ix hr.u1 (dv 0) de_int) da_nil)) (nomark _))))) (dss_cons (ds_set 2 nd (de_ix hr.u1 (de_ix hr.u1 (dv 0) de_int) (de_ix hr.u1 (dv 0) de_int))) (dss_cons (ds_asg (de_frz (de_op o_add (de_ix hr.u1 (dv 0) de_int) de_int)) (dg_sub hr.u1 (dv 0) de_int)) (dss_cons (ds_asg (de_frz (de_op o_mod (de_ct c_int (by rfl) T.z_int rfl (da_cons (de_op o_add (de_op o_add (de_op o_mul (de_ix hr.u1 (dv 0) de_int) de_int) (dv 2)) de_int) da_nil)) de_int)) (dg_sub hr.u1 (dv 0) de_int)) (dss_one (ds_if (dt_cmp o_ge (dv 2) (de_op o_pow de_int de_int) (nomark _)) (dss_one (ds_asg (de_frz (dv 2)) (dg_sub hr.u1 (dv 0) de_int))) dss_nil))))) dss_nil) (dss_cons (ds_if (dt_cmp o_gt (de_ix hr.u1 (dv 0) de_int) de_int (nomark _)) (dss_cons (ds_set 3 nd (de_op o_mod (de_ct c_int (by rfl) T.z_int rfl (da_cons (de_ix hr.u1 (dv 0) de_int) da_nil)) (dv 1))) (dss_cons (ds_asg (de_frz (de_op o_div (de_ix hr.u1 (dv 0) de_int) (dv 1))) (dg_sub hr.u1 (dv 0) de_int)) (dss_one (ds_ret (de_frz (dv 3)))))) dss_nil) (dss_cons (ds_asg (de_frz (de_op o_add (de_ix hr.u1 (dv 0) de_int) de_int)) (dg_sub hr.u1 (dv 0) de_int)) (dss_cons (ds_set 4 nd (de_op o_mod (de_ct c_int (by rfl) T.z_int rfl (da_cons (de_op o_mul (de_ct c_int (by rfl) T.z_int rfl (da_cons (de_op o_add (de_ix hr.u1 (dv 0) de_int) (de_op o_mul de_int (de_ix hr.u1 (dv 0) de_int))) da_nil)) de_int) da_nil)) de_int)) (dss_cons (ds_set 4 nd (de_op o_mod (de_ct c_int (by rfl) T.z_int rfl (da_cons (de_op o_mul (dv 4) (de_op o_add (de_op o_div (dv 4) de_int) de_int)) da_nil)) de_int)) (dss_cons (ds_set 4 nd (de_op o_mod (de_ct c_int (by rfl) T.z_int rfl (da_cons (de_op o_mul (dv 4) (de_op o_add (de_op o_div (dv 4) de_int) de_int)) da_nil)) de_int)) (dss_one (ds_ret (de_frz (de_op o_mod (de_ct c_int (by rfl) T.z_int rfl (da_cons (de_op o_div (dv 4) de_int) da_nil)) (dv 1)))))))))))
theorem der_law_any (T : TX K mg) (G_law_pick : DFn P w K mg base 1 T.a_law_pick T.d_law_pick ["tape", "many"] (S_law_pick T.cs)) (cdv : Value) (A : Around) (outer : List Env) (s : Shared) (H : Hp) (E : XK) (hr : RoomG 1 (A.deeper (envOfC "_law_any" (defScope s_law_any) s.heap.objs.size T.a_law_any cdv))) :
    DSs (cxOf CX0 P w K mg base N_law_any "_law_any" (defScope s_law_any) T.a_law_any cdv A outer s H E).nox (defBody s_law_any) (W_law_any T.cs) :=
  have nd := sc_law_any.nd
  (dss_one (ds_ret (de_frz (de_ix hr.u1 (dv 1) (de_call (G_law_pick.mono (by decide)) hr (by rfl) T.m_law_pick T.F_law_pick.kp T.b_law_pick (da_cons (dv 0) (da_cons (de_cb c_len (by rfl) T.z_len rfl (da_cons (dv 1) da_nil)) da_nil)))))))
theorem der_law_table (T : TX K mg) (G_law_any : DFn P w K mg base 2 T.a_law_any T.d_law_any ["tape", "things"] (S_law_any T.cs)) (G_law_pick : DFn P w K mg base 1 T.a_law_pick T.d_law_pick ["tape", "many"] (S_law_pick T.cs)) (cdv : Value) (A : Around) (outer : List Env) (s : Shared) (H : Hp) (E : XK) (hr : RoomG 2 (A.deeper (envOfC "_law_table" (defScope s_law_table) s.heap.objs.size T.a_law_table cdv))) :
    DSs (cxOf CX0 P w K mg base N_law_table "_law_table" (defScope s_law_table) T.a_law_table cdv A outer s H E).nox (defBody s_law_table) (W_law_table T.cs) :=
  have nd := sc_law_table.nd
  (dss_cons (ds_set 2 nd de_newK) (dss_cons (ds_for PassesOwn.never rfl (di_list (dv 1)) (dg_name 3 nd) (dss_one (ds_if (dt_cmp o_gt (de_call (G_law_pick.mono (by decide)) hr (by rfl) T.m_law_pick T.F_law_pick.kp T.b_law_pick (da_cons (dv 0) (da_cons de_int da_nil))) de_int (nomark _)) (dss_one (ds_asg (de_frz (de_call (G_law_any.mono (by decide)) hr (by rfl) T.m_law_any T.F_law_any.kp T.b_law_any (da_cons (dv 0) (da_cons (de_lst (da_cons de_int (da_cons de_int (da_cons (de_frz (de_un o_neg de_int)) (da_cons de_int (da_cons de_int (da_cons (de_frz (de_un o_neg de_int)) (da_cons de_str (da_cons de_str (da_cons de_str (da_cons de_str da_nil))))))))))) da_nil)))) (dg_sub hr.u1 (dv 2) (dv 3)))) dss_nil))) (dss_one (ds_ret (dv 2)))))
theorem der_law_turned (T : TX K mg) (G_law_any : DFn P w K mg base 2 T.a_law_any T.d_law_any ["tape", "things"] (S_law_any T.cs)) (G_law_pick : DFn P w K mg base 1 T.a_law_pick T.d_law_pick ["tape", "many"] (S_law_pick T.cs)) (cdv : Value) (A : Around) (outer : List Env) (s : Shared) (H : Hp) (E : XK) (hr : RoomG 2 (A.deeper (envOfC "_law_turned" (defScope s_law_turned) s.heap.objs.size T.a_law_turned cdv))) :
    DSs (cxOf CX0 P w K mg base N_law_turned "_law_turned" (defScope s_law_turned) T.a_law_turned cdv A outer s H E).nox (defBody s_law_turned) (W_law_turned T.cs) :=
  have nd := sc_law_turned.nd
  (dss_cons (ds_set 3 nd (de_ct (c_dict2 rfl) (by rfl) T.z_dict rfl (da_cons (de_items rfl (dv 2) (by rfl) T.z_list) da_nil))) (dss_cons (ds_for PassesOwn.never rfl (di_list (dv 1)) (dg_name 4 nd) (dss_cons (ds_set 5 nd (de_call (G_law_pick.mono (by decide)) hr (by rfl) T.m_law_pick T.F_law_pick.kp T.b_law_pick (da_cons (dv 0) (da_cons de_int da_nil)))) (dss_cons (ds_if (dt_cmp (o_eq hr.u64) (de_frz (dv 5)) de_int (nomark _)) (dss_one (ds_asg (de_frz (de_call (G_law_any.mono (by decide)) hr (by rfl) T.m_law_any T.F_law_any.kp T.b_law_any (da_cons (dv 0) (da_cons (de_lst (da_cons de_int (da_cons de_int (da_cons de_int (da_cons de_str (da_cons de_str (da_cons de_str da_nil))))))) da_nil)))) (dg_sub hr.u1 (dv 3) (dv 4)))) dss_nil) (dss_one (ds_if (DW.dt (dw_and (dt_cmp (o_eq hr.u64) (de_frz (dv 5)) de_int (nomark _)) (dw_and1 (dt_cmp (o_in hr.u1) (dv 4) (dv 3) (by rfl))))) (dss_one (ds_expr (de_dpop (dv 3) (dv 4)))) dss_nil))))) (dss_one (ds_ret (de_frz (dv 3))))))
theorem der_law_merged (T : TX K mg) (cdv : Value) (A : Around) (outer : List Env) (s : Shared) (H : Hp) (E : XK) (hr : RoomG 0 (A.deeper (envOfC "_law_merged" (defScope s_law_merged) s.heap.objs.size T.a_law_merged cdv))) :
    DSs (cxOf CX0 P w K mg base N_law_merged "_law_merged" (defScope s_law_merged) T.a_law_merged cdv A outer s H E).nox (defBody s_law_merged) (W_law_merged T.cs) :=
  have nd := sc_law_merged.nd
  (dss_cons (ds_par 3 4 rfl nd (da_cons de_newK (da_cons (de_lst da_nil) da_nil))) (dss_cons (ds_for PassesOwn.never rfl (di_list (de_cb (c_sorted rfl) (by rfl) T.z_sorted rfl (da_cons (de_ct (c_dict2 rfl) (by rfl) T.z_dict rfl (da_cons (de_op o_add (de_op o_add (de_items rfl (dv 0) (by rfl) T.z_list) (de_items rfl (dv 1) (by rfl) T.z_list)) (de_items rfl (dv 2) (by rfl) T.z_list)) da_nil)) da_nil))) (dg_name 5 nd) (dss_cons (ds_par3 6 7 8 rfl nd (da_cons (de_get2 hr.u1 (dv 0) (dv 5) de_non) (da_cons (de_get2 hr.u1 (dv 1) (dv 5) de_non) (da_cons (de_get2 hr.u1 (dv 2) (dv 5) de_non) da_nil)))) (dss_cons (ds_set 9 nd (de_if (dt_cmp (o_eq hr.u64) (de_frz (dv 7)) (de_frz (dv 6)) (nomark _)) (dv 8) (dv 7))) (dss_cons (ds_if (DW.dt (dw_and (dt_cmp (o_ne hr.u64) (de_frz (dv 7)) (de_frz (dv 8)) (nomark _)) (dw_and (dt_cmp (o_ne hr.u64) (de_frz (dv 7)) (de_frz (dv 6)) (nomark _)) (dw_and1 (dt_cmp (o_ne hr.u64) (de_frz (dv 8)) (de_frz (dv 6)) (nomark _)))))) (dss_one (ds_expr (de_bm PySem.F.plainAttrs_list PySem.F.slot_list_append PySem.F.type_list_append m_app (dv 4) (da_cons (de_frz (dv 5)) da_nil)))) dss_nil) (dss_one (ds_if (dt_cmp o_notN (dv 9) de_non (nomark _)) (dss_one (ds_asg (de_frz (dv 9)) (dg_sub hr.u1 (dv 3) (dv 5)))) dss_nil)))))) (dss_one (ds_ret (de_tup (da_cons (de_frz (dv 3)) (da_cons (de_frz (de_ct c_tuple (by rfl) T.z_tuple rfl (da_cons (dv 4) da_nil))) da_nil)))))))
theorem der_law_elders (T : TX K mg) (cdv : Value) (A : Around) (outer : List Env) (s : Shared) (H : Hp) (E : XK) (hr : RoomG 0 (A.deeper (envOfC "_law_elders" (defScope s_law_elders) s.heap.objs.size T.a_law_elders cdv))) :
    DSs (cxOf CX0 P w K mg base N_law_elders "_law_elders" (defScope s_law_elders) T.a_law_elders cdv A outer s H E).nox (defBody s_law_elders) (W_law_elders T.cs) :=
  have nd := sc_law_elders.nd
  (dss_cons (ds_par 2 3 rfl nd (da_cons de_newK (da_cons (de_lst (da_cons (de_frz (dv 1)) da_nil)) da_nil))) (dss_cons (ds_while PassesOwn.never (dt_cmp o_gt (de_cb c_len (by rfl) T.z_len rfl (da_cons (dv 3) da_nil)) de_int (nomark _)) (dss_cons (ds_set 4 nd (de_bm0 PySem.F.plainAttrs_list PySem.F.slot_list_pop PySem.F.type_list_pop m_pop (dv 3))) (dss_one (ds_if (dt_cmp (o_notIn hr.u1) (dv 4) (dv 2) (by rfl)) (dss_cons (ds_asg de_bl (dg_sub hr.u1 (dv 2) (dv 4))) (dss_one (ds_set 3 nd (de_op o_add (dv 3) (de_ct c_list (by rfl) T.z_list rfl (da_cons (de_ix hr.u1 (de_ix hr.u1 (dv 0) (dv 4)) de_int) da_nil)))))) dss_nil)))) (dss_one (ds_ret (de_frz (dv 2))))))
theorem der_law_bases (T : TX K mg) (G_law_elders : DFn P w K mg base 1 T.a_law_elders T.d_law_elders ["lines", "version"] (S_law_elders T.cs)) (cdv : Value) (A : Around) (outer : List Env) (s : Shared) (H : Hp) (E : XK) (hr : RoomG 1 (A.deeper (envOfC "_law_bases" (defScope s_law_bases) s.heap.objs.size T.a_law_bases cdv))) :
    DSs (cxOf CX0 P w K mg base N_law_bases "_law_bases" (defScope s_law_bases) T.a_law_bases cdv A outer s H E).nox (defBody s_law_bases) (W_law_bases T.cs) :=
  have nd := sc_law_bases.nd
  (dss_cons (ds_setLc (own := [("here", 4)]) 3 rfl nd (di_keys (de_call (G_law_elders.mono (by decide)) hr (by rfl) T.m_law_elders T.F_law_elders.kp T.b_law_elders (da_cons (dv 0) (da_cons (dv 1) da_nil)))) (blkOk_by (own := [("here", 4)]) (N := N_law_bases) (sc := defScope s_law_bases) (by decide +kernel)) (fun _ _ _ _ _ => (dgw_name 4 nd (by decide))) (fun _ _ _ _ _ => (dts_one (dt_cmp (o_in hr.u1) (dv 4) (de_call (G_law_elders.mono (by decide)) hr (by rfl) T.m_law_elders T.F_law_elders.kp T.b_law_elders (da_cons (dv 0) (da_cons (dv 2) da_nil))) (by rfl)))) (fun _ _ _ _ _ => (de_frz (dv 4))) (sw_true rfl rfl rfl (by decide +kernel))) (dss_cons (ds_set 5 nd (de_lst da_nil)) (dss_cons (ds_for PassesOwn.never rfl (di_list (dv 3)) (dg_name 4 nd) (dss_one (ds_if (dt_not (dt_val (de_cb (c_any rfl) (by rfl) T.z_any rfl (da_cons (de_lc (own := [("later", 6)]) rfl nd (di_list (dv 3)) (blkOk_by (own := [("later", 6)]) (N := N_law_bases) (sc := defScope s_law_bases) (by decide +kernel)) (fun _ _ _ _ _ => (dgw_name 6 nd (by decide))) (fun _ _ _ _ _ => dts_nil) (fun _ _ _ _ _ => (de_frz (de_and (de_cmp (o_ne hr.u64) (de_frz (dv 4)) (de_frz (dv 6)) (nomark _)) (de_one (de_cmp (o_in hr.u1) (dv 4) (de_call (G_law_elders.mono (by decide)) hr (by rfl) T.m_law_elders T.F_law_elders.kp T.b_law_elders (da_cons (dv 0) (da_cons (dv 6) da_nil))) (by rfl))))))) da_nil)))) (dss_one (ds_expr (de_bm PySem.F.plainAttrs_list PySem.F.slot_list_append PySem.F.type_list_append m_app (dv 5) (da_cons (de_frz (dv 4)) da_nil)))) dss_nil))) (dss_one (ds_ret (de_frz (de_ct c_tuple (by rfl) T.z_tuple rfl (da_cons (de_cb (c_sorted rfl) (by rfl) T.z_sorted rfl (da_cons (dv 5) da_nil)) da_nil))))))))
theorem der_law_grown (T : TX K mg) (G_History_commit : DFn P w K mg base 6 T.a_History_commit T.d_History_commit ["self", "version", "table"] (S_History_commit T.cs)) (G_History_merge : DFn P w K mg base 4 T.a_History_merge T.d_History_merge ["self", "one", "other"] (S_History_merge T.cs)) (G_law_bases : DFn P w K mg base 2 T.a_law_bases T.d_law_bases ["lines", "one", "other"] (S_law_bases T.cs)) (G_law_elders : DFn P w K mg base 1 T.a_law_elders T.d_law_elders ["lines", "version"] (S_law_elders T.cs)) (G_law_merged : DFn P w K mg base 1 T.a_law_merged T.d_law_merged ["base", "one", "other"] (S_law_merged T.cs)) (G_law_pick : DFn P w K mg base 1 T.a_law_pick T.d_law_pick ["tape", "many"] (S_law_pick T.cs)) (G_law_turned : DFn P w K mg base 3 T.a_law_turned T.d_law_turned ["tape", "names", "table"] (S_law_turned T.cs)) (cdv : Value) (A : Around) (outer : List Env) (s : Shared) (H : Hp) (E : XK) (hr : RoomG 6 (A.deeper (envOfC "_law_grown" (defScope s_law_grown) s.heap.objs.size T.a_law_grown cdv))) :
    DSs (cxOf CX0 P w K mg base N_law_grown "_law_grown" (defScope s_law_grown) T.a_law_grown cdv A outer s H E).nox (defBody s_law_grown) (W_law_grown T.cs) :=
  have nd := sc_law_grown.nd
  (dss_cons (ds_par 4 5 rfl nd (da_cons (de_call (G_law_pick.mono (by decide)) hr (by rfl) T.m_law_pick T.F_law_pick.kp T.b_law_pick (da_cons (dv 0) (da_cons (de_cb c_len (by rfl) T.z_len rfl (da_cons (dv 2) da_nil)) da_nil))) (da_cons (de_call (G_law_pick.mono (by decide)) hr (by rfl) T.m_law_pick T.F_law_pick.kp T.b_law_pick (da_cons (dv 0) (da_cons (de_cb c_len (by rfl) T.z_len rfl (da_cons (dv 2) da_nil)) da_nil))) da_nil))) (dss_cons (ds_if (dt_cmp (o_in hr.u1) (dv 5) (de_call (G_law_elders.mono (by decide)) hr (by rfl) T.m_law_elders T.F_law_elders.kp T.b_law_elders (da_cons (dv 2) (da_cons (dv 4) da_nil))) (by rfl)) (dss_one (ds_par 4 5 rfl nd (da_cons (dv 5) (da_cons (dv 4) da_nil)))) dss_nil) (dss_cons (ds_if (dt_cmp (o_eq hr.u64) (de_frz (de_call (G_law_pick.mono (by decide)) hr (by rfl) T.m_law_pick T.F_law_pick.kp T.b_law_pick (da_cons (dv 0) (da_cons de_int da_nil)))) de_int (nomark _)) (dss_cons (ds_set 6 nd (de_frz (de_call (G_law_turned.mono (by decide)) hr (by rfl) T.m_law_turned T.F_law_turned.kp T.b_law_turned (da_cons (dv 0) (da_cons (dv 3) (da_cons (de_ix hr.u1 (de_ix hr.u1 (dv 2) (dv 4)) de_int) da_nil)))))) (dss_cons (ds_expr (de_bm PySem.F.plainAttrs_list PySem.F.slot_list_append PySem.F.type_list_append m_app (dv 2) (da_cons (de_tup (da_cons (de_frz (de_frz (dv 6))) (da_cons (de_tup (da_cons (de_frz (dv 4)) da_nil)) da_nil))) da_nil))) (dss_one (ds_ret (de_frz (de_cmp (o_eq hr.u64) (de_frz (de_cb (c_repr hr.calm hr.u64) (by rfl) T.z_repr rfl (da_cons (de_frz (de_meth T.c_History T.M_History_commit (G_History_commit.mono (by decide)) hr T.b_History_commit (dv 1) (da_cons (dv 4) (da_cons (de_frz (dv 6)) da_nil)))) da_nil))) (de_frz (de_cb (c_repr hr.calm hr.u64) (by rfl) T.z_repr rfl (da_cons (de_frz (de_op o_sub (de_cb c_len (by rfl) T.z_len rfl (da_cons (dv 2) da_nil)) de_int)) da_nil))) (nomark _))))))) dss_nil) (dss_cons (ds_set 7 nd (de_meth T.c_History T.M_History_merge (G_History_merge.mono (by decide)) hr T.b_History_merge (dv 1) (da_cons (dv 4) (da_cons (dv 5) da_nil)))) (dss_cons (ds_if (dt_cmp (o_in hr.u1) (dv 4) (de_call (G_law_elders.mono (by decide)) hr (by rfl) T.m_law_elders T.F_law_elders.kp T.b_law_elders (da_cons (dv 2) (da_cons (dv 5) da_nil))) (by rfl)) (dss_one (ds_ret (de_frz (de_cmp (o_eq hr.u64) (de_frz (de_cb (c_repr hr.calm hr.u64) (by rfl) T.z_repr rfl (da_cons (de_frz (dv 7)) da_nil))) (de_frz (de_cb (c_repr hr.calm hr.u64) (by rfl) T.z_repr rfl (da_cons (de_tup (da_cons (de_frz (dv 5)) (da_cons (de_tup da_nil) da_nil))) da_nil))) (nomark _))))) dss_nil) (dss_cons (ds_asg (de_call (G_law_merged.mono (by decide)) hr (by rfl) T.m_law_merged T.F_law_merged.kp T.b_law_merged (da_cons (de_ix hr.u1 (de_ix hr.u1 (dv 2) (de_ix hr.u1 (de_call (G_law_bases.mono (by decide)) hr (by rfl) T.m_law_bases T.F_law_bases.kp T.b_law_bases (da_cons (dv 2) (da_cons (dv 4) (da_cons (dv 5) da_nil)))) de_int)) de_int) (da_cons (de_ix hr.u1 (de_ix hr.u1 (dv 2) (dv 4)) de_int) (da_cons (de_ix hr.u1 (de_ix hr.u1 (dv 2) (dv 5)) de_int) da_nil)))) (dg_tup rfl (dgs_cons (dg_name 6 nd) (dgs_cons (dg_name 8 nd) dgs_nil)))) (dss_cons (ds_expr (de_bm PySem.F.plainAttrs_list PySem.F.slot_list_append PySem.F.type_list_append m_app (dv 2) (da_cons (de_tup (da_cons (de_frz (de_frz (dv 6))) (da_cons (de_tup (da_cons (de_frz (dv 4)) (da_cons (de_frz (dv 5)) da_nil))) da_nil))) da_nil))) (dss_one (ds_ret (de_frz (de_cmp (o_eq hr.u64) (de_frz (de_cb (c_repr hr.calm hr.u64) (by rfl) T.z_repr rfl (da_cons (de_frz (dv 7)) da_nil))) (de_frz (de_cb (c_repr hr.calm hr.u64) (by rfl) T.z_repr rfl (da_cons (de_tup (da_cons (de_frz (de_op o_sub (de_cb c_len (by rfl) T.z_len rfl (da_cons (dv 2) da_nil)) de_int)) (da_cons (de_frz (dv 8)) da_nil))) da_nil))) (nomark _))))))))))))
theorem der_law_stands (T : TX K mg) (G_History_bases : DFn P w K mg base 4 T.a_History_bases T.d_History_bases ["self", "one", "other"] (S_History_bases T.cs)) (G_History_elders : DFn P w K mg base 4 T.a_History_elders T.d_History_elders ["self", "version"] (S_History_elders T.cs)) (G_History_parents : DFn P w K mg base 4 T.a_History_parents T.d_History_parents ["self", "version"] (S_History_parents T.cs)) (G_History_since : DFn P w K mg base 4 T.a_History_since T.d_History_since ["self", "one", "other"] (S_History_since T.cs)) (G_History_table_of : DFn P w K mg base 4 T.a_History_table_of T.d_History_table_of ["self", "version"] (S_History_table_of T.cs)) (G_law_bases : DFn P w K mg base 2 T.a_law_bases T.d_law_bases ["lines", "one", "other"] (S_law_bases T.cs)) (G_law_elders : DFn P w K mg base 1 T.a_law_elders T.d_law_elders ["lines", "version"] (S_law_elders T.cs)) (G_law_pick : DFn P w K mg base 1 T.a_law_pick T.d_law_pick ["tape", "many"] (S_law_pick T.cs)) (cdv : Value) (A : Around) (outer : List Env) (s : Shared) (H : Hp) (E : XK) (hr : RoomG 4 (A.deeper (envOfC "_law_stands" (defScope s_law_stands) s.heap.objs.size T.a_law_stands cdv))) :
    DSs (cxOf CX0 P w K mg base N_law_stands "_law_stands" (defScope s_law_stands) T.a_law_stands cdv A outer s H E).nox (defBody s_law_stands) (W_law_stands T.cs) :=
  have nd := sc_law_stands.nd
  (dss_cons (ds_asg (de_tup (da_cons (de_frz (de_call (G_law_pick.mono (by decide)) hr (by rfl) T.m_law_pick T.F_law_pick.kp T.b_law_pick (da_cons (dv 0) (da_cons (de_cb c_len (by rfl) T.z_len rfl (da_cons (dv 2) da_nil)) da_nil)))) (da_cons (de_frz (de_call (G_law_pick.mono (by decide)) hr (by rfl) T.m_law_pick T.F_law_pick.kp T.b_law_pick (da_cons (dv 0) (da_cons (de_cb c_len (by rfl) T.z_len rfl (da_cons (dv 2) da_nil)) da_nil)))) da_nil))) (dg_tup rfl (dgs_cons (dg_name 3 nd) (dgs_cons (dg_name 4 nd) dgs_nil)))) (dss_cons (ds_if (DW.dt (dw_or (dt_cmp (o_ne hr.u64) (de_frz (de_meth T.c_History T.M_History_table_of (G_History_table_of.mono (by decide)) hr T.b_History_table_of (dv 1) (da_cons (dv 3) da_nil))) (de_frz (de_ix hr.u1 (de_ix hr.u1 (dv 2) (dv 3)) de_int)) (nomark _)) (dw_or1 (dt_cmp (o_ne hr.u64) (de_frz (de_cb (c_repr hr.calm hr.u64) (by rfl) T.z_repr rfl (da_cons (de_frz (de_meth T.c_History T.M_History_parents (G_History_parents.mono (by decide)) hr T.b_History_parents (dv 1) (da_cons (dv 3) da_nil))) da_nil))) (de_frz (de_cb (c_repr hr.calm hr.u64) (by rfl) T.z_repr rfl (da_cons (de_frz (de_ix hr.u1 (de_ix hr.u1 (dv 2) (dv 3)) de_int)) da_nil))) (nomark _))))) (dss_one (ds_ret de_bl)) dss_nil) (dss_cons (ds_asg (de_tup (da_cons (de_frz (de_call (G_law_elders.mono (by decide)) hr (by rfl) T.m_law_elders T.F_law_elders.kp T.b_law_elders (da_cons (dv 2) (da_cons (dv 3) da_nil)))) (da_cons (de_frz (de_call (G_law_elders.mono (by decide)) hr (by rfl) T.m_law_elders T.F_law_elders.kp T.b_law_elders (da_cons (dv 2) (da_cons (dv 4) da_nil)))) da_nil))) (dg_tup rfl (dgs_cons (dg_name 5 nd) (dgs_cons (dg_name 6 nd) dgs_nil)))) (dss_cons (ds_set 7 nd (de_lst (da_cons (de_frz (de_meth T.c_History T.M_History_elders (G_History_elders.mono (by decide)) hr T.b_History_elders (dv 1) (da_cons (dv 3) da_nil))) (da_cons (de_frz (de_meth T.c_History T.M_History_bases (G_History_bases.mono (by decide)) hr T.b_History_bases (dv 1) (da_cons (dv 3) (da_cons (dv 4) da_nil)))) (da_cons (de_frz (de_meth T.c_History T.M_History_bases (G_History_bases.mono (by decide)) hr T.b_History_bases (dv 1) (da_cons (dv 4) (da_cons (dv 3) da_nil)))) (da_cons (de_frz (de_meth T.c_History T.M_History_since (G_History_since.mono (by decide)) hr T.b_History_since (dv 1) (da_cons (dv 3) (da_cons (dv 4) da_nil)))) da_nil)))))) (dss_cons (ds_set 8 nd (de_lst (da_cons (de_frz (de_ct c_tuple (by rfl) T.z_tuple rfl (da_cons (de_cb (c_sorted rfl) (by rfl) T.z_sorted rfl (da_cons (de_lc (own := [("here", 9)]) rfl nd (di_keys (dv 5)) (blkOk_by (own := [("here", 9)]) (N := N_law_stands) (sc := defScope s_law_stands) (by decide +kernel)) (fun _ _ _ _ _ => (dgw_name 9 nd (by decide))) (fun _ _ _ _ _ => (dts_one (dt_cmp (o_ne hr.u64) (de_frz (dv 9)) (de_frz (dv 3)) (nomark _)))) (fun _ _ _ _ _ => (de_frz (dv 9)))) da_nil)) da_nil))) (da_cons (de_frz (de_call (G_law_bases.mono (by decide)) hr (by rfl) T.m_law_bases T.F_law_bases.kp T.b_law_bases (da_cons (dv 2) (da_cons (dv 3) (da_cons (dv 4) da_nil))))) da_nil)))) (dss_cons (ds_set 8 nd (de_op o_add (dv 8) (de_lst (da_cons (de_frz (de_call (G_law_bases.mono (by decide)) hr (by rfl) T.m_law_bases T.F_law_bases.kp T.b_law_bases (da_cons (dv 2) (da_cons (dv 4) (da_cons (dv 3) da_nil))))) (da_cons (de_frz (de_ct c_tuple (by rfl) T.z_tuple rfl (da_cons (de_cb (c_sorted rfl) (by rfl) T.z_sorted rfl (da_cons (de_lc (own := [("here", 9)]) rfl nd (di_keys (dv 6)) (blkOk_by (own := [("here", 9)]) (N := N_law_stands) (sc := defScope s_law_stands) (by decide +kernel)) (fun _ _ _ _ _ => (dgw_name 9 nd (by decide))) (fun _ _ _ _ _ => (dts_one (dt_cmp (o_notIn hr.u1) (dv 9) (dv 5) (by rfl)))) (fun _ _ _ _ _ => (de_frz (dv 9)))) da_nil)) da_nil))) da_nil))))) (dss_cons (ds_if (dt_cmp (o_ne hr.u64) (de_frz (de_cb (c_repr hr.calm hr.u64) (by rfl) T.z_repr rfl (da_cons (de_frz (dv 7)) da_nil))) (de_frz (de_cb (c_repr hr.calm hr.u64) (by rfl) T.z_repr rfl (da_cons (de_frz (dv 8)) da_nil))) (nomark _)) (dss_one (ds_ret de_bl)) dss_nil) (dss_cons (ds_set 10 nd (de_meth T.c_History T.M_History_table_of (G_History_table_of.mono (by decide)) hr T.b_History_table_of (dv 1) (da_cons (dv 3) da_nil))) (dss_cons (ds_asg de_int (dg_sub hr.u1 (dv 10) de_str)) (dss_one (ds_ret (de_frz (de_cmp (o_eq hr.u64) (de_frz (de_meth T.c_History T.M_History_table_of (G_History_table_of.mono (by decide)) hr T.b_History_table_of (dv 1) (da_cons (dv 3) da_nil))) (de_frz (de_ix hr.u1 (de_ix hr.u1 (dv 2) (dv 3)) de_int)) (nomark _))))))))))))))
theorem der_law_known_right (T : TX K mg) (G_History___init__ : DFn P w K mg base 6 T.a_History___init__ T.d_History___init__ ["self", "table"] (S_History___init__ T.cs)) (G_History_bases : DFn P w K mg base 4 T.a_History_bases T.d_History_bases ["self", "one", "other"] (S_History_bases T.cs)) (G_History_commit : DFn P w K mg base 6 T.a_History_commit T.d_History_commit ["self", "version", "table"] (S_History_commit T.cs)) (G_History_elders : DFn P w K mg base 4 T.a_History_elders T.d_History_elders ["self", "version"] (S_History_elders T.cs)) (G_History_merge : DFn P w K mg base 4 T.a_History_merge T.d_History_merge ["self", "one", "other"] (S_History_merge T.cs)) (G_History_parents : DFn P w K mg base 4 T.a_History_parents T.d_History_parents ["self", "version"] (S_History_parents T.cs)) (G_History_since : DFn P w K mg base 4 T.a_History_since T.d_History_since ["self", "one", "other"] (S_History_since T.cs)) (G_History_table_of : DFn P w K mg base 4 T.a_History_table_of T.d_History_table_of ["self", "version"] (S_History_table_of T.cs)) (cdv : Value) (A : Around) (outer : List Env) (s : Shared) (H : Hp) (E : XK) (hr : RoomG 7 (A.deeper (envOfC "_law_known_right" (defScope s_law_known_right) s.heap.objs.size T.a_law_known_right cdv))) :
    DSs (cxOf CX0 P w K mg base N_law_known_right "_law_known_right" (defScope s_law_known_right) T.a_law_known_right cdv A outer s H E).nox (defBody s_law_known_right) (W_law_known_right T.cs) :=
  have nd := sc_law_known_right.nd
  (dss_cons (ds_set 0 nd (de_make T.M_History (FnG.mono (k := 6) G_History___init__ (by decide)) hr (by rfl) T.m_History T.b_History___init__ (da_cons (de_disp (dp_cons de_str de_int dp_nil)) da_nil))) (dss_cons (ds_set 1 nd (de_lst (da_cons (de_frz (de_meth T.c_History T.M_History_commit (G_History_commit.mono (by decide)) hr T.b_History_commit (dv 0) (da_cons de_int (da_cons (de_disp (dp_cons de_str de_int dp_nil)) da_nil)))) (da_cons (de_frz (de_meth T.c_History T.M_History_commit (G_History_commit.mono (by decide)) hr T.b_History_commit (dv 0) (da_cons de_int (da_cons (de_disp (dp_cons de_str de_int (dp_cons de_str de_int dp_nil))) da_nil)))) (da_cons (de_frz (de_meth T.c_History T.M_History_merge (G_History_merge.mono (by decide)) hr T.b_History_merge (dv 0) (da_cons de_int (da_cons de_int da_nil)))) da_nil))))) (dss_cons (ds_expr (de_bm PySem.F.plainAttrs_list PySem.F.slot_list_append PySem.F.type_list_append m_app (dv 1) (da_cons (de_frz (de_meth T.c_History T.M_History_merge (G_History_merge.mono (by decide)) hr T.b_History_merge (dv 0) (da_cons de_int (da_cons de_int da_nil)))) da_nil))) (dss_cons (ds_set 1 nd (de_op o_add (dv 1) (de_lst (da_cons (de_frz (de_meth T.c_History T.M_History_table_of (G_History_table_of.mono (by decide)) hr T.b_History_table_of (dv 0) (da_cons de_int da_nil))) (da_cons (de_frz (de_meth T.c_History T.M_History_bases (G_History_bases.mono (by decide)) hr T.b_History_bases (dv 0) (da_cons de_int (da_cons de_int da_nil)))) (da_cons (de_frz (de_meth T.c_History T.M_History_commit (G_History_commit.mono (by decide)) hr T.b_History_commit (dv 0) (da_cons de_int (da_cons (de_disp (dp_cons de_str de_int (dp_cons de_str de_int dp_nil))) da_nil)))) da_nil)))))) (dss_cons (ds_set 1 nd (de_op o_add (dv 1) (de_lst (da_cons (de_frz (de_meth T.c_History T.M_History_commit (G_History_commit.mono (by decide)) hr T.b_History_commit (dv 0) (da_cons de_int (da_cons (de_disp (dp_cons de_str de_int dp_nil)) da_nil)))) (da_cons (de_frz (de_meth T.c_History T.M_History_merge (G_History_merge.mono (by decide)) hr T.b_History_merge (dv 0) (da_cons de_int (da_cons de_int da_nil)))) (da_cons (de_frz (de_meth T.c_History T.M_History_table_of (G_History_table_of.mono (by decide)) hr T.b_History_table_of (dv 0) (da_cons de_int da_nil))) (da_cons (de_frz (de_meth T.c_History T.M_History_parents (G_History_parents.mono (by decide)) hr T.b_History_parents (dv 0) (da_cons de_int da_nil))) da_nil))))))) (dss_cons (ds_set 1 nd (de_op o_add (dv 1) (de_lst (da_cons (de_frz (de_meth T.c_History T.M_History_elders (G_History_elders.mono (by decide)) hr T.b_History_elders (dv 0) (da_cons de_int da_nil))) (da_cons (de_frz (de_meth T.c_History T.M_History_since (G_History_since.mono (by decide)) hr T.b_History_since (dv 0) (da_cons de_int (da_cons de_int da_nil)))) (da_cons (de_frz (de_meth T.c_History T.M_History_merge (G_History_merge.mono (by decide)) hr T.b_History_merge (dv 0) (da_cons de_int (da_cons de_int da_nil)))) (da_cons (de_frz (de_meth T.c_History T.M_History_merge (G_History_merge.mono (by decide)) hr T.b_History_merge (dv 0) (da_cons de_int (da_cons de_int da_nil)))) da_nil))))))) (dss_cons (ds_expr (de_bm PySem.F.plainAttrs_list PySem.F.slot_list_append PySem.F.type_list_append m_app (dv 1) (da_cons (de_frz (de_meth T.c_History T.M_History_bases (G_History_bases.mono (by decide)) hr T.b_History_bases (dv 0) (da_cons de_int (da_cons de_int da_nil)))) da_nil))) (dss_cons (ds_set 2 nd (de_lst (da_cons de_int (da_cons de_int (da_cons (de_tup (da_cons de_int (da_cons (de_tup da_nil) da_nil))) (da_cons (de_tup (da_cons de_int (da_cons (de_tup da_nil) da_nil))) (da_cons (de_frz (de_disp (dp_cons de_str de_int (dp_cons de_str de_int dp_nil)))) (da_cons (de_tup (da_cons de_int (da_cons de_int da_nil))) (da_cons de_int (da_cons de_int (da_cons (de_tup (da_cons de_int (da_cons (de_tup (da_cons de_str da_nil)) da_nil))) (da_cons (de_frz (de_disp (dp_cons de_str de_int dp_nil))) (da_cons (de_tup (da_cons de_int (da_cons de_int da_nil))) da_nil))))))))))))) (dss_cons (ds_set 2 nd (de_op o_add (dv 2) (de_lst (da_cons (de_tup (da_cons de_int (da_cons de_int (da_cons de_int (da_cons de_int (da_cons de_int (da_cons de_int (da_cons de_int da_nil)))))))) (da_cons (de_tup (da_cons de_int (da_cons de_int (da_cons de_int da_nil)))) (da_cons (de_tup (da_cons de_int (da_cons (de_tup da_nil) da_nil))) (da_cons (de_tup (da_cons de_int (da_cons (de_tup da_nil) da_nil))) (da_cons (de_tup (da_cons de_int da_nil)) da_nil)))))))) (dss_one (ds_ret (de_frz (de_cmp (o_eq hr.u64) (de_frz (dv 1)) (de_frz (dv 2)) (nomark _))))))))))))))
theorem der_law (T : TX K mg) (G_History___init__ : DFn P w K mg base 6 T.a_History___init__ T.d_History___init__ ["self", "table"] (S_History___init__ T.cs)) (G_History_bases : DFn P w K mg base 4 T.a_History_bases T.d_History_bases ["self", "one", "other"] (S_History_bases T.cs)) (G_History_table_of : DFn P w K mg base 4 T.a_History_table_of T.d_History_table_of ["self", "version"] (S_History_table_of T.cs)) (G_law_grown : DFn P w K mg base 7 T.a_law_grown T.d_law_grown ["tape", "history", "lines", "names"] (S_law_grown T.cs)) (G_law_known_right : DFn P w K mg base 8 T.a_law_known_right T.d_law_known_right [] (S_law_known_right T.cs)) (G_law_pick : DFn P w K mg base 1 T.a_law_pick T.d_law_pick ["tape", "many"] (S_law_pick T.cs)) (G_law_stands : DFn P w K mg base 5 T.a_law_stands T.d_law_stands ["tape", "history", "lines"] (S_law_stands T.cs)) (G_law_table : DFn P w K mg base 3 T.a_law_table T.d_law_table ["tape", "names"] (S_law_table T.cs)) (G_merged : DFn P w K mg base 6 T.a_merged T.d_merged ["base", "one", "other"] (S_merged T.cs)) (cdv : Value) (A : Around) (outer : List Env) (s : Shared) (H : Hp) (E : XK) (hr : RoomG 8 (A.deeper (envOfC "law" (defScope s_law) s.heap.objs.size T.a_law cdv))) :
    DSs (cxOf CX0 P w K mg base N_law "law" (defScope s_law) T.a_law cdv A outer s H E).nox ((defBody s_law).tail) (W_law T.cs) :=
  have nd := sc_law.nd
  (dss_cons (ds_if (dt_not (dt_val (de_call0 (G_law_known_right.mono (by decide)) hr (by rfl) T.m_law_known_right T.F_law_known_right.kp T.b_law_known_right))) (dss_one (ds_ret de_bl)) dss_nil) (dss_cons (ds_set 2 nd (de_frz (de_sl (de_lst (da_cons de_str (da_cons de_str (da_cons de_str (da_cons de_str da_nil))))) do_none (do_some (de_op o_add de_int (de_call (G_law_pick.mono (by decide)) hr (by rfl) T.m_law_pick T.F_law_pick.kp T.b_law_pick (da_cons (dv 1) (da_cons de_int da_nil)))))))) (dss_cons (ds_set 3 nd (de_call (G_law_table.mono (by decide)) hr (by rfl) T.m_law_table T.F_law_table.kp T.b_law_table (da_cons (dv 1) (da_cons (de_frz (dv 2)) da_nil)))) (dss_cons (ds_par 4 5 rfl nd (da_cons (de_make T.M_History (FnG.mono (k := 7) G_History___init__ (by decide)) hr (by rfl) T.m_History T.b_History___init__ (da_cons (dv 3) da_nil)) (da_cons (de_lst (da_cons (de_tup (da_cons (de_frz (de_ct (c_dict2 rfl) (by rfl) T.z_dict rfl (da_cons (de_items rfl (dv 3) (by rfl) T.z_list) da_nil))) (da_cons (de_tup da_nil) da_nil))) da_nil)) da_nil))) (dss_cons (ds_asg de_int (dg_sub hr.u1 (dv 3) de_str)) (dss_cons (ds_for PassesOwn.never rfl (di_range1 (by rfl) T.z_range (da_cons (de_op o_add de_int (de_call (G_law_pick.mono (by decide)) hr (by rfl) T.m_law_pick T.F_law_pick.kp T.b_law_pick (da_cons (dv 1) (da_cons de_int da_nil)))) da_nil)) (dg_name 6 nd) (dss_one (ds_if (DW.dt (dw_or (dt_not (dt_val (de_call (G_law_grown.mono (by decide)) hr (by rfl) T.m_law_grown T.F_law_grown.kp T.b_law_grown (da_cons (dv 1) (da_cons (dv 4) (da_cons (dv 5) (da_cons (de_frz (dv 2)) da_nil))))))) (dw_or1 (dt_not (dt_val (de_call (G_law_stands.mono (by decide)) hr (by rfl) T.m_law_stands T.F_law_stands.kp T.b_law_stands (da_cons (dv 1) (da_cons (dv 4) (da_cons (dv 5) da_nil))))))))) (dss_one (ds_ret de_bl)) dss_nil))) (dss_cons (ds_for PassesOwn.never rfl (di_range1 (by rfl) T.z_range (da_cons (de_cb c_len (by rfl) T.z_len rfl (da_cons (dv 5) da_nil)) da_nil)) (dg_name 7 nd) (dss_cons (ds_if (dt_cmp (o_ne hr.u64) (de_frz (de_meth T.c_History T.M_History_table_of (G_History_table_of.mono (by decide)) hr T.b_History_table_of (dv 4) (da_cons (dv 7) da_nil))) (de_frz (de_ix hr.u1 (de_ix hr.u1 (dv 5) (dv 7)) de_int)) (nomark _)) (dss_one (ds_ret de_bl)) dss_nil) (dss_one (ds_if (dt_cmp (o_eq hr.u64) (de_frz (de_cb c_len (by rfl) T.z_len rfl (da_cons (de_ix hr.u1 (de_ix hr.u1 (dv 5) (dv 7)) de_int) da_nil))) de_int (nomark _)) (dss_cons (ds_asg (de_ix hr.u1 (de_ix hr.u1 (dv 5) (dv 7)) de_int) (dg_tup rfl (dgs_cons (dg_name 8 nd) (dgs_cons (dg_name 9 nd) dgs_nil)))) (dss_cons (ds_set 10 nd (de_frz (de_meth T.c_History T.M_History_table_of (G_History_table_of.mono (by decide)) hr T.b_History_table_of (dv 4) (da_cons (de_ix hr.u1 (de_meth T.c_History T.M_History_bases (G_History_bases.mono (by decide)) hr T.b_History_bases (dv 4) (da_cons (dv 8) (da_cons (dv 9) da_nil))) de_int) da_nil)))) (dss_one (ds_if (dt_cmp (o_ne hr.u64) (de_frz (de_ix hr.u1 (de_call (G_merged.mono (by decide)) hr (by rfl) T.m_merged T.F_merged.kp T.b_merged (da_cons (de_frz (dv 10)) (da_cons (de_frz (de_meth T.c_History T.M_History_table_of (G_History_table_of.mono (by decide)) hr T.b_History_table_of (dv 4) (da_cons (dv 8) da_nil))) (da_cons (de_frz (de_meth T.c_History T.M_History_table_of (G_History_table_of.mono (by decide)) hr T.b_History_table_of (dv 4) (da_cons (dv 9) da_nil))) da_nil)))) de_int)) (de_frz (de_ix hr.u1 (de_ix hr.u1 (dv 5) (dv 7)) de_int)) (nomark _)) (dss_one (ds_ret de_bl)) dss_nil)))) dss_nil)))) (dss_one (ds_ret de_bl)))))))))
end
end KH

set_option Elab.async false
set_option linter.all false
set_option maxRecDepth 100000
/-! KH: the tape -/
namespace KH
open PySem PySem.Spec PyProof.Rows L2 TD
def spTape (K : PySem.W.Frag) : Sp := fun vs H Q _ => ∃ (a : Addr) (ns : List Int), vs = [.ref a] ∧ SqL K H a (ns.map V.int) ∧ ns.length ≤ 63 ∧
  ∀ (H' : Hp) (tp cp : Addr) (cells : List Int) (s : Int), (∀ x ∈ cells, 0 ≤ x) → cp ≠ tp → H' cp = some (.lst (cells.map V.int)) → H' tp = some (.lst [.ref cp, .int 0, .int 0, .int s, .int 0]) → Q (.ref tp) H'
variable {P : Program} {w : World} {K : PySem.W.Frag} {mg : Str → Option Value} {base : Heap}
theorem cut_ints (ns : List Int) (lo hi : Option Int) : ∃ ms : List Int, cutV (ns.map V.int) lo hi = ms.map V.int ∧ ms.length ≤ ns.length := by
  refine ⟨(ns.drop (HT.sIx ns.length 0 lo)).take (HT.sIx ns.length ns.length hi - HT.sIx ns.length 0 lo), ?_, ?_⟩
  · unfold cutV; rw [List.length_map, ← List.map_drop, ← List.map_take]
  · rw [List.length_take, List.length_drop]; omega
theorem ok_law_tape (T : TX K mg) (zA : mg "abs" = none) : FnG P w K mg base CX0 1 T.a_law_tape T.d_law_tape ["script"] (spTape K) := by
  refine fnG_of T.F_law_tape sc_law_tape (fun vs H Q E h => by obtain ⟨a, ns, rfl, _⟩ := h; rfl) (fun cdv A outer s H vs Q E hr h => ?_)
  obtain ⟨a, ns, rfl, hS, hlen, k⟩ := h
  have nd := sc_law_tape.nd
  refine ⟨_, pss_cons (ps_setLc (i := 1) (own := [("cell", 2)]) (g := gName 2) (tt := tYes) (by rfl) nd rfl rfl (sw_true rfl rfl rfl (by decide +kernel)) (pi_list (pe_slice sl_list (pv 0) po_none (po_some pe_int)))
    (blkOk_by (own := [("cell", 2)]) (N := N_law_tape) (sc := defScope s_law_tape) (by decide +kernel)) (fun _ _ _ _ _ => pg_name (i := 2) nd rfl (Or.inl rfl)) (fun _ _ _ _ _ => pts_nil)
    (fun _ _ _ _ _ => pe_callB call_abs (by rfl) zA PyProof.Rows.boot_abs (pa_cons (pe_callTy call_int1 (by rfl) T.z_int PyProof.Rows.boot_int (pa_cons (pv 2) pa_nil)) pa_nil)))
    (pss_one (ps_ret (pe_lst (pa_cons (pv 1) (pa_cons pe_int (pa_cons pe_int (pa_cons (pe_op op_add pe_int (pe_callB call_len_seq (by rfl) T.z_len PySem.boot_len (pa_cons (pv 1) pa_nil))) (pa_cons pe_int pa_nil)))))))), ?_⟩
  obtain ⟨ms, em, hm⟩ := cut_ints ns none (some 63)
  refine ⟨_, rfl, ?_⟩
  refine ⟨63, rfl, a, _, rfl, hS, fun p hp => ⟨p, rfl, ⟨_, SqL.of upd_same⟩, fun D hD => ?_⟩⟩
  have npD : p ≠ D := fun e => by rw [← e, upd_same] at hD; cases hD
  rw [em] at hD ⊢
  refine lc_list (K := K) (a := p) (xs := ms.map V.int) (fun i H' => H' p = some (.lst (ms.map V.int)) ∧ ∃ cells : List Int, cells.length = i ∧ (∀ x ∈ cells, 0 ≤ x) ∧ H' D = some (.lst (cells.map V.int)))
    ⟨by rw [upd_ne npD, upd_same], [], rfl, by simp, upd_same⟩ (fun i H' _ h => SqL.of h.1) ?_ ?_
  · rintro i y H' hi ⟨hp', cells, hc, h0, hD'⟩
    have hi2 : i < ms.length := by
      have q := (List.getElem?_eq_some_iff.mp hi).1
      rw [List.length_map] at q
      exact q
    obtain ⟨u, rfl⟩ : ∃ u, y = V.int u := by
      rw [List.getElem?_map] at hi
      cases e : ms[i]? with
      | none => rw [e] at hi; cases hi
      | some u => rw [e] at hi; exact ⟨u, (Option.some.inj hi).symm⟩
    refine ⟨rfl, ?_⟩
    unfold tYes
    dsimp only
    rw [if_pos rfl]
    refine ⟨_, rfl, .inl ⟨u, rfl, u, rfl, ?_⟩⟩
    refine ⟨_, hD', by rw [List.length_map, hc, sizeLine_eq]; omega, ?_⟩
    refine ⟨by rw [upd_ne npD]; exact hp', cells ++ [if u < 0 then -u else u], by rw [List.length_append, hc]; rfl, ?_, by rw [upd_same, List.map_append]; rfl⟩
    intro x hx
    rcases List.mem_append.mp hx with q | q
    · exact h0 x q
    · rw [List.mem_singleton.mp q]; split <;> omega
  · rintro H' ⟨hp', cells, hc, h0, hD'⟩
    refine ⟨_, rfl, _, rfl, D, _, rfl, .inl (SqL.of hD'), _, _, rfl, rfl, (by show 5 ≤ _; decide), fun tp htp => ?_⟩
    have nD : D ≠ tp := fun e => by rw [← e, hD'] at htp; cases htp
    exact k _ tp D cells _ h0 nD (by rw [upd_ne nD, hD']) upd_same
end KH

set_option Elab.async false
set_option linter.all false
set_option maxRecDepth 100000
/-! KH: the defs keep their promises -/
namespace KH
open PySem PySem.Spec PyProof.Rows L2 TD
variable {P : Program} {w : World} {K : PySem.W.Frag} {mg : Str → Option Value} {base : Heap}
theorem len_is_integer {CS : CSt} {ds : List D} {O : OO} {Q : D → OO → Prop} (h : S_is_integer CS ds O Q) : ds.length = 1 := by obtain ⟨_, rfl, _⟩ := h; rfl
theorem len_is_within {CS : CSt} {ds : List D} {O : OO} {Q : D → OO → Prop} (h : S_is_within CS ds O Q) : ds.length = 3 := by obtain ⟨_, _, _, rfl, _⟩ := h; rfl
theorem len_is_name {CS : CSt} {ds : List D} {O : OO} {Q : D → OO → Prop} (h : S_is_name CS ds O Q) : ds.length = 1 := by obtain ⟨_, _, rfl, _⟩ := h; rfl
theorem len_is_word {CS : CSt} {ds : List D} {O : OO} {Q : D → OO → Prop} (h : S_is_word CS ds O Q) : ds.length = 1 := by rcases h with ⟨_, rfl, _⟩ | ⟨_, _, rfl, _⟩ <;> rfl
theorem len_is_value {CS : CSt} {ds : List D} {O : OO} {Q : D → OO → Prop} (h : S_is_value CS ds O Q) : ds.length = 1 := by obtain ⟨_, _, rfl, _⟩ := h; rfl
theorem len_is_flat_table {CS : CSt} {ds : List D} {O : OO} {Q : D → OO → Prop} (h : S_is_flat_table CS ds O Q) : ds.length = 1 := by obtain ⟨_, _, rfl, _⟩ := h; rfl
theorem len_check_flat {CS : CSt} {ds : List D} {O : OO} {Q : D → OO → Prop} (h : S_check_flat CS ds O Q) : ds.length = 1 := by obtain ⟨_, _, rfl, _⟩ := h; rfl
theorem len_all_names {CS : CSt} {ds : List D} {O : OO} {Q : D → OO → Prop} (h : S_all_names CS ds O Q) : ds.length = 1 := by obtain ⟨_, _, _, _, rfl, _⟩ := h; rfl
theorem len_merged_value {CS : CSt} {ds : List D} {O : OO} {Q : D → OO → Prop} (h : S_merged_value CS ds O Q) : ds.length = 3 := by obtain ⟨_, _, _, rfl, _⟩ := h; rfl
theorem len_raw_merged {CS : CSt} {ds : List D} {O : OO} {Q : D → OO → Prop} (h : S_raw_merged CS ds O Q) : ds.length = 3 := by obtain ⟨_, _, _, rfl, _⟩ := h; rfl
theorem len_merged {CS : CSt} {ds : List D} {O : OO} {Q : D → OO → Prop} (h : S_merged CS ds O Q) : ds.length = 3 := len_raw_merged h
theorem len_History___init__ {CS : CSt} {ds : List D} {O : OO} {Q : D → OO → Prop} (h : S_History___init__ CS ds O Q) : ds.length = 2 := by obtain ⟨_, _, _, rfl, _⟩ := h; rfl
theorem len_History_check_version {CS : CSt} {ds : List D} {O : OO} {Q : D → OO → Prop} (h : S_History_check_version CS ds O Q) : ds.length = 2 := by obtain ⟨_, _, _, _, _, rfl, _⟩ := h; rfl
theorem len_History_enter {CS : CSt} {ds : List D} {O : OO} {Q : D → OO → Prop} (h : S_History_enter CS ds O Q) : ds.length = 3 := by obtain ⟨_, _, _, _, _, _, _, rfl, _⟩ := h; rfl
theorem len_History_commit {CS : CSt} {ds : List D} {O : OO} {Q : D → OO → Prop} (h : S_History_commit CS ds O Q) : ds.length = 3 := by obtain ⟨_, _, _, _, _, _, _, rfl, _⟩ := h; rfl
theorem len_History_table_of {CS : CSt} {ds : List D} {O : OO} {Q : D → OO → Prop} (h : S_History_table_of CS ds O Q) : ds.length = 2 := by obtain ⟨_, _, _, _, _, _, rfl, _⟩ := h; rfl
theorem len_History_parents {CS : CSt} {ds : List D} {O : OO} {Q : D → OO → Prop} (h : S_History_parents CS ds O Q) : ds.length = 2 := by obtain ⟨_, _, _, _, _, _, rfl, _⟩ := h; rfl
theorem len_History_line_of {CS : CSt} {ds : List D} {O : OO} {Q : D → OO → Prop} (h : S_History_line_of CS ds O Q) : ds.length = 2 := by obtain ⟨_, _, _, _, _, rfl, _⟩ := h; rfl
theorem len_History_elders {CS : CSt} {ds : List D} {O : OO} {Q : D → OO → Prop} (h : S_History_elders CS ds O Q) : ds.length = 2 := by obtain ⟨_, _, _, _, _, rfl, _⟩ := h; rfl
theorem len_History_raw_bases {CS : CSt} {ds : List D} {O : OO} {Q : D → OO → Prop} (h : S_History_raw_bases CS ds O Q) : ds.length = 3 := by obtain ⟨_, _, _, _, _, _, rfl, _⟩ := h; rfl
theorem len_History_bases {CS : CSt} {ds : List D} {O : OO} {Q : D → OO → Prop} (h : S_History_bases CS ds O Q) : ds.length = 3 := by obtain ⟨_, _, _, _, _, _, rfl, _⟩ := h; rfl
theorem len_History_merge {CS : CSt} {ds : List D} {O : OO} {Q : D → OO → Prop} (h : S_History_merge CS ds O Q) : ds.length = 3 := by obtain ⟨_, _, _, _, _, _, rfl, _⟩ := h; rfl
theorem len_History_since {CS : CSt} {ds : List D} {O : OO} {Q : D → OO → Prop} (h : S_History_since CS ds O Q) : ds.length = 3 := by obtain ⟨_, _, _, _, _, _, rfl, _⟩ := h; rfl
theorem len_law_pick {CS : CSt} {ds : List D} {O : OO} {Q : D → OO → Prop} (h : S_law_pick CS ds O Q) : ds.length = 2 := by obtain ⟨_, _, rfl, _⟩ := h; rfl
theorem len_law_any {CS : CSt} {ds : List D} {O : OO} {Q : D → OO → Prop} (h : S_law_any CS ds O Q) : ds.length = 2 := by obtain ⟨_, _, _, rfl, _⟩ := h; rfl
theorem len_law_table {CS : CSt} {ds : List D} {O : OO} {Q : D → OO → Prop} (h : S_law_table CS ds O Q) : ds.length = 2 := by obtain ⟨_, _, rfl, _⟩ := h; rfl
theorem len_law_turned {CS : CSt} {ds : List D} {O : OO} {Q : D → OO → Prop} (h : S_law_turned CS ds O Q) : ds.length = 3 := by obtain ⟨_, _, _, rfl, _⟩ := h; rfl
theorem len_law_merged {CS : CSt} {ds : List D} {O : OO} {Q : D → OO → Prop} (h : S_law_merged CS ds O Q) : ds.length = 3 := len_raw_merged h
theorem len_law_elders {CS : CSt} {ds : List D} {O : OO} {Q : D → OO → Prop} (h : S_law_elders CS ds O Q) : ds.length = 2 := by obtain ⟨_, _, _, rfl, _⟩ := h; rfl
theorem len_law_bases {CS : CSt} {ds : List D} {O : OO} {Q : D → OO → Prop} (h : S_law_bases CS ds O Q) : ds.length = 3 := by obtain ⟨_, _, _, _, rfl, _⟩ := h; rfl
theorem len_law_grown {CS : CSt} {ds : List D} {O : OO} {Q : D → OO → Prop} (h : S_law_grown CS ds O Q) : ds.length = 4 := by obtain ⟨_, _, _, _, _, _, _, rfl, _⟩ := h; rfl
theorem len_law_stands {CS : CSt} {ds : List D} {O : OO} {Q : D → OO → Prop} (h : S_law_stands CS ds O Q) : ds.length = 3 := by obtain ⟨_, _, _, _, _, _, rfl, _⟩ := h; rfl
theorem len_law_known_right {CS : CSt} {ds : List D} {O : OO} {Q : D → OO → Prop} (h : S_law_known_right CS ds O Q) : ds.length = 0 := by obtain ⟨rfl, _⟩ := h; rfl
theorem ok_is_integer (T : TX K mg) : DFn P w K mg base 1 T.a_is_integer T.d_is_integer ["thing"] (S_is_integer T.cs) :=
  fn_ok T.F_is_integer sc_is_integer (fun ds O Q h => len_is_integer h) fun cdv A outer s H E hr => ⟨_, der_is_integer T  cdv A outer s H E hr, fun ds O Q h => law_is_integer h⟩
theorem ok_is_within (T : TX K mg) : DFn P w K mg base 2 T.a_is_within T.d_is_within ["thing", "least", "most"] (S_is_within T.cs) :=
  fn_ok T.F_is_within sc_is_within (fun ds O Q h => len_is_within h) fun cdv A outer s H E hr => ⟨_, der_is_within T (ok_is_integer T) cdv A outer s H E hr, fun ds O Q h => law_is_within h⟩
theorem ok_is_name (T : TX K mg) : DFn P w K mg base 1 T.a_is_name T.d_is_name ["thing"] (S_is_name T.cs) :=
  fn_ok T.F_is_name sc_is_name (fun ds O Q h => len_is_name h) fun cdv A outer s H E hr => ⟨_, der_is_name T  cdv A outer s H E hr, fun ds O Q h => law_is_name h⟩
theorem ok_is_word (T : TX K mg) : DFn P w K mg base 1 T.a_is_word T.d_is_word ["thing"] (S_is_word T.cs) :=
  fn_ok T.F_is_word sc_is_word (fun ds O Q h => len_is_word h) fun cdv A outer s H E hr => ⟨_, der_is_word T  cdv A outer s H E hr, fun ds O Q h => law_is_word h⟩
theorem ok_is_value (T : TX K mg) : DFn P w K mg base 3 T.a_is_value T.d_is_value ["thing"] (S_is_value T.cs) :=
  fn_ok T.F_is_value sc_is_value (fun ds O Q h => len_is_value h) fun cdv A outer s H E hr => ⟨_, der_is_value T (ok_is_within T) (ok_is_word T) cdv A outer s H E hr, fun ds O Q h => law_is_value h⟩
theorem ok_is_flat_table (T : TX K mg) : DFn P w K mg base 4 T.a_is_flat_table T.d_is_flat_table ["thing"] (S_is_flat_table T.cs) :=
  fn_ok T.F_is_flat_table sc_is_flat_table (fun ds O Q h => len_is_flat_table h) fun cdv A outer s H E hr => ⟨_, der_is_flat_table T (ok_is_name T) (ok_is_value T) cdv A outer s H E hr, fun ds O Q h => law_is_flat_table h⟩
theorem ok_check_flat (T : TX K mg) : DFn P w K mg base 5 T.a_check_flat T.d_check_flat ["table"] (S_check_flat T.cs) :=
  fn_ok T.F_check_flat sc_check_flat (fun ds O Q h => len_check_flat h) fun cdv A outer s H E hr => ⟨_, der_check_flat T (ok_is_flat_table T) cdv A outer s H E hr, fun ds O Q h => law_check_flat h⟩
theorem ok_all_names (T : TX K mg) : DFn P w K mg base 1 T.a_all_names T.d_all_names ["tables"] (S_all_names T.cs) :=
  fn_ok T.F_all_names sc_all_names (fun ds O Q h => len_all_names h) fun cdv A outer s H E hr => ⟨_, der_all_names T  cdv A outer s H E hr, fun ds O Q h => law_all_names h⟩
theorem ok_merged_value (T : TX K mg) : DFn P w K mg base 1 T.a_merged_value T.d_merged_value ["old", "first", "second"] (S_merged_value T.cs) :=
  fn_ok T.F_merged_value sc_merged_value (fun ds O Q h => len_merged_value h) fun cdv A outer s H E hr => ⟨_, der_merged_value T  cdv A outer s H E hr, fun ds O Q h => law_merged_value h⟩
theorem ok_raw_merged (T : TX K mg) : DFn P w K mg base 2 T.a_raw_merged T.d_raw_merged ["base", "one", "other"] (S_raw_merged T.cs) :=
  fn_ok T.F_raw_merged sc_raw_merged (fun ds O Q h => len_raw_merged h) fun cdv A outer s H E hr => ⟨_, der_raw_merged T (ok_all_names T) (ok_merged_value T) cdv A outer s H E hr, fun ds O Q h => law_raw_merged h⟩
theorem ok_merged (T : TX K mg) : DFn P w K mg base 6 T.a_merged T.d_merged ["base", "one", "other"] (S_merged T.cs) :=
  fn_ok T.F_merged sc_merged (fun ds O Q h => len_merged h) fun cdv A outer s H E hr => ⟨_, der_merged T (ok_check_flat T) (ok_raw_merged T) cdv A outer s H E hr, fun ds O Q h => law_merged h⟩
theorem ok_History___init__ (T : TX K mg) : DFn P w K mg base 6 T.a_History___init__ T.d_History___init__ ["self", "table"] (S_History___init__ T.cs) :=
  fn_ok T.F_History___init__ sc_History___init__ (fun ds O Q h => len_History___init__ h) fun cdv A outer s H E hr => ⟨_, der_History___init__ T (ok_check_flat T) cdv A outer s H E hr, fun ds O Q h => law_History___init__ h⟩
theorem ok_History_check_version (T : TX K mg) : DFn P w K mg base 3 T.a_History_check_version T.d_History_check_version ["self", "version"] (S_History_check_version T.cs) :=
  fn_ok T.F_History_check_version sc_History_check_version (fun ds O Q h => len_History_check_version h) fun cdv A outer s H E hr => ⟨_, der_History_check_version T (ok_is_within T) cdv A outer s H E hr, fun ds O Q h => law_History_check_version h⟩
theorem ok_History_enter (T : TX K mg) : DFn P w K mg base 1 T.a_History_enter T.d_History_enter ["self", "table", "parents"] (S_History_enter T.cs) :=
  fn_ok T.F_History_enter sc_History_enter (fun ds O Q h => len_History_enter h) fun cdv A outer s H E hr => ⟨_, der_History_enter T  cdv A outer s H E hr, fun ds O Q h => law_History_enter h⟩
theorem ok_History_commit (T : TX K mg) : DFn P w K mg base 6 T.a_History_commit T.d_History_commit ["self", "version", "table"] (S_History_commit T.cs) :=
  fn_ok T.F_History_commit sc_History_commit (fun ds O Q h => len_History_commit h) fun cdv A outer s H E hr => ⟨_, der_History_commit T (ok_History_check_version T) (ok_History_enter T) (ok_check_flat T) cdv A outer s H E hr, fun ds O Q h => law_History_commit h⟩
theorem ok_History_table_of (T : TX K mg) : DFn P w K mg base 4 T.a_History_table_of T.d_History_table_of ["self", "version"] (S_History_table_of T.cs) :=
  fn_ok T.F_History_table_of sc_History_table_of (fun ds O Q h => len_History_table_of h) fun cdv A outer s H E hr => ⟨_, der_History_table_of T (ok_History_check_version T) cdv A outer s H E hr, fun ds O Q h => law_History_table_of h⟩
theorem ok_History_parents (T : TX K mg) : DFn P w K mg base 4 T.a_History_parents T.d_History_parents ["self", "version"] (S_History_parents T.cs) :=
  fn_ok T.F_History_parents sc_History_parents (fun ds O Q h => len_History_parents h) fun cdv A outer s H E hr => ⟨_, der_History_parents T (ok_History_check_version T) cdv A outer s H E hr, fun ds O Q h => law_History_parents h⟩
theorem ok_History_line_of (T : TX K mg) : DFn P w K mg base 1 T.a_History_line_of T.d_History_line_of ["self", "version"] (S_History_line_of T.cs) :=
  fn_ok T.F_History_line_of sc_History_line_of (fun ds O Q h => len_History_line_of h) fun cdv A outer s H E hr => ⟨_, der_History_line_of T  cdv A outer s H E hr, fun ds O Q h => law_History_line_of h⟩
theorem ok_History_elders (T : TX K mg) : DFn P w K mg base 4 T.a_History_elders T.d_History_elders ["self", "version"] (S_History_elders T.cs) :=
  fn_ok T.F_History_elders sc_History_elders (fun ds O Q h => len_History_elders h) fun cdv A outer s H E hr => ⟨_, der_History_elders T (ok_History_check_version T) (ok_History_line_of T) cdv A outer s H E hr, fun ds O Q h => law_History_elders h⟩
theorem ok_History_raw_bases (T : TX K mg) : DFn P w K mg base 2 T.a_History_raw_bases T.d_History_raw_bases ["self", "one", "other"] (S_History_raw_bases T.cs) :=
  fn_ok T.F_History_raw_bases sc_History_raw_bases (fun ds O Q h => len_History_raw_bases h) fun cdv A outer s H E hr => ⟨_, der_History_raw_bases T (ok_History_line_of T) cdv A outer s H E hr, fun ds O Q h => law_History_raw_bases h⟩
theorem ok_History_bases (T : TX K mg) : DFn P w K mg base 4 T.a_History_bases T.d_History_bases ["self", "one", "other"] (S_History_bases T.cs) :=
  fn_ok T.F_History_bases sc_History_bases (fun ds O Q h => len_History_bases h) fun cdv A outer s H E hr => ⟨_, der_History_bases T (ok_History_check_version T) (ok_History_raw_bases T) cdv A outer s H E hr, fun ds O Q h => law_History_bases h⟩
theorem ok_History_merge (T : TX K mg) : DFn P w K mg base 4 T.a_History_merge T.d_History_merge ["self", "one", "other"] (S_History_merge T.cs) :=
  fn_ok T.F_History_merge sc_History_merge (fun ds O Q h => len_History_merge h) fun cdv A outer s H E hr => ⟨_, der_History_merge T (ok_History_check_version T) (ok_History_enter T) (ok_History_line_of T) (ok_History_raw_bases T) (ok_raw_merged T) cdv A outer s H E hr, fun ds O Q h => law_History_merge h⟩
theorem ok_History_since (T : TX K mg) : DFn P w K mg base 4 T.a_History_since T.d_History_since ["self", "one", "other"] (S_History_since T.cs) :=
  fn_ok T.F_History_since sc_History_since (fun ds O Q h => len_History_since h) fun cdv A outer s H E hr => ⟨_, der_History_since T (ok_History_check_version T) (ok_History_line_of T) cdv A outer s H E hr, fun ds O Q h => law_History_since h⟩
theorem ok_law_pick (T : TX K mg) : DFn P w K mg base 1 T.a_law_pick T.d_law_pick ["tape", "many"] (S_law_pick T.cs) :=
  dfn_imp (fn_ok T.F_law_pick sc_law_pick (fun ds O Q h => len_pickL h) fun cdv A outer s H E hr => ⟨_, der_law_pick T cdv A outer s H E hr, fun ds O Q h => law_law_pickL h⟩) fun _ _ _ _ h => pick_lift h
theorem ok_law_any (T : TX K mg) : DFn P w K mg base 2 T.a_law_any T.d_law_any ["tape", "things"] (S_law_any T.cs) :=
  fn_ok T.F_law_any sc_law_any (fun ds O Q h => len_law_any h) fun cdv A outer s H E hr => ⟨_, der_law_any T (ok_law_pick T) cdv A outer s H E hr, fun ds O Q h => law_law_any h⟩
theorem ok_law_table (T : TX K mg) : DFn P w K mg base 3 T.a_law_table T.d_law_table ["tape", "names"] (S_law_table T.cs) :=
  fn_ok T.F_law_table sc_law_table (fun ds O Q h => len_law_table h) fun cdv A outer s H E hr => ⟨_, der_law_table T (ok_law_any T) (ok_law_pick T) cdv A outer s H E hr, fun ds O Q h => law_law_table h⟩
theorem ok_law_turned (T : TX K mg) : DFn P w K mg base 3 T.a_law_turned T.d_law_turned ["tape", "names", "table"] (S_law_turned T.cs) :=
  fn_ok T.F_law_turned sc_law_turned (fun ds O Q h => len_law_turned h) fun cdv A outer s H E hr => ⟨_, der_law_turned T (ok_law_any T) (ok_law_pick T) cdv A outer s H E hr, fun ds O Q h => law_law_turned h⟩
theorem ok_law_merged (T : TX K mg) : DFn P w K mg base 1 T.a_law_merged T.d_law_merged ["base", "one", "other"] (S_law_merged T.cs) :=
  fn_ok T.F_law_merged sc_law_merged (fun ds O Q h => len_law_merged h) fun cdv A outer s H E hr => ⟨_, der_law_merged T  cdv A outer s H E hr, fun ds O Q h => law_law_merged h⟩
theorem ok_law_elders (T : TX K mg) : DFn P w K mg base 1 T.a_law_elders T.d_law_elders ["lines", "version"] (S_law_elders T.cs) :=
  fn_ok T.F_law_elders sc_law_elders (fun ds O Q h => len_law_elders h) fun cdv A outer s H E hr => ⟨_, der_law_elders T  cdv A outer s H E hr, fun ds O Q h => law_law_elders h⟩
theorem ok_law_bases (T : TX K mg) : DFn P w K mg base 2 T.a_law_bases T.d_law_bases ["lines", "one", "other"] (S_law_bases T.cs) :=
  fn_ok T.F_law_bases sc_law_bases (fun ds O Q h => len_law_bases h) fun cdv A outer s H E hr => ⟨_, der_law_bases T (ok_law_elders T) cdv A outer s H E hr, fun ds O Q h => law_law_bases h⟩
theorem ok_law_grown (T : TX K mg) : DFn P w K mg base 7 T.a_law_grown T.d_law_grown ["tape", "history", "lines", "names"] (S_law_grown T.cs) :=
  fn_ok T.F_law_grown sc_law_grown (fun ds O Q h => len_law_grown h) fun cdv A outer s H E hr => ⟨_, der_law_grown T (ok_History_commit T) (ok_History_merge T) (ok_law_bases T) (ok_law_elders T) (ok_law_merged T) (ok_law_pick T) (ok_law_turned T) cdv A outer s H E hr, fun ds O Q h => law_law_grown h⟩
theorem ok_law_stands (T : TX K mg) : DFn P w K mg base 5 T.a_law_stands T.d_law_stands ["tape", "history", "lines"] (S_law_stands T.cs) :=
  fn_ok T.F_law_stands sc_law_stands (fun ds O Q h => len_law_stands h) fun cdv A outer s H E hr => ⟨_, der_law_stands T (ok_History_bases T) (ok_History_elders T) (ok_History_parents T) (ok_History_since T) (ok_History_table_of T) (ok_law_bases T) (ok_law_elders T) (ok_law_pick T) cdv A outer s H E hr, fun ds O Q h => law_law_stands h⟩
theorem ok_law_known_right (T : TX K mg) : DFn P w K mg base 8 T.a_law_known_right T.d_law_known_right [] (S_law_known_right T.cs) :=
  fn_ok T.F_law_known_right sc_law_known_right (fun ds O Q h => len_law_known_right h) fun cdv A outer s H E hr => ⟨_, der_law_known_right T (ok_History___init__ T) (ok_History_bases T) (ok_History_commit T) (ok_History_elders T) (ok_History_merge T) (ok_History_parents T) (ok_History_since T) (ok_History_table_of T) cdv A outer s H E hr, fun ds O Q h => law_law_known_right h⟩
end KH

set_option Elab.async false
set_option linter.all false
set_option maxRecDepth 100000
set_option maxHeartbeats 0
/-! KH: the law -/
namespace KH
open PySem PySem.Spec PyProof.Rows L2 TD
def spLaw (K : PySem.W.Frag) : Sp := fun vs H Q _ => ∃ (a : Addr) (ns : List Int), vs = [.ref a] ∧ SqL K H a (ns.map V.int) ∧ ns.length ≤ 63 ∧ ∀ H', Q (.bl true) H'
section
variable {P : Program} {w : World} {K : PySem.W.Frag} {mg : Str → Option Value} {base : Heap}
def tpO (tp : Addr) : OO := fun a => if a = tp then some .tape else none
def cpZ (cp : Addr) (cells : List Int) : Hp := fun a => if a = cp then some (.lst (cells.map V.int)) else none
theorem ro_tape {H' : Hp} {tp cp : Addr} {cells : List Int} {s : Int} (h0 : ∀ x ∈ cells, 0 ≤ x) (ne : cp ≠ tp) (hc : H' cp = some (.lst (cells.map V.int))) (ht : H' tp = some (.lst [.ref cp, .int 0, .int 0, .int s, .int 0])) : RelO (cpZ cp cells) H' (tpO tp) := by
  refine ⟨fun a u e => ?_, fun a m e => ?_, fun a m e _ => ?_⟩
  · unfold cpZ at e
    split at e
    · rename_i q; cases e; subst q; exact .inl hc
    · cases e
  · unfold tpO at e
    split at e
    · rename_i q; cases e; subst q
      exact ⟨_, ht, cp, cells, 0, 0, s, 0, rfl, by unfold cpZ; rw [if_pos rfl], h0, by decide, by decide⟩
    · cases e
  · unfold tpO at e
    split at e
    · rename_i q; subst q; unfold cpZ; rw [if_neg (fun q => ne q.symm)]
    · cases e
theorem ok_law (T : TX K mg) (zA : mg "abs" = none) : FnG P w K mg base CX0 9 T.a_law T.d_law ["script"] (spLaw K) := by
  refine fnG_of T.F_law sc_law (fun vs H Q E h => by obtain ⟨a, ns, rfl, _⟩ := h; rfl) (fun cdv A outer s H vs Q E hr h => ?_)
  obtain ⟨a, ns, rfl, hS, hlen, k⟩ := h
  have nd := sc_law.nd
  have D := der_law (P := P) (w := w) (base := base) T (ok_History___init__ T) (ok_History_bases T) (ok_History_table_of T) (ok_law_grown T) (ok_law_known_right T) (ok_law_pick T) (ok_law_stands T) (ok_law_table T) (ok_merged T) cdv A outer s H E hr
  obtain ⟨t, p, run⟩ := D.ex
  refine ⟨_, pss_cons (ps_set (i := 1) nd rfl (Or.inl rfl) (callG (ok_law_tape T zA) (hr.mono (by decide)) (by rfl) T.m_law_tape T.F_law_tape.kp T.b_law_tape pass0 (pa_cons (pv 0) pa_nil))) p.nox, ?_⟩
  refine ⟨_, rfl, a, ns, rfl, hS, hlen, fun H' tp cp cells z h0 ne hc ht => ?_⟩
  refine run (cpZ cp cells) _ [none, some (.ref tp), none, none, none, none, none, none, none, none, none] H' (tpO tp) (retE fun d _ => d = .bl true) _ ?_ (ro_tape h0 ne hc ht) (law_law (by unfold tpO; rw [if_pos rfl]) fun _ => rfl) ?_
  · refine ⟨rfl, fun i d e => ?_⟩
    rcases i with _ | _ | i
    · simp at e
    · obtain rfl : TD.D.ref tp = d := by simpa using e
      exact ⟨_, rfl, .ref⟩
    · exfalso
      rcases i with _ | _ | _ | _ | _ | _ | _ | _ | _ | i <;> simp at e
  · refine ⟨?_, ?_, ?_, ?_⟩
    · rintro Z1 σ1 s1 H1 O1 m1 rs1 ro1 ⟨O2, _, q⟩; cases q
    · rintro v1 H1 Z1 d1 O1 m1 ro1 r1 ⟨O2, _, rfl⟩; cases r1; exact k _
    · exact fun Z1 σ1 s1 H1 O1 m1 rs1 ro1 w1 => w1.elim
    · exact fun Z1 σ1 s1 H1 O1 m1 rs1 ro1 w1 => w1.elim
end
theorem walkX {l : PySem.W.OpenLaw} {n k : Nat} {q : Program} {loose : List Str} {XP : (Str → Option Value) → Heap → Prop} {YP : World → Heap → Prop} {d : DefRec} {K : Params → PySem.W.Frag} {sp : PySem.W.Frag → Sp} {x : Str}
    (hn : l.most = some n) (hn2 : n ≤ sizeLine) (hdf : d.params.defaults = []) (hr : RoomG k callerA)
    (hY : ∀ (w : World) (h : Heap), YP w h → (K w.params).In h)
    (F : ∀ (w : World) (mg : Str → Option Value) (fa : Addr) (h : Heap), (K w.params).In h → h.Ns mainGlobals mg → mg d.name = some (.ref fa) → XP mg h →
      ∃ fd : FuncData, (∀ (s : Shared) (u : Value), BindsTo s fd ⟨[u], []⟩ [(x, u)]) ∧
        ∀ base : Heap, (K w.params).In base → base.Ns mainGlobals mg → FnG l.prog w (K w.params) mg base CX0 k fa fd [x] (sp (K w.params)))
    (hsp : ∀ (K : PySem.W.Frag) (H : Hp) (a : Addr) (ns : List Int), ns.length ≤ n → Only H → SqL K H a (ns.map V.int) → sp K [.ref a] H (fun v _ => v = .bl true) fun _ _ _ => False) :
    PySem.W.WalkO q loose XP YP l.row.toRowW d [] (fun f vs => PySem.call f vs) := by
  refine Att.attach_call hn hdf fun w s₀ s₁ mg mb fa o pm cd doc a vs ns G Y ho hd hcd hmg hobj hints hlen hg => ?_
  have KX := hY w _ Y
  obtain ⟨fd, hb, hF⟩ := F w mg fa _ KX G.T.g hmg G.X
  exact lawG_call KX G.T.g G.T.b G.T.builtins G.T.nolimit hg hobj hints (Nat.le_trans hlen hn2) hr hF hb (fun H hO hS => hsp (K w.params) H a ns hlen hO hS)
theorem mv_of {p : Program} {mg : Str → Option Value} {h : Heap} (x : PySem.W.XL p [("MOST_VALUE", .int 1000000)] mg h) : ∃ t, mg "MOST_VALUE" = some (.int 1000000 t) := by
  obtain ⟨v, hv, r⟩ := x.2.val ("MOST_VALUE", .int 1000000) (List.mem_singleton.mpr rfl)
  cases r
  exact ⟨_, hv⟩
theorem all_mk {l : PySem.W.OpenLaw} {w : World} {K : PySem.W.Frag} {h : Heap} {mg : Str → Option Value} {fa C_History f_is_integer f_is_within f_is_name f_is_word f_is_value f_is_flat_table f_check_flat f_all_names f_merged_value f_raw_merged f_merged f_History___init__ f_History_check_version f_History_enter f_History_commit f_History_table_of f_History_parents f_History_line_of f_History_elders f_History_raw_bases f_History_bases f_History_merge f_History_since f_law_tape f_law_pick f_law_any f_law_table f_law_turned f_law_merged f_law_elders f_law_bases f_law_grown f_law_stands f_law_known_right f_law : Addr} (X : K.In h) (G : h.Ns mainGlobals mg) (hfa : mg "law" = some (.ref fa)) (hMV : ∃ t, mg "MOST_VALUE" = some (.int 1000000 t)) {t_MOST_NAMES t_MOST_SIGNS : Tok}
    {od_is_integer an_is_integer : Option Addr} {sl_is_integer : Array (Option Value)} {oc_is_integer kV_is_integer dc_is_integer pm_is_integer cd_is_integer ct_is_integer : Value} {od_is_within an_is_within : Option Addr} {sl_is_within : Array (Option Value)} {oc_is_within kV_is_within dc_is_within pm_is_within cd_is_within ct_is_within : Value} {od_is_name an_is_name : Option Addr} {sl_is_name : Array (Option Value)} {oc_is_name kV_is_name dc_is_name pm_is_name cd_is_name ct_is_name : Value} {od_is_word an_is_word : Option Addr} {sl_is_word : Array (Option Value)} {oc_is_word kV_is_word dc_is_word pm_is_word cd_is_word ct_is_word : Value} {od_is_value an_is_value : Option Addr} {sl_is_value : Array (Option Value)} {oc_is_value kV_is_value dc_is_value pm_is_value cd_is_value ct_is_value : Value} {od_is_flat_table an_is_flat_table : Option Addr} {sl_is_flat_table : Array (Option Value)} {oc_is_flat_table kV_is_flat_table dc_is_flat_table pm_is_flat_table cd_is_flat_table ct_is_flat_table : Value} {od_check_flat an_check_flat : Option Addr} {sl_check_flat : Array (Option Value)} {oc_check_flat kV_check_flat dc_check_flat pm_check_flat cd_check_flat ct_check_flat : Value} {od_all_names an_all_names : Option Addr} {sl_all_names : Array (Option Value)} {oc_all_names kV_all_names dc_all_names pm_all_names cd_all_names ct_all_names : Value} {od_merged_value an_merged_value : Option Addr} {sl_merged_value : Array (Option Value)} {oc_merged_value kV_merged_value dc_merged_value pm_merged_value cd_merged_value ct_merged_value : Value} {od_raw_merged an_raw_merged : Option Addr} {sl_raw_merged : Array (Option Value)} {oc_raw_merged kV_raw_merged dc_raw_merged pm_raw_merged cd_raw_merged ct_raw_merged : Value} {od_merged an_merged : Option Addr} {sl_merged : Array (Option Value)} {oc_merged kV_merged dc_merged pm_merged cd_merged ct_merged : Value} {od_History___init__ an_History___init__ : Option Addr} {sl_History___init__ : Array (Option Value)} {oc_History___init__ kV_History___init__ dc_History___init__ pm_History___init__ cd_History___init__ ct_History___init__ : Value} {od_History_check_version an_History_check_version : Option Addr} {sl_History_check_version : Array (Option Value)} {oc_History_check_version kV_History_check_version dc_History_check_version pm_History_check_version cd_History_check_version ct_History_check_version : Value} {od_History_enter an_History_enter : Option Addr} {sl_History_enter : Array (Option Value)} {oc_History_enter kV_History_enter dc_History_enter pm_History_enter cd_History_enter ct_History_enter : Value} {od_History_commit an_History_commit : Option Addr} {sl_History_commit : Array (Option Value)} {oc_History_commit kV_History_commit dc_History_commit pm_History_commit cd_History_commit ct_History_commit : Value} {od_History_table_of an_History_table_of : Option Addr} {sl_History_table_of : Array (Option Value)} {oc_History_table_of kV_History_table_of dc_History_table_of pm_History_table_of cd_History_table_of ct_History_table_of : Value} {od_History_parents an_History_parents : Option Addr} {sl_History_parents : Array (Option Value)} {oc_History_parents kV_History_parents dc_History_parents pm_History_parents cd_History_parents ct_History_parents : Value} {od_History_line_of an_History_line_of : Option Addr} {sl_History_line_of : Array (Option Value)} {oc_History_line_of kV_History_line_of dc_History_line_of pm_History_line_of cd_History_line_of ct_History_line_of : Value} {od_History_elders an_History_elders : Option Addr} {sl_History_elders : Array (Option Value)} {oc_History_elders kV_History_elders dc_History_elders pm_History_elders cd_History_elders ct_History_elders : Value} {od_History_raw_bases an_History_raw_bases : Option Addr} {sl_History_raw_bases : Array (Option Value)} {oc_History_raw_bases kV_History_raw_bases dc_History_raw_bases pm_History_raw_bases cd_History_raw_bases ct_History_raw_bases : Value} {od_History_bases an_History_bases : Option Addr} {sl_History_bases : Array (Option Value)} {oc_History_bases kV_History_bases dc_History_bases pm_History_bases cd_History_bases ct_History_bases : Value} {od_History_merge an_History_merge : Option Addr} {sl_History_merge : Array (Option Value)} {oc_History_merge kV_History_merge dc_History_merge pm_History_merge cd_History_merge ct_History_merge : Value} {od_History_since an_History_since : Option Addr} {sl_History_since : Array (Option Value)} {oc_History_since kV_History_since dc_History_since pm_History_since cd_History_since ct_History_since : Value} {od_law_tape an_law_tape : Option Addr} {sl_law_tape : Array (Option Value)} {oc_law_tape kV_law_tape dc_law_tape pm_law_tape cd_law_tape ct_law_tape : Value} {od_law_pick an_law_pick : Option Addr} {sl_law_pick : Array (Option Value)} {oc_law_pick kV_law_pick dc_law_pick pm_law_pick cd_law_pick ct_law_pick : Value} {od_law_any an_law_any : Option Addr} {sl_law_any : Array (Option Value)} {oc_law_any kV_law_any dc_law_any pm_law_any cd_law_any ct_law_any : Value} {od_law_table an_law_table : Option Addr} {sl_law_table : Array (Option Value)} {oc_law_table kV_law_table dc_law_table pm_law_table cd_law_table ct_law_table : Value} {od_law_turned an_law_turned : Option Addr} {sl_law_turned : Array (Option Value)} {oc_law_turned kV_law_turned dc_law_turned pm_law_turned cd_law_turned ct_law_turned : Value} {od_law_merged an_law_merged : Option Addr} {sl_law_merged : Array (Option Value)} {oc_law_merged kV_law_merged dc_law_merged pm_law_merged cd_law_merged ct_law_merged : Value} {od_law_elders an_law_elders : Option Addr} {sl_law_elders : Array (Option Value)} {oc_law_elders kV_law_elders dc_law_elders pm_law_elders cd_law_elders ct_law_elders : Value} {od_law_bases an_law_bases : Option Addr} {sl_law_bases : Array (Option Value)} {oc_law_bases kV_law_bases dc_law_bases pm_law_bases cd_law_bases ct_law_bases : Value} {od_law_grown an_law_grown : Option Addr} {sl_law_grown : Array (Option Value)} {oc_law_grown kV_law_grown dc_law_grown pm_law_grown cd_law_grown ct_law_grown : Value} {od_law_stands an_law_stands : Option Addr} {sl_law_stands : Array (Option Value)} {oc_law_stands kV_law_stands dc_law_stands pm_law_stands cd_law_stands ct_law_stands : Value} {od_law_known_right an_law_known_right : Option Addr} {sl_law_known_right : Array (Option Value)} {oc_law_known_right kV_law_known_right dc_law_known_right pm_law_known_right cd_law_known_right ct_law_known_right : Value} {od_law an_law : Option Addr} {sl_law : Array (Option Value)} {oc_law kV_law dc_law pm_law cd_law ct_law : Value}
        (aC_History : PySem.W.nsIn K mainGlobals "History" = some (some (.ref C_History)))
    (pg_History : PySem.W.plainGet K C_History Str.empty = true)
    (hd_History : PySem.W.hasDictIn K C_History = true)
    (po_History : PySem.W.plainOver K C_History = true)
    (sa_History : PySem.W.findIn K (.ref C_History) "__setattr__" = some (some (.builtin "object.__setattr__")))
    (mk_History : PySem.W.makesIn K C_History = true)
    (kc_History : PySem.W.keepIn K (.ref C_History) = true)
    (nA_History_kept_parents : PySem.W.findIn K (.ref C_History) "kept_parents" = some none)
    (nA_History_kept_tables : PySem.W.findIn K (.ref C_History) "kept_tables" = some none)
    (a_is_integer : PySem.W.nsIn K mainGlobals "is_integer" = some (some (.ref f_is_integer)))
    (l_is_integer : K.lookup f_is_integer = some ⟨oc_is_integer, od_is_integer, .func (PySem.W.fnOf "is_integer" "is_integer" (defArgs s_is_integer) (defBody s_is_integer) (defScope s_is_integer) .none kV_is_integer dc_is_integer pm_is_integer an_is_integer cd_is_integer ct_is_integer), sl_is_integer⟩)
    (c_is_integer : PySem.W.codeIn K cd_is_integer "is_integer" = true)
    (k_is_integer : PySem.W.keepIn K (.ref f_is_integer) = true)
    (a_is_within : PySem.W.nsIn K mainGlobals "is_within" = some (some (.ref f_is_within)))
    (l_is_within : K.lookup f_is_within = some ⟨oc_is_within, od_is_within, .func (PySem.W.fnOf "is_within" "is_within" (defArgs s_is_within) (defBody s_is_within) (defScope s_is_within) .none kV_is_within dc_is_within pm_is_within an_is_within cd_is_within ct_is_within), sl_is_within⟩)
    (c_is_within : PySem.W.codeIn K cd_is_within "is_within" = true)
    (k_is_within : PySem.W.keepIn K (.ref f_is_within) = true)
    (a_is_name : PySem.W.nsIn K mainGlobals "is_name" = some (some (.ref f_is_name)))
    (l_is_name : K.lookup f_is_name = some ⟨oc_is_name, od_is_name, .func (PySem.W.fnOf "is_name" "is_name" (defArgs s_is_name) (defBody s_is_name) (defScope s_is_name) .none kV_is_name dc_is_name pm_is_name an_is_name cd_is_name ct_is_name), sl_is_name⟩)
    (c_is_name : PySem.W.codeIn K cd_is_name "is_name" = true)
    (k_is_name : PySem.W.keepIn K (.ref f_is_name) = true)
    (a_is_word : PySem.W.nsIn K mainGlobals "is_word" = some (some (.ref f_is_word)))
    (l_is_word : K.lookup f_is_word = some ⟨oc_is_word, od_is_word, .func (PySem.W.fnOf "is_word" "is_word" (defArgs s_is_word) (defBody s_is_word) (defScope s_is_word) .none kV_is_word dc_is_word pm_is_word an_is_word cd_is_word ct_is_word), sl_is_word⟩)
    (c_is_word : PySem.W.codeIn K cd_is_word "is_word" = true)
    (k_is_word : PySem.W.keepIn K (.ref f_is_word) = true)
    (a_is_value : PySem.W.nsIn K mainGlobals "is_value" = some (some (.ref f_is_value)))
    (l_is_value : K.lookup f_is_value = some ⟨oc_is_value, od_is_value, .func (PySem.W.fnOf "is_value" "is_value" (defArgs s_is_value) (defBody s_is_value) (defScope s_is_value) .none kV_is_value dc_is_value pm_is_value an_is_value cd_is_value ct_is_value), sl_is_value⟩)
    (c_is_value : PySem.W.codeIn K cd_is_value "is_value" = true)
    (k_is_value : PySem.W.keepIn K (.ref f_is_value) = true)
    (a_is_flat_table : PySem.W.nsIn K mainGlobals "is_flat_table" = some (some (.ref f_is_flat_table)))
    (l_is_flat_table : K.lookup f_is_flat_table = some ⟨oc_is_flat_table, od_is_flat_table, .func (PySem.W.fnOf "is_flat_table" "is_flat_table" (defArgs s_is_flat_table) (defBody s_is_flat_table) (defScope s_is_flat_table) .none kV_is_flat_table dc_is_flat_table pm_is_flat_table an_is_flat_table cd_is_flat_table ct_is_flat_table), sl_is_flat_table⟩)
    (c_is_flat_table : PySem.W.codeIn K cd_is_flat_table "is_flat_table" = true)
    (k_is_flat_table : PySem.W.keepIn K (.ref f_is_flat_table) = true)
    (a_check_flat : PySem.W.nsIn K mainGlobals "check_flat" = some (some (.ref f_check_flat)))
    (l_check_flat : K.lookup f_check_flat = some ⟨oc_check_flat, od_check_flat, .func (PySem.W.fnOf "check_flat" "check_flat" (defArgs s_check_flat) (defBody s_check_flat) (defScope s_check_flat) .none kV_check_flat dc_check_flat pm_check_flat an_check_flat cd_check_flat ct_check_flat), sl_check_flat⟩)
    (c_check_flat : PySem.W.codeIn K cd_check_flat "check_flat" = true)
    (k_check_flat : PySem.W.keepIn K (.ref f_check_flat) = true)
    (a_all_names : PySem.W.nsIn K mainGlobals "all_names" = some (some (.ref f_all_names)))
    (l_all_names : K.lookup f_all_names = some ⟨oc_all_names, od_all_names, .func (PySem.W.fnOf "all_names" "all_names" (defArgs s_all_names) (defBody s_all_names) (defScope s_all_names) .none kV_all_names dc_all_names pm_all_names an_all_names cd_all_names ct_all_names), sl_all_names⟩)
    (c_all_names : PySem.W.codeIn K cd_all_names "all_names" = true)
    (k_all_names : PySem.W.keepIn K (.ref f_all_names) = true)
    (a_merged_value : PySem.W.nsIn K mainGlobals "merged_value" = some (some (.ref f_merged_value)))
    (l_merged_value : K.lookup f_merged_value = some ⟨oc_merged_value, od_merged_value, .func (PySem.W.fnOf "merged_value" "merged_value" (defArgs s_merged_value) (defBody s_merged_value) (defScope s_merged_value) .none kV_merged_value dc_merged_value pm_merged_value an_merged_value cd_merged_value ct_merged_value), sl_merged_value⟩)
    (c_merged_value : PySem.W.codeIn K cd_merged_value "merged_value" = true)
    (k_merged_value : PySem.W.keepIn K (.ref f_merged_value) = true)
    (a_raw_merged : PySem.W.nsIn K mainGlobals "raw_merged" = some (some (.ref f_raw_merged)))
    (l_raw_merged : K.lookup f_raw_merged = some ⟨oc_raw_merged, od_raw_merged, .func (PySem.W.fnOf "raw_merged" "raw_merged" (defArgs s_raw_merged) (defBody s_raw_merged) (defScope s_raw_merged) .none kV_raw_merged dc_raw_merged pm_raw_merged an_raw_merged cd_raw_merged ct_raw_merged), sl_raw_merged⟩)
    (c_raw_merged : PySem.W.codeIn K cd_raw_merged "raw_merged" = true)
    (k_raw_merged : PySem.W.keepIn K (.ref f_raw_merged) = true)
    (a_merged : PySem.W.nsIn K mainGlobals "merged" = some (some (.ref f_merged)))
    (l_merged : K.lookup f_merged = some ⟨oc_merged, od_merged, .func (PySem.W.fnOf "merged" "merged" (defArgs s_merged) (defBody s_merged) (defScope s_merged) .none kV_merged dc_merged pm_merged an_merged cd_merged ct_merged), sl_merged⟩)
    (c_merged : PySem.W.codeIn K cd_merged "merged" = true)
    (k_merged : PySem.W.keepIn K (.ref f_merged) = true)
    (a_History___init__ : PySem.W.findIn K (.ref C_History) "__init__" = some (some (.ref f_History___init__)))
    (i_History___init__ : PySem.W.isFn K (.ref f_History___init__) = true)
    (l_History___init__ : K.lookup f_History___init__ = some ⟨oc_History___init__, od_History___init__, .func (PySem.W.fnOf "__init__" "History.__init__" (defArgs s_History___init__) (defBody s_History___init__) (defScope s_History___init__) .none kV_History___init__ dc_History___init__ pm_History___init__ an_History___init__ cd_History___init__ ct_History___init__), sl_History___init__⟩)
    (c_History___init__ : PySem.W.codeIn K cd_History___init__ "History.__init__" = true)
    (k_History___init__ : PySem.W.keepIn K (.ref f_History___init__) = true)
    (a_History_check_version : PySem.W.findIn K (.ref C_History) "check_version" = some (some (.ref f_History_check_version)))
    (i_History_check_version : PySem.W.isFn K (.ref f_History_check_version) = true)
    (l_History_check_version : K.lookup f_History_check_version = some ⟨oc_History_check_version, od_History_check_version, .func (PySem.W.fnOf "check_version" "History.check_version" (defArgs s_History_check_version) (defBody s_History_check_version) (defScope s_History_check_version) .none kV_History_check_version dc_History_check_version pm_History_check_version an_History_check_version cd_History_check_version ct_History_check_version), sl_History_check_version⟩)
    (c_History_check_version : PySem.W.codeIn K cd_History_check_version "History.check_version" = true)
    (k_History_check_version : PySem.W.keepIn K (.ref f_History_check_version) = true)
    (a_History_enter : PySem.W.findIn K (.ref C_History) "enter" = some (some (.ref f_History_enter)))
    (i_History_enter : PySem.W.isFn K (.ref f_History_enter) = true)
    (l_History_enter : K.lookup f_History_enter = some ⟨oc_History_enter, od_History_enter, .func (PySem.W.fnOf "enter" "History.enter" (defArgs s_History_enter) (defBody s_History_enter) (defScope s_History_enter) .none kV_History_enter dc_History_enter pm_History_enter an_History_enter cd_History_enter ct_History_enter), sl_History_enter⟩)
    (c_History_enter : PySem.W.codeIn K cd_History_enter "History.enter" = true)
    (k_History_enter : PySem.W.keepIn K (.ref f_History_enter) = true)
    (a_History_commit : PySem.W.findIn K (.ref C_History) "commit" = some (some (.ref f_History_commit)))
    (i_History_commit : PySem.W.isFn K (.ref f_History_commit) = true)
    (l_History_commit : K.lookup f_History_commit = some ⟨oc_History_commit, od_History_commit, .func (PySem.W.fnOf "commit" "History.commit" (defArgs s_History_commit) (defBody s_History_commit) (defScope s_History_commit) .none kV_History_commit dc_History_commit pm_History_commit an_History_commit cd_History_commit ct_History_commit), sl_History_commit⟩)
    (c_History_commit : PySem.W.codeIn K cd_History_commit "History.commit" = true)
    (k_History_commit : PySem.W.keepIn K (.ref f_History_commit) = true)
    (a_History_table_of : PySem.W.findIn K (.ref C_History) "table_of" = some (some (.ref f_History_table_of)))
    (i_History_table_of : PySem.W.isFn K (.ref f_History_table_of) = true)
    (l_History_table_of : K.lookup f_History_table_of = some ⟨oc_History_table_of, od_History_table_of, .func (PySem.W.fnOf "table_of" "History.table_of" (defArgs s_History_table_of) (defBody s_History_table_of) (defScope s_History_table_of) .none kV_History_table_of dc_History_table_of pm_History_table_of an_History_table_of cd_History_table_of ct_History_table_of), sl_History_table_of⟩)
    (c_History_table_of : PySem.W.codeIn K cd_History_table_of "History.table_of" = true)
    (k_History_table_of : PySem.W.keepIn K (.ref f_History_table_of) = true)
    (a_History_parents : PySem.W.findIn K (.ref C_History) "parents" = some (some (.ref f_History_parents)))
    (i_History_parents : PySem.W.isFn K (.ref f_History_parents) = true)
    (l_History_parents : K.lookup f_History_parents = some ⟨oc_History_parents, od_History_parents, .func (PySem.W.fnOf "parents" "History.parents" (defArgs s_History_parents) (defBody s_History_parents) (defScope s_History_parents) .none kV_History_parents dc_History_parents pm_History_parents an_History_parents cd_History_parents ct_History_parents), sl_History_parents⟩)
    (c_History_parents : PySem.W.codeIn K cd_History_parents "History.parents" = true)
    (k_History_parents : PySem.W.keepIn K (.ref f_History_parents) = true)
    (a_History_line_of : PySem.W.findIn K (.ref C_History) "line_of" = some (some (.ref f_History_line_of)))
    (i_History_line_of : PySem.W.isFn K (.ref f_History_line_of) = true)
    (l_History_line_of : K.lookup f_History_line_of = some ⟨oc_History_line_of, od_History_line_of, .func (PySem.W.fnOf "line_of" "History.line_of" (defArgs s_History_line_of) (defBody s_History_line_of) (defScope s_History_line_of) .none kV_History_line_of dc_History_line_of pm_History_line_of an_History_line_of cd_History_line_of ct_History_line_of), sl_History_line_of⟩)
    (c_History_line_of : PySem.W.codeIn K cd_History_line_of "History.line_of" = true)
    (k_History_line_of : PySem.W.keepIn K (.ref f_History_line_of) = true)
    (a_History_elders : PySem.W.findIn K (.ref C_History) "elders" = some (some (.ref f_History_elders)))
    (i_History_elders : PySem.W.isFn K (.ref f_History_elders) = true)
    (l_History_elders : K.lookup f_History_elders = some ⟨oc_History_elders, od_History_elders, .func (PySem.W.fnOf "elders" "History.elders" (defArgs s_History_elders) (defBody s_History_elders) (defScope s_History_elders) .none kV_History_elders dc_History_elders pm_History_elders an_History_elders cd_History_elders ct_History_elders), sl_History_elders⟩)
    (c_History_elders : PySem.W.codeIn K cd_History_elders "History.elders" = true)
    (k_History_elders : PySem.W.keepIn K (.ref f_History_elders) = true)
    (a_History_raw_bases : PySem.W.findIn K (.ref C_History) "raw_bases" = some (some (.ref f_History_raw_bases)))
    (i_History_raw_bases : PySem.W.isFn K (.ref f_History_raw_bases) = true)
    (l_History_raw_bases : K.lookup f_History_raw_bases = some ⟨oc_History_raw_bases, od_History_raw_bases, .func (PySem.W.fnOf "raw_bases" "History.raw_bases" (defArgs s_History_raw_bases) (defBody s_History_raw_bases) (defScope s_History_raw_bases) .none kV_History_raw_bases dc_History_raw_bases pm_History_raw_bases an_History_raw_bases cd_History_raw_bases ct_History_raw_bases), sl_History_raw_bases⟩)
    (c_History_raw_bases : PySem.W.codeIn K cd_History_raw_bases "History.raw_bases" = true)
    (k_History_raw_bases : PySem.W.keepIn K (.ref f_History_raw_bases) = true)
    (a_History_bases : PySem.W.findIn K (.ref C_History) "bases" = some (some (.ref f_History_bases)))
    (i_History_bases : PySem.W.isFn K (.ref f_History_bases) = true)
    (l_History_bases : K.lookup f_History_bases = some ⟨oc_History_bases, od_History_bases, .func (PySem.W.fnOf "bases" "History.bases" (defArgs s_History_bases) (defBody s_History_bases) (defScope s_History_bases) .none kV_History_bases dc_History_bases pm_History_bases an_History_bases cd_History_bases ct_History_bases), sl_History_bases⟩)
    (c_History_bases : PySem.W.codeIn K cd_History_bases "History.bases" = true)
    (k_History_bases : PySem.W.keepIn K (.ref f_History_bases) = true)
    (a_History_merge : PySem.W.findIn K (.ref C_History) "merge" = some (some (.ref f_History_merge)))
    (i_History_merge : PySem.W.isFn K (.ref f_History_merge) = true)
    (l_History_merge : K.lookup f_History_merge = some ⟨oc_History_merge, od_History_merge, .func (PySem.W.fnOf "merge" "History.merge" (defArgs s_History_merge) (defBody s_History_merge) (defScope s_History_merge) .none kV_History_merge dc_History_merge pm_History_merge an_History_merge cd_History_merge ct_History_merge), sl_History_merge⟩)
    (c_History_merge : PySem.W.codeIn K cd_History_merge "History.merge" = true)
    (k_History_merge : PySem.W.keepIn K (.ref f_History_merge) = true)
    (a_History_since : PySem.W.findIn K (.ref C_History) "since" = some (some (.ref f_History_since)))
    (i_History_since : PySem.W.isFn K (.ref f_History_since) = true)
    (l_History_since : K.lookup f_History_since = some ⟨oc_History_since, od_History_since, .func (PySem.W.fnOf "since" "History.since" (defArgs s_History_since) (defBody s_History_since) (defScope s_History_since) .none kV_History_since dc_History_since pm_History_since an_History_since cd_History_since ct_History_since), sl_History_since⟩)
    (c_History_since : PySem.W.codeIn K cd_History_since "History.since" = true)
    (k_History_since : PySem.W.keepIn K (.ref f_History_since) = true)
    (a_law_tape : PySem.W.nsIn K mainGlobals "_law_tape" = some (some (.ref f_law_tape)))
    (l_law_tape : K.lookup f_law_tape = some ⟨oc_law_tape, od_law_tape, .func (PySem.W.fnOf "_law_tape" "_law_tape" (defArgs s_law_tape) (defBody s_law_tape) (defScope s_law_tape) .none kV_law_tape dc_law_tape pm_law_tape an_law_tape cd_law_tape ct_law_tape), sl_law_tape⟩)
    (c_law_tape : PySem.W.codeIn K cd_law_tape "_law_tape" = true)
    (k_law_tape : PySem.W.keepIn K (.ref f_law_tape) = true)
    (a_law_pick : PySem.W.nsIn K mainGlobals "_law_pick" = some (some (.ref f_law_pick)))
    (l_law_pick : K.lookup f_law_pick = some ⟨oc_law_pick, od_law_pick, .func (PySem.W.fnOf "_law_pick" "_law_pick" (defArgs s_law_pick) (defBody s_law_pick) (defScope s_law_pick) .none kV_law_pick dc_law_pick pm_law_pick an_law_pick cd_law_pick ct_law_pick), sl_law_pick⟩)
    (c_law_pick : PySem.W.codeIn K cd_law_pick "_law_pick" = true)
    (k_law_pick : PySem.W.keepIn K (.ref f_law_pick) = true)
    (a_law_any : PySem.W.nsIn K mainGlobals "_law_any" = some (some (.ref f_law_any)))
    (l_law_any : K.lookup f_law_any = some ⟨oc_law_any, od_law_any, .func (PySem.W.fnOf "_law_any" "_law_any" (defArgs s_law_any) (defBody s_law_any) (defScope s_law_any) .none kV_law_any dc_law_any pm_law_any an_law_any cd_law_any ct_law_any), sl_law_any⟩)
    (c_law_any : PySem.W.codeIn K cd_law_any "_law_any" = true)
    (k_law_any : PySem.W.keepIn K (.ref f_law_any) = true)
    (a_law_table : PySem.W.nsIn K mainGlobals "_law_table" = some (some (.ref f_law_table)))
    (l_law_table : K.lookup f_law_table = some ⟨oc_law_table, od_law_table, .func (PySem.W.fnOf "_law_table" "_law_table" (defArgs s_law_table) (defBody s_law_table) (defScope s_law_table) .none kV_law_table dc_law_table pm_law_table an_law_table cd_law_table ct_law_table), sl_law_table⟩)
    (c_law_table : PySem.W.codeIn K cd_law_table "_law_table" = true)
    (k_law_table : PySem.W.keepIn K (.ref f_law_table) = true)
    (a_law_turned : PySem.W.nsIn K mainGlobals "_law_turned" = some (some (.ref f_law_turned)))
    (l_law_turned : K.lookup f_law_turned = some ⟨oc_law_turned, od_law_turned, .func (PySem.W.fnOf "_law_turned" "_law_turned" (defArgs s_law_turned) (defBody s_law_turned) (defScope s_law_turned) .none kV_law_turned dc_law_turned pm_law_turned an_law_turned cd_law_turned ct_law_turned), sl_law_turned⟩)
    (c_law_turned : PySem.W.codeIn K cd_law_turned "_law_turned" = true)
    (k_law_turned : PySem.W.keepIn K (.ref f_law_turned) = true)
    (a_law_merged : PySem.W.nsIn K mainGlobals "_law_merged" = some (some (.ref f_law_merged)))
    (l_law_merged : K.lookup f_law_merged = some ⟨oc_law_merged, od_law_merged, .func (PySem.W.fnOf "_law_merged" "_law_merged" (defArgs s_law_merged) (defBody s_law_merged) (defScope s_law_merged) .none kV_law_merged dc_law_merged pm_law_merged an_law_merged cd_law_merged ct_law_merged), sl_law_merged⟩)
    (c_law_merged : PySem.W.codeIn K cd_law_merged "_law_merged" = true)
    (k_law_merged : PySem.W.keepIn K (.ref f_law_merged) = true)
    (a_law_elders : PySem.W.nsIn K mainGlobals "_law_elders" = some (some (.ref f_law_elders)))
    (l_law_elders : K.lookup f_law_elders = some ⟨oc_law_elders, od_law_elders, .func (PySem.W.fnOf "_law_elders" "_law_elders" (defArgs s_law_elders) (defBody s_law_elders) (defScope s_law_elders) .none kV_law_elders dc_law_elders pm_law_elders an_law_elders cd_law_elders ct_law_elders), sl_law_elders⟩)
    (c_law_elders : PySem.W.codeIn K cd_law_elders "_law_elders" = true)
    (k_law_elders : PySem.W.keepIn K (.ref f_law_elders) = true)
    (a_law_bases : PySem.W.nsIn K mainGlobals "_law_bases" = some (some (.ref f_law_bases)))
    (l_law_bases : K.lookup f_law_bases = some ⟨oc_law_bases, od_law_bases, .func (PySem.W.fnOf "_law_bases" "_law_bases" (defArgs s_law_bases) (defBody s_law_bases) (defScope s_law_bases) .none kV_law_bases dc_law_bases pm_law_bases an_law_bases cd_law_bases ct_law_bases), sl_law_bases⟩)
    (c_law_bases : PySem.W.codeIn K cd_law_bases "_law_bases" = true)
    (k_law_bases : PySem.W.keepIn K (.ref f_law_bases) = true)
    (a_law_grown : PySem.W.nsIn K mainGlobals "_law_grown" = some (some (.ref f_law_grown)))
    (l_law_grown : K.lookup f_law_grown = some ⟨oc_law_grown, od_law_grown, .func (PySem.W.fnOf "_law_grown" "_law_grown" (defArgs s_law_grown) (defBody s_law_grown) (defScope s_law_grown) .none kV_law_grown dc_law_grown pm_law_grown an_law_grown cd_law_grown ct_law_grown), sl_law_grown⟩)
    (c_law_grown : PySem.W.codeIn K cd_law_grown "_law_grown" = true)
    (k_law_grown : PySem.W.keepIn K (.ref f_law_grown) = true)
    (a_law_stands : PySem.W.nsIn K mainGlobals "_law_stands" = some (some (.ref f_law_stands)))
    (l_law_stands : K.lookup f_law_stands = some ⟨oc_law_stands, od_law_stands, .func (PySem.W.fnOf "_law_stands" "_law_stands" (defArgs s_law_stands) (defBody s_law_stands) (defScope s_law_stands) .none kV_law_stands dc_law_stands pm_law_stands an_law_stands cd_law_stands ct_law_stands), sl_law_stands⟩)
    (c_law_stands : PySem.W.codeIn K cd_law_stands "_law_stands" = true)
    (k_law_stands : PySem.W.keepIn K (.ref f_law_stands) = true)
    (a_law_known_right : PySem.W.nsIn K mainGlobals "_law_known_right" = some (some (.ref f_law_known_right)))
    (l_law_known_right : K.lookup f_law_known_right = some ⟨oc_law_known_right, od_law_known_right, .func (PySem.W.fnOf "_law_known_right" "_law_known_right" (defArgs s_law_known_right) (defBody s_law_known_right) (defScope s_law_known_right) .none kV_law_known_right dc_law_known_right pm_law_known_right an_law_known_right cd_law_known_right ct_law_known_right), sl_law_known_right⟩)
    (c_law_known_right : PySem.W.codeIn K cd_law_known_right "_law_known_right" = true)
    (k_law_known_right : PySem.W.keepIn K (.ref f_law_known_right) = true)
    (a_law : PySem.W.nsIn K mainGlobals "law" = some (some (.ref f_law)))
    (l_law : K.lookup f_law = some ⟨oc_law, od_law, .func (PySem.W.fnOf "law" "law" (defArgs s_law) (defBody s_law) (defScope s_law) .none kV_law dc_law pm_law an_law cd_law ct_law), sl_law⟩)
    (c_law : PySem.W.codeIn K cd_law "law" = true)
    (k_law : PySem.W.keepIn K (.ref f_law) = true)
    (z_all : PySem.W.nsIn K mainGlobals "all" = some none)
    (z_any : PySem.W.nsIn K mainGlobals "any" = some none)
    (z_bool : PySem.W.nsIn K mainGlobals "bool" = some none)
    (z_dict : PySem.W.nsIn K mainGlobals "dict" = some none)
    (z_int : PySem.W.nsIn K mainGlobals "int" = some none)
    (z_isinstance : PySem.W.nsIn K mainGlobals "isinstance" = some none)
    (z_len : PySem.W.nsIn K mainGlobals "len" = some none)
    (z_list : PySem.W.nsIn K mainGlobals "list" = some none)
    (z_range : PySem.W.nsIn K mainGlobals "range" = some none)
    (z_repr : PySem.W.nsIn K mainGlobals "repr" = some none)
    (z_sorted : PySem.W.nsIn K mainGlobals "sorted" = some none)
    (z_str : PySem.W.nsIn K mainGlobals "str" = some none)
    (z_tuple : PySem.W.nsIn K mainGlobals "tuple" = some none)
    (z_abs : PySem.W.nsIn K mainGlobals "abs" = some none)
    (k_MOST_NAMES : PySem.W.nsIn K mainGlobals "MOST_NAMES" = some (some (.int 200 t_MOST_NAMES)))
    (k_MOST_SIGNS : PySem.W.nsIn K mainGlobals "MOST_SIGNS" = some (some (.int 8 t_MOST_SIGNS))) :
    ∃ fd : FuncData, (∀ (s : Shared) (v : Value), BindsTo s fd ⟨[v], []⟩ [("script", v)]) ∧ ∀ base : Heap, K.In base → base.Ns mainGlobals mg → FnG l.prog w K mg base CX0 9 fa fd ["script"] (spLaw K) := by
  have e := hfa.symm.trans (PySem.W.mg_of X G a_law)
  cases e
  exact ⟨PySem.W.fnOf "law" "law" (defArgs s_law) (defBody s_law) (defScope s_law) .none kV_law dc_law pm_law an_law cd_law ct_law, fun s v => .of_eq rfl, fun base _ _ => ok_law {
    C_History := C_History,
    c_History := ⟨pg_History, hd_History, po_History, sa_History⟩,
    m_History := PySem.W.mg_of X G aC_History,
    n_History_kept_parents := nA_History_kept_parents,
    n_History_kept_tables := nA_History_kept_tables,
    a_is_integer := f_is_integer,
    d_is_integer := PySem.W.fnOf "is_integer" "is_integer" (defArgs s_is_integer) (defBody s_is_integer) (defScope s_is_integer) .none kV_is_integer dc_is_integer pm_is_integer an_is_integer cd_is_integer ct_is_integer,
    F_is_integer := fun_mk (st := s_is_integer) l_is_integer c_is_integer k_is_integer,
    b_is_integer := (fun_mk (st := s_is_integer) l_is_integer c_is_integer k_is_integer).binds (ps := ["thing"]) fun _ _ _ _ _ _ us hl => match us, hl with | [_], _ => rfl,
    m_is_integer := PySem.W.mg_of X G a_is_integer,
    a_is_within := f_is_within,
    d_is_within := PySem.W.fnOf "is_within" "is_within" (defArgs s_is_within) (defBody s_is_within) (defScope s_is_within) .none kV_is_within dc_is_within pm_is_within an_is_within cd_is_within ct_is_within,
    F_is_within := fun_mk (st := s_is_within) l_is_within c_is_within k_is_within,
    b_is_within := (fun_mk (st := s_is_within) l_is_within c_is_within k_is_within).binds (ps := ["thing", "least", "most"]) fun _ _ _ _ _ _ us hl => match us, hl with | [_, _, _], _ => rfl,
    m_is_within := PySem.W.mg_of X G a_is_within,
    a_is_name := f_is_name,
    d_is_name := PySem.W.fnOf "is_name" "is_name" (defArgs s_is_name) (defBody s_is_name) (defScope s_is_name) .none kV_is_name dc_is_name pm_is_name an_is_name cd_is_name ct_is_name,
    F_is_name := fun_mk (st := s_is_name) l_is_name c_is_name k_is_name,
    b_is_name := (fun_mk (st := s_is_name) l_is_name c_is_name k_is_name).binds (ps := ["thing"]) fun _ _ _ _ _ _ us hl => match us, hl with | [_], _ => rfl,
    m_is_name := PySem.W.mg_of X G a_is_name,
    a_is_word := f_is_word,
    d_is_word := PySem.W.fnOf "is_word" "is_word" (defArgs s_is_word) (defBody s_is_word) (defScope s_is_word) .none kV_is_word dc_is_word pm_is_word an_is_word cd_is_word ct_is_word,
    F_is_word := fun_mk (st := s_is_word) l_is_word c_is_word k_is_word,
    b_is_word := (fun_mk (st := s_is_word) l_is_word c_is_word k_is_word).binds (ps := ["thing"]) fun _ _ _ _ _ _ us hl => match us, hl with | [_], _ => rfl,
    m_is_word := PySem.W.mg_of X G a_is_word,
    a_is_value := f_is_value,
    d_is_value := PySem.W.fnOf "is_value" "is_value" (defArgs s_is_value) (defBody s_is_value) (defScope s_is_value) .none kV_is_value dc_is_value pm_is_value an_is_value cd_is_value ct_is_value,
    F_is_value := fun_mk (st := s_is_value) l_is_value c_is_value k_is_value,
    b_is_value := (fun_mk (st := s_is_value) l_is_value c_is_value k_is_value).binds (ps := ["thing"]) fun _ _ _ _ _ _ us hl => match us, hl with | [_], _ => rfl,
    m_is_value := PySem.W.mg_of X G a_is_value,
    a_is_flat_table := f_is_flat_table,
    d_is_flat_table := PySem.W.fnOf "is_flat_table" "is_flat_table" (defArgs s_is_flat_table) (defBody s_is_flat_table) (defScope s_is_flat_table) .none kV_is_flat_table dc_is_flat_table pm_is_flat_table an_is_flat_table cd_is_flat_table ct_is_flat_table,
    F_is_flat_table := fun_mk (st := s_is_flat_table) l_is_flat_table c_is_flat_table k_is_flat_table,
    b_is_flat_table := (fun_mk (st := s_is_flat_table) l_is_flat_table c_is_flat_table k_is_flat_table).binds (ps := ["thing"]) fun _ _ _ _ _ _ us hl => match us, hl with | [_], _ => rfl,
    m_is_flat_table := PySem.W.mg_of X G a_is_flat_table,
    a_check_flat := f_check_flat,
    d_check_flat := PySem.W.fnOf "check_flat" "check_flat" (defArgs s_check_flat) (defBody s_check_flat) (defScope s_check_flat) .none kV_check_flat dc_check_flat pm_check_flat an_check_flat cd_check_flat ct_check_flat,
    F_check_flat := fun_mk (st := s_check_flat) l_check_flat c_check_flat k_check_flat,
    b_check_flat := (fun_mk (st := s_check_flat) l_check_flat c_check_flat k_check_flat).binds (ps := ["table"]) fun _ _ _ _ _ _ us hl => match us, hl with | [_], _ => rfl,
    m_check_flat := PySem.W.mg_of X G a_check_flat,
    a_all_names := f_all_names,
    d_all_names := PySem.W.fnOf "all_names" "all_names" (defArgs s_all_names) (defBody s_all_names) (defScope s_all_names) .none kV_all_names dc_all_names pm_all_names an_all_names cd_all_names ct_all_names,
    F_all_names := fun_mk (st := s_all_names) l_all_names c_all_names k_all_names,
    b_all_names := (fun_mk (st := s_all_names) l_all_names c_all_names k_all_names).binds (ps := ["tables"]) fun _ _ _ _ _ _ us hl => match us, hl with | [_], _ => rfl,
    m_all_names := PySem.W.mg_of X G a_all_names,
    a_merged_value := f_merged_value,
    d_merged_value := PySem.W.fnOf "merged_value" "merged_value" (defArgs s_merged_value) (defBody s_merged_value) (defScope s_merged_value) .none kV_merged_value dc_merged_value pm_merged_value an_merged_value cd_merged_value ct_merged_value,
    F_merged_value := fun_mk (st := s_merged_value) l_merged_value c_merged_value k_merged_value,
    b_merged_value := (fun_mk (st := s_merged_value) l_merged_value c_merged_value k_merged_value).binds (ps := ["old", "first", "second"]) fun _ _ _ _ _ _ us hl => match us, hl with | [_, _, _], _ => rfl,
    m_merged_value := PySem.W.mg_of X G a_merged_value,
    a_raw_merged := f_raw_merged,
    d_raw_merged := PySem.W.fnOf "raw_merged" "raw_merged" (defArgs s_raw_merged) (defBody s_raw_merged) (defScope s_raw_merged) .none kV_raw_merged dc_raw_merged pm_raw_merged an_raw_merged cd_raw_merged ct_raw_merged,
    F_raw_merged := fun_mk (st := s_raw_merged) l_raw_merged c_raw_merged k_raw_merged,
    b_raw_merged := (fun_mk (st := s_raw_merged) l_raw_merged c_raw_merged k_raw_merged).binds (ps := ["base", "one", "other"]) fun _ _ _ _ _ _ us hl => match us, hl with | [_, _, _], _ => rfl,
    m_raw_merged := PySem.W.mg_of X G a_raw_merged,
    a_merged := f_merged,
    d_merged := PySem.W.fnOf "merged" "merged" (defArgs s_merged) (defBody s_merged) (defScope s_merged) .none kV_merged dc_merged pm_merged an_merged cd_merged ct_merged,
    F_merged := fun_mk (st := s_merged) l_merged c_merged k_merged,
    b_merged := (fun_mk (st := s_merged) l_merged c_merged k_merged).binds (ps := ["base", "one", "other"]) fun _ _ _ _ _ _ us hl => match us, hl with | [_, _, _], _ => rfl,
    m_merged := PySem.W.mg_of X G a_merged,
    a_History___init__ := f_History___init__,
    d_History___init__ := PySem.W.fnOf "__init__" "History.__init__" (defArgs s_History___init__) (defBody s_History___init__) (defScope s_History___init__) .none kV_History___init__ dc_History___init__ pm_History___init__ an_History___init__ cd_History___init__ ct_History___init__,
    F_History___init__ := fun_mk (st := s_History___init__) l_History___init__ c_History___init__ k_History___init__,
    b_History___init__ := (fun_mk (st := s_History___init__) l_History___init__ c_History___init__ k_History___init__).binds (ps := ["self", "table"]) fun _ _ _ _ _ _ us hl => match us, hl with | [_, _], _ => rfl,
    M_History := ⟨mk_History, a_History___init__, i_History___init__, kc_History⟩,
    a_History_check_version := f_History_check_version,
    d_History_check_version := PySem.W.fnOf "check_version" "History.check_version" (defArgs s_History_check_version) (defBody s_History_check_version) (defScope s_History_check_version) .none kV_History_check_version dc_History_check_version pm_History_check_version an_History_check_version cd_History_check_version ct_History_check_version,
    F_History_check_version := fun_mk (st := s_History_check_version) l_History_check_version c_History_check_version k_History_check_version,
    b_History_check_version := (fun_mk (st := s_History_check_version) l_History_check_version c_History_check_version k_History_check_version).binds (ps := ["self", "version"]) fun _ _ _ _ _ _ us hl => match us, hl with | [_, _], _ => rfl,
    M_History_check_version := ⟨a_History_check_version, i_History_check_version, k_History_check_version⟩,
    a_History_enter := f_History_enter,
    d_History_enter := PySem.W.fnOf "enter" "History.enter" (defArgs s_History_enter) (defBody s_History_enter) (defScope s_History_enter) .none kV_History_enter dc_History_enter pm_History_enter an_History_enter cd_History_enter ct_History_enter,
    F_History_enter := fun_mk (st := s_History_enter) l_History_enter c_History_enter k_History_enter,
    b_History_enter := (fun_mk (st := s_History_enter) l_History_enter c_History_enter k_History_enter).binds (ps := ["self", "table", "parents"]) fun _ _ _ _ _ _ us hl => match us, hl with | [_, _, _], _ => rfl,
    M_History_enter := ⟨a_History_enter, i_History_enter, k_History_enter⟩,
    a_History_commit := f_History_commit,
    d_History_commit := PySem.W.fnOf "commit" "History.commit" (defArgs s_History_commit) (defBody s_History_commit) (defScope s_History_commit) .none kV_History_commit dc_History_commit pm_History_commit an_History_commit cd_History_commit ct_History_commit,
    F_History_commit := fun_mk (st := s_History_commit) l_History_commit c_History_commit k_History_commit,
    b_History_commit := (fun_mk (st := s_History_commit) l_History_commit c_History_commit k_History_commit).binds (ps := ["self", "version", "table"]) fun _ _ _ _ _ _ us hl => match us, hl with | [_, _, _], _ => rfl,
    M_History_commit := ⟨a_History_commit, i_History_commit, k_History_commit⟩,
    a_History_table_of := f_History_table_of,
    d_History_table_of := PySem.W.fnOf "table_of" "History.table_of" (defArgs s_History_table_of) (defBody s_History_table_of) (defScope s_History_table_of) .none kV_History_table_of dc_History_table_of pm_History_table_of an_History_table_of cd_History_table_of ct_History_table_of,
    F_History_table_of := fun_mk (st := s_History_table_of) l_History_table_of c_History_table_of k_History_table_of,
    b_History_table_of := (fun_mk (st := s_History_table_of) l_History_table_of c_History_table_of k_History_table_of).binds (ps := ["self", "version"]) fun _ _ _ _ _ _ us hl => match us, hl with | [_, _], _ => rfl,
    M_History_table_of := ⟨a_History_table_of, i_History_table_of, k_History_table_of⟩,
    a_History_parents := f_History_parents,
    d_History_parents := PySem.W.fnOf "parents" "History.parents" (defArgs s_History_parents) (defBody s_History_parents) (defScope s_History_parents) .none kV_History_parents dc_History_parents pm_History_parents an_History_parents cd_History_parents ct_History_parents,
    F_History_parents := fun_mk (st := s_History_parents) l_History_parents c_History_parents k_History_parents,
    b_History_parents := (fun_mk (st := s_History_parents) l_History_parents c_History_parents k_History_parents).binds (ps := ["self", "version"]) fun _ _ _ _ _ _ us hl => match us, hl with | [_, _], _ => rfl,
    M_History_parents := ⟨a_History_parents, i_History_parents, k_History_parents⟩,
    a_History_line_of := f_History_line_of,
    d_History_line_of := PySem.W.fnOf "line_of" "History.line_of" (defArgs s_History_line_of) (defBody s_History_line_of) (defScope s_History_line_of) .none kV_History_line_of dc_History_line_of pm_History_line_of an_History_line_of cd_History_line_of ct_History_line_of,
    F_History_line_of := fun_mk (st := s_History_line_of) l_History_line_of c_History_line_of k_History_line_of,
    b_History_line_of := (fun_mk (st := s_History_line_of) l_History_line_of c_History_line_of k_History_line_of).binds (ps := ["self", "version"]) fun _ _ _ _ _ _ us hl => match us, hl with | [_, _], _ => rfl,
    M_History_line_of := ⟨a_History_line_of, i_History_line_of, k_History_line_of⟩,
    a_History_elders := f_History_elders,
    d_History_elders := PySem.W.fnOf "elders" "History.elders" (defArgs s_History_elders) (defBody s_History_elders) (defScope s_History_elders) .none kV_History_elders dc_History_elders pm_History_elders an_History_elders cd_History_elders ct_History_elders,
    F_History_elders := fun_mk (st := s_History_elders) l_History_elders c_History_elders k_History_elders,
    b_History_elders := (fun_mk (st := s_History_elders) l_History_elders c_History_elders k_History_elders).binds (ps := ["self", "version"]) fun _ _ _ _ _ _ us hl => match us, hl with | [_, _], _ => rfl,
    M_History_elders := ⟨a_History_elders, i_History_elders, k_History_elders⟩,
    a_History_raw_bases := f_History_raw_bases,
    d_History_raw_bases := PySem.W.fnOf "raw_bases" "History.raw_bases" (defArgs s_History_raw_bases) (defBody s_History_raw_bases) (defScope s_History_raw_bases) .none kV_History_raw_bases dc_History_raw_bases pm_History_raw_bases an_History_raw_bases cd_History_raw_bases ct_History_raw_bases,
    F_History_raw_bases := fun_mk (st := s_History_raw_bases) l_History_raw_bases c_History_raw_bases k_History_raw_bases,
    b_History_raw_bases := (fun_mk (st := s_History_raw_bases) l_History_raw_bases c_History_raw_bases k_History_raw_bases).binds (ps := ["self", "one", "other"]) fun _ _ _ _ _ _ us hl => match us, hl with | [_, _, _], _ => rfl,
    M_History_raw_bases := ⟨a_History_raw_bases, i_History_raw_bases, k_History_raw_bases⟩,
    a_History_bases := f_History_bases,
    d_History_bases := PySem.W.fnOf "bases" "History.bases" (defArgs s_History_bases) (defBody s_History_bases) (defScope s_History_bases) .none kV_History_bases dc_History_bases pm_History_bases an_History_bases cd_History_bases ct_History_bases,
    F_History_bases := fun_mk (st := s_History_bases) l_History_bases c_History_bases k_History_bases,
    b_History_bases := (fun_mk (st := s_History_bases) l_History_bases c_History_bases k_History_bases).binds (ps := ["self", "one", "other"]) fun _ _ _ _ _ _ us hl => match us, hl with | [_, _, _], _ => rfl,
    M_History_bases := ⟨a_History_bases, i_History_bases, k_History_bases⟩,
    a_History_merge := f_History_merge,
    d_History_merge := PySem.W.fnOf "merge" "History.merge" (defArgs s_History_merge) (defBody s_History_merge) (defScope s_History_merge) .none kV_History_merge dc_History_merge pm_History_merge an_History_merge cd_History_merge ct_History_merge,
    F_History_merge := fun_mk (st := s_History_merge) l_History_merge c_History_merge k_History_merge,
    b_History_merge := (fun_mk (st := s_History_merge) l_History_merge c_History_merge k_History_merge).binds (ps := ["self", "one", "other"]) fun _ _ _ _ _ _ us hl => match us, hl with | [_, _, _], _ => rfl,
    M_History_merge := ⟨a_History_merge, i_History_merge, k_History_merge⟩,
    a_History_since := f_History_since,
    d_History_since := PySem.W.fnOf "since" "History.since" (defArgs s_History_since) (defBody s_History_since) (defScope s_History_since) .none kV_History_since dc_History_since pm_History_since an_History_since cd_History_since ct_History_since,
    F_History_since := fun_mk (st := s_History_since) l_History_since c_History_since k_History_since,
    b_History_since := (fun_mk (st := s_History_since) l_History_since c_History_since k_History_since).binds (ps := ["self", "one", "other"]) fun _ _ _ _ _ _ us hl => match us, hl with | [_, _, _], _ => rfl,
    M_History_since := ⟨a_History_since, i_History_since, k_History_since⟩,
    a_law_tape := f_law_tape,
    d_law_tape := PySem.W.fnOf "_law_tape" "_law_tape" (defArgs s_law_tape) (defBody s_law_tape) (defScope s_law_tape) .none kV_law_tape dc_law_tape pm_law_tape an_law_tape cd_law_tape ct_law_tape,
    F_law_tape := fun_mk (st := s_law_tape) l_law_tape c_law_tape k_law_tape,
    b_law_tape := (fun_mk (st := s_law_tape) l_law_tape c_law_tape k_law_tape).binds (ps := ["script"]) fun _ _ _ _ _ _ us hl => match us, hl with | [_], _ => rfl,
    m_law_tape := PySem.W.mg_of X G a_law_tape,
    a_law_pick := f_law_pick,
    d_law_pick := PySem.W.fnOf "_law_pick" "_law_pick" (defArgs s_law_pick) (defBody s_law_pick) (defScope s_law_pick) .none kV_law_pick dc_law_pick pm_law_pick an_law_pick cd_law_pick ct_law_pick,
    F_law_pick := fun_mk (st := s_law_pick) l_law_pick c_law_pick k_law_pick,
    b_law_pick := (fun_mk (st := s_law_pick) l_law_pick c_law_pick k_law_pick).binds (ps := ["tape", "many"]) fun _ _ _ _ _ _ us hl => match us, hl with | [_, _], _ => rfl,
    m_law_pick := PySem.W.mg_of X G a_law_pick,
    a_law_any := f_law_any,
    d_law_any := PySem.W.fnOf "_law_any" "_law_any" (defArgs s_law_any) (defBody s_law_any) (defScope s_law_any) .none kV_law_any dc_law_any pm_law_any an_law_any cd_law_any ct_law_any,
    F_law_any := fun_mk (st := s_law_any) l_law_any c_law_any k_law_any,
    b_law_any := (fun_mk (st := s_law_any) l_law_any c_law_any k_law_any).binds (ps := ["tape", "things"]) fun _ _ _ _ _ _ us hl => match us, hl with | [_, _], _ => rfl,
    m_law_any := PySem.W.mg_of X G a_law_any,
    a_law_table := f_law_table,
    d_law_table := PySem.W.fnOf "_law_table" "_law_table" (defArgs s_law_table) (defBody s_law_table) (defScope s_law_table) .none kV_law_table dc_law_table pm_law_table an_law_table cd_law_table ct_law_table,
    F_law_table := fun_mk (st := s_law_table) l_law_table c_law_table k_law_table,
    b_law_table := (fun_mk (st := s_law_table) l_law_table c_law_table k_law_table).binds (ps := ["tape", "names"]) fun _ _ _ _ _ _ us hl => match us, hl with | [_, _], _ => rfl,
    m_law_table := PySem.W.mg_of X G a_law_table,
    a_law_turned := f_law_turned,
    d_law_turned := PySem.W.fnOf "_law_turned" "_law_turned" (defArgs s_law_turned) (defBody s_law_turned) (defScope s_law_turned) .none kV_law_turned dc_law_turned pm_law_turned an_law_turned cd_law_turned ct_law_turned,
    F_law_turned := fun_mk (st := s_law_turned) l_law_turned c_law_turned k_law_turned,
    b_law_turned := (fun_mk (st := s_law_turned) l_law_turned c_law_turned k_law_turned).binds (ps := ["tape", "names", "table"]) fun _ _ _ _ _ _ us hl => match us, hl with | [_, _, _], _ => rfl,
    m_law_turned := PySem.W.mg_of X G a_law_turned,
    a_law_merged := f_law_merged,
    d_law_merged := PySem.W.fnOf "_law_merged" "_law_merged" (defArgs s_law_merged) (defBody s_law_merged) (defScope s_law_merged) .none kV_law_merged dc_law_merged pm_law_merged an_law_merged cd_law_merged ct_law_merged,
    F_law_merged := fun_mk (st := s_law_merged) l_law_merged c_law_merged k_law_merged,
    b_law_merged := (fun_mk (st := s_law_merged) l_law_merged c_law_merged k_law_merged).binds (ps := ["base", "one", "other"]) fun _ _ _ _ _ _ us hl => match us, hl with | [_, _, _], _ => rfl,
    m_law_merged := PySem.W.mg_of X G a_law_merged,
    a_law_elders := f_law_elders,
    d_law_elders := PySem.W.fnOf "_law_elders" "_law_elders" (defArgs s_law_elders) (defBody s_law_elders) (defScope s_law_elders) .none kV_law_elders dc_law_elders pm_law_elders an_law_elders cd_law_elders ct_law_elders,
    F_law_elders := fun_mk (st := s_law_elders) l_law_elders c_law_elders k_law_elders,
    b_law_elders := (fun_mk (st := s_law_elders) l_law_elders c_law_elders k_law_elders).binds (ps := ["lines", "version"]) fun _ _ _ _ _ _ us hl => match us, hl with | [_, _], _ => rfl,
    m_law_elders := PySem.W.mg_of X G a_law_elders,
    a_law_bases := f_law_bases,
    d_law_bases := PySem.W.fnOf "_law_bases" "_law_bases" (defArgs s_law_bases) (defBody s_law_bases) (defScope s_law_bases) .none kV_law_bases dc_law_bases pm_law_bases an_law_bases cd_law_bases ct_law_bases,
    F_law_bases := fun_mk (st := s_law_bases) l_law_bases c_law_bases k_law_bases,
    b_law_bases := (fun_mk (st := s_law_bases) l_law_bases c_law_bases k_law_bases).binds (ps := ["lines", "one", "other"]) fun _ _ _ _ _ _ us hl => match us, hl with | [_, _, _], _ => rfl,
    m_law_bases := PySem.W.mg_of X G a_law_bases,
    a_law_grown := f_law_grown,
    d_law_grown := PySem.W.fnOf "_law_grown" "_law_grown" (defArgs s_law_grown) (defBody s_law_grown) (defScope s_law_grown) .none kV_law_grown dc_law_grown pm_law_grown an_law_grown cd_law_grown ct_law_grown,
    F_law_grown := fun_mk (st := s_law_grown) l_law_grown c_law_grown k_law_grown,
    b_law_grown := (fun_mk (st := s_law_grown) l_law_grown c_law_grown k_law_grown).binds (ps := ["tape", "history", "lines", "names"]) fun _ _ _ _ _ _ us hl => match us, hl with | [_, _, _, _], _ => rfl,
    m_law_grown := PySem.W.mg_of X G a_law_grown,
    a_law_stands := f_law_stands,
    d_law_stands := PySem.W.fnOf "_law_stands" "_law_stands" (defArgs s_law_stands) (defBody s_law_stands) (defScope s_law_stands) .none kV_law_stands dc_law_stands pm_law_stands an_law_stands cd_law_stands ct_law_stands,
    F_law_stands := fun_mk (st := s_law_stands) l_law_stands c_law_stands k_law_stands,
    b_law_stands := (fun_mk (st := s_law_stands) l_law_stands c_law_stands k_law_stands).binds (ps := ["tape", "history", "lines"]) fun _ _ _ _ _ _ us hl => match us, hl with | [_, _, _], _ => rfl,
    m_law_stands := PySem.W.mg_of X G a_law_stands,
    a_law_known_right := f_law_known_right,
    d_law_known_right := PySem.W.fnOf "_law_known_right" "_law_known_right" (defArgs s_law_known_right) (defBody s_law_known_right) (defScope s_law_known_right) .none kV_law_known_right dc_law_known_right pm_law_known_right an_law_known_right cd_law_known_right ct_law_known_right,
    F_law_known_right := fun_mk (st := s_law_known_right) l_law_known_right c_law_known_right k_law_known_right,
    b_law_known_right := (fun_mk (st := s_law_known_right) l_law_known_right c_law_known_right k_law_known_right).binds (ps := []) fun _ _ _ _ _ _ us hl => match us, hl with | [], _ => rfl,
    m_law_known_right := PySem.W.mg_of X G a_law_known_right,
    a_law := fa,
    d_law := PySem.W.fnOf "law" "law" (defArgs s_law) (defBody s_law) (defScope s_law) .none kV_law dc_law pm_law an_law cd_law ct_law,
    F_law := fun_mk (st := s_law) l_law c_law k_law,
    b_law := (fun_mk (st := s_law) l_law c_law k_law).binds (ps := ["script"]) fun _ _ _ _ _ _ us hl => match us, hl with | [_], _ => rfl,
    m_law := PySem.W.mg_of X G a_law,
    z_all := PySem.W.mg_none_of X G z_all,
    z_any := PySem.W.mg_none_of X G z_any,
    z_bool := PySem.W.mg_none_of X G z_bool,
    z_dict := PySem.W.mg_none_of X G z_dict,
    z_int := PySem.W.mg_none_of X G z_int,
    z_isinstance := PySem.W.mg_none_of X G z_isinstance,
    z_len := PySem.W.mg_none_of X G z_len,
    z_list := PySem.W.mg_none_of X G z_list,
    z_range := PySem.W.mg_none_of X G z_range,
    z_repr := PySem.W.mg_none_of X G z_repr,
    z_sorted := PySem.W.mg_none_of X G z_sorted,
    z_str := PySem.W.mg_none_of X G z_str,
    z_tuple := PySem.W.mg_none_of X G z_tuple,
    k_MOST_NAMES := ⟨_, PySem.W.mg_of X G k_MOST_NAMES⟩,
    k_MOST_SIGNS := ⟨_, PySem.W.mg_of X G k_MOST_SIGNS⟩,
    k_MOST_VALUE := hMV } (PySem.W.mg_none_of X G z_abs)⟩
end KH

open PySem PySem.W PyProof.Rows in
set_option Elab.async false in
set_option maxRecDepth 100000 in
set_option maxHeartbeats 0 in
theorem PySem.Challenge.cw_keptviews_k67_whole_histories_by_an_own_holds : PySem.Challenge.rw_keptviews_k67_whole_histories_by_an_own.Holds := by
  w_on; o_law; k_head; (case hw => w_witness2)
  k_fill
  refine KH.walkX (l := PySem.Challenge.rw_keptviews_k67_whole_histories_by_an_own) (n := 63) (k := 9) (x := "script") (sp := KH.spLaw) rfl (by decide) rfl ⟨⟨rfl, by decide, by decide⟩, rfl⟩ (fun w h Y => PySem.W.kIn_of Y) ?F (fun K H a ns hl _ hS => ⟨a, ns, rfl, hS, hl, fun _ => rfl⟩)
  case F =>
    intro w mg fa h KX G hmg xp
    refine' KH.all_mk KX G hmg (KH.mv_of xp) ?aC_History ?pg_History ?hd_History ?po_History ?sa_History ?mk_History ?kc_History ?nA_History_kept_parents ?nA_History_kept_tables ?a_is_integer ?l_is_integer ?c_is_integer ?k_is_integer ?a_is_within ?l_is_within ?c_is_within ?k_is_within ?a_is_name ?l_is_name ?c_is_name ?k_is_name ?a_is_word ?l_is_word ?c_is_word ?k_is_word ?a_is_value ?l_is_value ?c_is_value ?k_is_value ?a_is_flat_table ?l_is_flat_table ?c_is_flat_table ?k_is_flat_table ?a_check_flat ?l_check_flat ?c_check_flat ?k_check_flat ?a_all_names ?l_all_names ?c_all_names ?k_all_names ?a_merged_value ?l_merged_value ?c_merged_value ?k_merged_value ?a_raw_merged ?l_raw_merged ?c_raw_merged ?k_raw_merged ?a_merged ?l_merged ?c_merged ?k_merged ?a_History___init__ ?i_History___init__ ?l_History___init__ ?c_History___init__ ?k_History___init__ ?a_History_check_version ?i_History_check_version ?l_History_check_version ?c_History_check_version ?k_History_check_version ?a_History_enter ?i_History_enter ?l_History_enter ?c_History_enter ?k_History_enter ?a_History_commit ?i_History_commit ?l_History_commit ?c_History_commit ?k_History_commit ?a_History_table_of ?i_History_table_of ?l_History_table_of ?c_History_table_of ?k_History_table_of ?a_History_parents ?i_History_parents ?l_History_parents ?c_History_parents ?k_History_parents ?a_History_line_of ?i_History_line_of ?l_History_line_of ?c_History_line_of ?k_History_line_of ?a_History_elders ?i_History_elders ?l_History_elders ?c_History_elders ?k_History_elders ?a_History_raw_bases ?i_History_raw_bases ?l_History_raw_bases ?c_History_raw_bases ?k_History_raw_bases ?a_History_bases ?i_History_bases ?l_History_bases ?c_History_bases ?k_History_bases ?a_History_merge ?i_History_merge ?l_History_merge ?c_History_merge ?k_History_merge ?a_History_since ?i_History_since ?l_History_since ?c_History_since ?k_History_since ?a_law_tape ?l_law_tape ?c_law_tape ?k_law_tape ?a_law_pick ?l_law_pick ?c_law_pick ?k_law_pick ?a_law_any ?l_law_any ?c_law_any ?k_law_any ?a_law_table ?l_law_table ?c_law_table ?k_law_table ?a_law_turned ?l_law_turned ?c_law_turned ?k_law_turned ?a_law_merged ?l_law_merged ?c_law_merged ?k_law_merged ?a_law_elders ?l_law_elders ?c_law_elders ?k_law_elders ?a_law_bases ?l_law_bases ?c_law_bases ?k_law_bases ?a_law_grown ?l_law_grown ?c_law_grown ?k_law_grown ?a_law_stands ?l_law_stands ?c_law_stands ?k_law_stands ?a_law_known_right ?l_law_known_right ?c_law_known_right ?k_law_known_right ?a_law ?l_law ?c_law ?k_law ?z_all ?z_any ?z_bool ?z_dict ?z_int ?z_isinstance ?z_len ?z_list ?z_range ?z_repr ?z_sorted ?z_str ?z_tuple ?z_abs ?k_MOST_NAMES ?k_MOST_SIGNS
    (case aC_History => k_is)
    (case pg_History => k_is)
    (case hd_History => k_is)
    (case po_History => k_is)
    (case sa_History => k_is)
    (case mk_History => k_is)
    (case kc_History => k_is)
    (case nA_History_kept_parents => k_is)
    (case nA_History_kept_tables => k_is)
    (case a_is_integer => k_is)
    (case l_is_integer => k_is)
    (case c_is_integer => k_is)
    (case k_is_integer => k_is)
    (case a_is_within => k_is)
    (case l_is_within => k_is)
    (case c_is_within => k_is)
    (case k_is_within => k_is)
    (case a_is_name => k_is)
    (case l_is_name => k_is)
    (case c_is_name => k_is)
    (case k_is_name => k_is)
    (case a_is_word => k_is)
    (case l_is_word => k_is)
    (case c_is_word => k_is)
    (case k_is_word => k_is)
    (case a_is_value => k_is)
    (case l_is_value => k_is)
    (case c_is_value => k_is)
    (case k_is_value => k_is)
    (case a_is_flat_table => k_is)
    (case l_is_flat_table => k_is)
    (case c_is_flat_table => k_is)
    (case k_is_flat_table => k_is)
    (case a_check_flat => k_is)
    (case l_check_flat => k_is)
    (case c_check_flat => k_is)
    (case k_check_flat => k_is)
    (case a_all_names => k_is)
    (case l_all_names => k_is)
    (case c_all_names => k_is)
    (case k_all_names => k_is)
    (case a_merged_value => k_is)
    (case l_merged_value => k_is)
    (case c_merged_value => k_is)
    (case k_merged_value => k_is)
    (case a_raw_merged => k_is)
    (case l_raw_merged => k_is)
    (case c_raw_merged => k_is)
    (case k_raw_merged => k_is)
    (case a_merged => k_is)
    (case l_merged => k_is)
    (case c_merged => k_is)
    (case k_merged => k_is)
    (case a_History___init__ => k_is)
    (case i_History___init__ => k_is)
    (case l_History___init__ => k_is)
    (case c_History___init__ => k_is)
    (case k_History___init__ => k_is)
    (case a_History_check_version => k_is)
    (case i_History_check_version => k_is)
    (case l_History_check_version => k_is)
    (case c_History_check_version => k_is)
    (case k_History_check_version => k_is)
    (case a_History_enter => k_is)
    (case i_History_enter => k_is)
    (case l_History_enter => k_is)
    (case c_History_enter => k_is)
    (case k_History_enter => k_is)
    (case a_History_commit => k_is)
    (case i_History_commit => k_is)
    (case l_History_commit => k_is)
    (case c_History_commit => k_is)
    (case k_History_commit => k_is)
    (case a_History_table_of => k_is)
    (case i_History_table_of => k_is)
    (case l_History_table_of => k_is)
    (case c_History_table_of => k_is)
    (case k_History_table_of => k_is)
    (case a_History_parents => k_is)
    (case i_History_parents => k_is)
    (case l_History_parents => k_is)
    (case c_History_parents => k_is)
    (case k_History_parents => k_is)
    (case a_History_line_of => k_is)
    (case i_History_line_of => k_is)
    (case l_History_line_of => k_is)
    (case c_History_line_of => k_is)
    (case k_History_line_of => k_is)
    (case a_History_elders => k_is)
    (case i_History_elders => k_is)
    (case l_History_elders => k_is)
    (case c_History_elders => k_is)
    (case k_History_elders => k_is)
    (case a_History_raw_bases => k_is)
    (case i_History_raw_bases => k_is)
    (case l_History_raw_bases => k_is)
    (case c_History_raw_bases => k_is)
    (case k_History_raw_bases => k_is)
    (case a_History_bases => k_is)
    (case i_History_bases => k_is)
    (case l_History_bases => k_is)
    (case c_History_bases => k_is)
    (case k_History_bases => k_is)
    (case a_History_merge => k_is)
    (case i_History_merge => k_is)
    (case l_History_merge => k_is)
    (case c_History_merge => k_is)
    (case k_History_merge => k_is)
    (case a_History_since => k_is)
    (case i_History_since => k_is)
    (case l_History_since => k_is)
    (case c_History_since => k_is)
    (case k_History_since => k_is)
    (case a_law_tape => k_is)
    (case l_law_tape => k_is)
    (case c_law_tape => k_is)
    (case k_law_tape => k_is)
    (case a_law_pick => k_is)
    (case l_law_pick => k_is)
    (case c_law_pick => k_is)
    (case k_law_pick => k_is)
    (case a_law_any => k_is)
    (case l_law_any => k_is)
    (case c_law_any => k_is)
    (case k_law_any => k_is)
    (case a_law_table => k_is)
    (case l_law_table => k_is)
    (case c_law_table => k_is)
    (case k_law_table => k_is)
    (case a_law_turned => k_is)
    (case l_law_turned => k_is)
    (case c_law_turned => k_is)
    (case k_law_turned => k_is)
    (case a_law_merged => k_is)
    (case l_law_merged => k_is)
    (case c_law_merged => k_is)
    (case k_law_merged => k_is)
    (case a_law_elders => k_is)
    (case l_law_elders => k_is)
    (case c_law_elders => k_is)
    (case k_law_elders => k_is)
    (case a_law_bases => k_is)
    (case l_law_bases => k_is)
    (case c_law_bases => k_is)
    (case k_law_bases => k_is)
    (case a_law_grown => k_is)
    (case l_law_grown => k_is)
    (case c_law_grown => k_is)
    (case k_law_grown => k_is)
    (case a_law_stands => k_is)
    (case l_law_stands => k_is)
    (case c_law_stands => k_is)
    (case k_law_stands => k_is)
    (case a_law_known_right => k_is)
    (case l_law_known_right => k_is)
    (case c_law_known_right => k_is)
    (case k_law_known_right => k_is)
    (case a_law => k_is)
    (case l_law => k_is)
    (case c_law => k_is)
    (case k_law => k_is)
    (case z_all => k_is)
    (case z_any => k_is)
    (case z_bool => k_is)
    (case z_dict => k_is)
    (case z_int => k_is)
    (case z_isinstance => k_is)
    (case z_len => k_is)
    (case z_list => k_is)
    (case z_range => k_is)
    (case z_repr => k_is)
    (case z_sorted => k_is)
    (case z_str => k_is)
    (case z_tuple => k_is)
    (case z_abs => k_is)
    (case k_MOST_NAMES => k_is)
    (case k_MOST_SIGNS => k_is)

