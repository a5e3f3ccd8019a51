import PyProof.Rows.All
import Wide.All
import OpenK.AllK
import Wide.FinOn
import HandS.ForMost
import HandS.Exc
import HandS.Lambda
import HandS.Iter
import HandS.ExcOwn
import HandS.Style
import HandS.WordsExc
import HandS.TupAny
import HandS.Wide
import KE.KEqNest
import HandS.DictEq
import PyProof.ReprRoads
import HandS.RaiseMore
import KE.DataEq
import HandS.DictComp
import HandS.ListItems
import HandS.IsInst
import HandS.SortInts
import HandS.More
import HandS.TupLen
import HandS.Small
import HandS.ExcIs
import HandS.ExcField
import KE.DataFind
import HandS.Deep
import HandS.SetFor
import KE.KExcIs
import HandS.EndTab
import HandS.DictTup
import PyProof.Rows.SortShellAny
import KE.KDictDisplayH
import HandS.TupMul
import PyProof.ReprLen
import PySem.Challenge.RW_keptviews_k64_whole_tables_merged
set_option Elab.async false
set_option linter.all false
set_option maxRecDepth 100000
/-! VD: plain trees over the hand layer. D: values as trees; O: live objects; w: what else is known of the heap. -/
namespace VD
open PySem PySem.Spec PyProof.Rows L2

inductive D where
  | non | bl (b : Bool) | int (i : Int) | str (x : Str) | ty (n : String)
  | tup (ds : List D) | lst (ds : List D) | dic (kvs : List (Key × D)) | dct (kvs : List (List Key × D))
  | ref (a : Addr) | tape

/-- what stands at an address: frozen; kept by a caller; this def's own; a tape of draws -/
inductive Cell where
  | frz (u : HO) | fix (u : HO) | own (u : HO) | tape | tab (q : Str)
abbrev Wd := Addr → Option Cell
def Wd.put (w : Wd) (p : Addr) (c : Cell) : Wd := fun b => if b = p then some c else w b
@[simp] theorem put_same {w : Wd} {p c} : w.put p c p = some c := by simp [Wd.put]
theorem put_ne {w : Wd} {p b c} (h : b ≠ p) : w.put p c b = w b := by simp [Wd.put, h]
/-- trees stay -/
structure Le0 (w w' : Wd) : Prop where
  frz : ∀ a u, w a = some (.frz u) → w' a = some (.frz u)
  tape : ∀ a, w a = some .tape → w' a = some .tape
/-- statements: all but the own cells stays -/
def ExtS (w w' : Wd) : Prop := ∀ a x, w a = some x → (∀ u, x ≠ .own u) → w' a = some x
/-- expressions: all stays -/
def Ext (w w' : Wd) : Prop := ∀ a x, w a = some x → w' a = some x
theorem Ext.refl (w : Wd) : Ext w w := fun _ _ h => h
theorem Ext.trans {w w1 w2 : Wd} (h : Ext w w1) (k : Ext w1 w2) : Ext w w2 := fun a x e => k a x (h a x e)
theorem ExtS.refl (w : Wd) : ExtS w w := fun _ _ h _ => h
theorem ExtS.trans {w w1 w2 : Wd} (h : ExtS w w1) (k : ExtS w1 w2) : ExtS w w2 := fun a x e n => k a x (h a x e n) n
theorem Ext.s {w w' : Wd} (h : Ext w w') : ExtS w w' := fun a x e _ => h a x e
theorem ExtS.l {w w' : Wd} (h : ExtS w w') : Le0 w w' := ⟨fun a u e => h a _ e (fun _ z => by cases z), fun a e => h a _ e (fun _ z => by cases z)⟩
theorem Ext.l {w w' : Wd} (h : Ext w w') : Le0 w w' := h.s.l
theorem Le0.refl (w : Wd) : Le0 w w := ⟨fun _ _ h => h, fun _ h => h⟩
theorem Le0.trans {w w1 w2 : Wd} (h : Le0 w w1) (k : Le0 w1 w2) : Le0 w w2 := ⟨fun a u e => k.frz a u (h.frz a u e), fun a e => k.tape a (h.tape a e)⟩

mutual
inductive Rep (w : Wd) : D → V → Prop
  | non : Rep w .non .non
  | bl {b} : Rep w (.bl b) (.bl b)
  | int {i} : Rep w (.int i) (.int i)
  | str {x} : Rep w (.str x) (.str x)
  | ty {n} : Rep w (.ty n) (.ty n)
  | ref {a} : Rep w (.ref a) (.ref a)
  | tape {a} : w a = some .tape → Rep w .tape (.ref a)
  | tup {p vs ds} : w p = some (.frz (.tup vs)) → Reps w ds vs → Rep w (.tup ds) (.ref p)
  | lst {p vs ds} : w p = some (.frz (.lst vs)) → Reps w ds vs → Rep w (.lst ds) (.ref p)
  | dic {p o us kvs} : w p = some (.frz (.frz o (.dK us))) → RepK w kvs us → Rep w (.dic kvs) (.ref p)
  | dct {p o us kvs} : w p = some (.frz (.frz o (.dT us))) → RepT w kvs us → Rep w (.dct kvs) (.ref p)
inductive Reps (w : Wd) : List D → List V → Prop
  | nil : Reps w [] []
  | cons {d v ds vs} : Rep w d v → Reps w ds vs → Reps w (d :: ds) (v :: vs)
inductive RepK (w : Wd) : List (Key × D) → List (Key × V) → Prop
  | nil : RepK w [] []
  | cons {k d v ds vs} : Rep w d v → RepK w ds vs → RepK w ((k, d) :: ds) ((k, v) :: vs)
inductive RepT (w : Wd) : List (List Key × D) → List (List Key × V) → Prop
  | nil : RepT w [] []
  | cons {k d v ds vs} : Rep w d v → RepT w ds vs → RepT w ((k, d) :: ds) ((k, v) :: vs)
end
mutual
theorem Rep.mono {w w' : Wd} (h : Le0 w w') : ∀ {d v}, Rep w d v → Rep w' d v
  | _, _, .non => .non
  | _, _, .bl => .bl
  | _, _, .int => .int
  | _, _, .str => .str
  | _, _, .ty => .ty
  | _, _, .ref => .ref
  | _, _, .tape e => .tape (h.tape _ e)
  | _, _, .tup e r => .tup (h.frz _ _ e) (Reps.mono h r)
  | _, _, .lst e r => .lst (h.frz _ _ e) (Reps.mono h r)
  | _, _, .dic e r => .dic (h.frz _ _ e) (RepK.mono h r)
  | _, _, .dct e r => .dct (h.frz _ _ e) (RepT.mono h r)
theorem Reps.mono {w w' : Wd} (h : Le0 w w') : ∀ {d v}, Reps w d v → Reps w' d v
  | _, _, .nil => .nil
  | _, _, .cons e r => .cons (Rep.mono h e) (Reps.mono h r)
theorem RepK.mono {w w' : Wd} (h : Le0 w w') : ∀ {d v}, RepK w d v → RepK w' d v
  | _, _, .nil => .nil
  | _, _, .cons e r => .cons (Rep.mono h e) (RepK.mono h r)
theorem RepT.mono {w w' : Wd} (h : Le0 w w') : ∀ {d v}, RepT w d v → RepT w' d v
  | _, _, .nil => .nil
  | _, _, .cons e r => .cons (Rep.mono h e) (RepT.mono h r)
end
section
variable {w : Wd}
theorem Reps.length : ∀ {ds vs}, Reps w ds vs → ds.length = vs.length
  | _, _, .nil => rfl
  | _, _, .cons _ r => by simp [Reps.length r]
theorem Reps.get : ∀ {ds vs} {i : Nat} {d}, Reps w ds vs → ds[i]? = some d → ∃ v, vs[i]? = some v ∧ Rep w d v
  | _, _, _, _, .nil, e => by simp at e
  | _, _, 0, _, .cons h _, e => by simp at e; subst e; exact ⟨_, rfl, h⟩
  | _, _, i + 1, _, .cons _ r, e => by
    obtain ⟨v, h1, h2⟩ := Reps.get (i := i) r (by simpa using e)
    exact ⟨v, by simpa using h1, h2⟩
theorem Reps.getV : ∀ {ds vs} {i : Nat} {v}, Reps w ds vs → vs[i]? = some v → ∃ d, ds[i]? = some d ∧ Rep w d v
  | _, _, _, _, .nil, e => by simp at e
  | _, _, 0, _, .cons h _, e => by simp at e; subst e; exact ⟨_, rfl, h⟩
  | _, _, i + 1, _, .cons _ r, e => by
    obtain ⟨v, h1, h2⟩ := Reps.getV (i := i) r (by simpa using e)
    exact ⟨v, by simpa using h1, h2⟩
theorem Reps.append : ∀ {ds vs es us}, Reps w ds vs → Reps w es us → Reps w (ds ++ es) (vs ++ us)
  | _, _, _, _, .nil, h => h
  | _, _, _, _, .cons a r, h => .cons a (Reps.append r h)
theorem Reps.one {d v} (h : Rep w d v) : Reps w [d] [v] := .cons h .nil
theorem Reps.take : ∀ {ds vs} (n : Nat), Reps w ds vs → Reps w (ds.take n) (vs.take n)
  | _, _, 0, _ => .nil
  | _, _, _ + 1, .nil => .nil
  | _, _, n + 1, .cons a r => .cons a (Reps.take n r)
theorem Reps.drop : ∀ {ds vs} (n : Nat), Reps w ds vs → Reps w (ds.drop n) (vs.drop n)
  | _, _, 0, h => h
  | _, _, _ + 1, .nil => .nil
  | _, _, n + 1, .cons _ r => Reps.drop n r
theorem Reps.set {d v} (h : Rep w d v) : ∀ {ds vs} (n : Nat), Reps w ds vs → Reps w (ds.set n d) (vs.set n v)
  | _, _, _, .nil => .nil
  | _, _, 0, .cons _ r => .cons h r
  | _, _, n + 1, .cons a r => .cons a (Reps.set h n r)
theorem Reps.eraseIdx : ∀ {ds vs} (n : Nat), Reps w ds vs → Reps w (ds.eraseIdx n) (vs.eraseIdx n)
  | _, _, _, .nil => .nil
  | _, _, 0, .cons _ r => r
  | _, _, n + 1, .cons a r => .cons a (Reps.eraseIdx n r)
theorem Reps.dropLast : ∀ {ds vs}, Reps w ds vs → Reps w ds.dropLast vs.dropLast
  | _, _, .nil => .nil
  | _, _, .cons _ .nil => .nil
  | _, _, .cons a (.cons b r) => .cons a (Reps.dropLast (.cons b r))
theorem Reps.reverse : ∀ {ds vs}, Reps w ds vs → Reps w ds.reverse vs.reverse
  | _, _, .nil => .nil
  | _, _, .cons a r => by
    rw [List.reverse_cons, List.reverse_cons]
    exact (Reps.reverse r).append (.one a)
theorem Reps.ints : ∀ {ns : List Int} {vs}, Reps w (ns.map D.int) vs → vs = ns.map V.int
  | [], _, .nil => rfl
  | _ :: _, _, .cons .int r => by rw [Reps.ints r]; rfl
theorem Reps.of_ints : ∀ (ns : List Int), Reps w (ns.map D.int) (ns.map V.int)
  | [] => .nil
  | _ :: r => .cons .int (Reps.of_ints r)
theorem Reps.strs : ∀ {ns : List Str} {vs}, Reps w (ns.map D.str) vs → vs = ns.map V.str
  | [], _, .nil => rfl
  | _ :: _, _, .cons .str r => by rw [Reps.strs r]; rfl
theorem Reps.of_strs : ∀ (ns : List Str), Reps w (ns.map D.str) (ns.map V.str)
  | [] => .nil
  | _ :: r => .cons .str (Reps.of_strs r)
theorem Reps.bls : ∀ {ns : List Bool} {vs}, Reps w (ns.map D.bl) vs → vs = ns.map V.bl
  | [], _, .nil => rfl
  | _ :: _, _, .cons .bl r => by rw [Reps.bls r]; rfl
end

/-! ### containers -/
/-- a list, a dict; locked ones -/
inductive CM where
  | lst (ds : List D) | dic (kvs : List (Key × D)) | dct (kvs : List (List Key × D)) | ldic (kvs : List (Key × D)) | ldct (kvs : List (List Key × D))
def CRep (w : Wd) : CM → HO → Prop
  | .lst ds, u => ∃ vs, u = .lst vs ∧ Reps w ds vs
  | .dic kvs, u => ∃ us, u = .dK us ∧ RepK w kvs us
  | .dct kvs, u => ∃ us, u = .dT us ∧ RepT w kvs us
  | .ldic kvs, u => ∃ o us, u = .frz o (.dK us) ∧ RepK w kvs us
  | .ldct kvs, u => ∃ o us, u = .frz o (.dT us) ∧ RepT w kvs us
theorem CRep.mono {w w' : Wd} (h : Le0 w w') : ∀ {m u}, CRep w m u → CRep w' m u
  | .lst _, _, ⟨vs, e, r⟩ => ⟨vs, e, r.mono h⟩
  | .dic _, _, ⟨vs, e, r⟩ => ⟨vs, e, r.mono h⟩
  | .dct _, _, ⟨vs, e, r⟩ => ⟨vs, e, r.mono h⟩
  | .ldic _, _, ⟨o, vs, e, r⟩ => ⟨o, vs, e, r.mono h⟩
  | .ldct _, _, ⟨o, vs, e, r⟩ => ⟨o, vs, e, r.mono h⟩
/-- what an expression gives: a tree, or a container that is lent -/
inductive BV where
  | d (x : D) | c (o : Bool) (m : CM)
inductive BRep (w : Wd) : BV → V → Prop
  | d {x v} : Rep w x v → BRep w (.d x) v
  | own {m p u} : w p = some (.own u) → CRep w m u → BRep w (.c true m) (.ref p)
  | fix {m p u} : w p = some (.fix u) → CRep w m u → BRep w (.c false m) (.ref p)
theorem BRep.mono {w w' : Wd} (h : Ext w w') : ∀ {x v}, BRep w x v → BRep w' x v
  | _, _, .d r => .d (r.mono h.l)
  | _, _, .own e r => .own (h _ _ e) (r.mono h.l)
  | _, _, .fix e r => .fix (h _ _ e) (r.mono h.l)
theorem BRep.toD {w : Wd} {x v} (h : BRep w (.d x) v) : Rep w x v := by cases h; assumption
inductive BReps (w : Wd) : List BV → List V → Prop
  | nil : BReps w [] []
  | cons {d v ds vs} : BRep w d v → BReps w ds vs → BReps w (d :: ds) (v :: vs)
theorem BReps.mono {w w' : Wd} (h : Ext w w') : ∀ {x v}, BReps w x v → BReps w' x v
  | _, _, .nil => .nil
  | _, _, .cons a r => .cons (a.mono h) (BReps.mono h r)
theorem BReps.length {w : Wd} : ∀ {ds vs}, BReps w ds vs → ds.length = vs.length
  | _, _, .nil => rfl
  | _, _, .cons _ r => by simp [BReps.length r]
/-- what a slot holds: a tree, an own container, one that is lent by the caller -/
inductive SV where
  | d (x : D) | o (m : CM) | b (m : CM)
inductive SRep (w : Wd) : SV → V → Prop
  | d {x v} : Rep w x v → SRep w (.d x) v
  | o {m p u} : w p = some (.own u) → CRep w m u → SRep w (.o m) (.ref p)
  | b {m p u} : w p = some (.fix u) → CRep w m u → SRep w (.b m) (.ref p)
theorem SRep.mono {w w' : Wd} (h : Ext w w') : ∀ {x v}, SRep w x v → SRep w' x v
  | _, _, .d r => .d (r.mono h.l)
  | _, _, .o e r => .o (h _ _ e) (r.mono h.l)
  | _, _, .b e r => .b (h _ _ e) (r.mono h.l)

/-! ### live objects -/
inductive MO where
  | lst (ds : List D) | dic (kvs : List (Key × D)) | dct (kvs : List (List Key × D)) | ins (C : Addr) (fs : List (Str × D))
  | lkd (od : Obj) (us : List (Key × V)) (kvs : List (Key × D)) | lkt (od : Obj) (us : List (List Key × V)) (kvs : List (List Key × D))
abbrev OO := Addr → Option MO
def updO (O : OO) (a : Addr) (m : MO) : OO := fun b => if b = a then some m else O b
def remO (O : OO) (a : Addr) : OO := fun b => if b = a then none else O b
@[simp] theorem updO_same {O : OO} {a m} : updO O a m a = some m := by simp [updO]
theorem updO_ne {O : OO} {a b m} (h : b ≠ a) : updO O a m b = O b := by simp [updO, h]
@[simp] theorem remO_same {O : OO} {a} : remO O a a = none := by simp [remO]
theorem remO_ne {O : OO} {a b} (h : b ≠ a) : remO O a b = O b := by simp [remO, h]
@[simp] theorem updO_updO {O : OO} {a m n} : updO (updO O a m) a n = updO O a n := by funext b; simp only [updO]; split <;> rfl
theorem updO_self {O : OO} {a m} (h : O a = some m) : updO O a m = O := by
  funext b; simp only [updO]; split
  · rename_i e; rw [e, h]
  · rfl
theorem remO_updO {O : OO} {a m} (h : O a = none) : remO (updO O a m) a = O := by
  funext b; simp only [updO, remO]; split
  · rename_i e; rw [e, h]
  · rfl
theorem neO {O : OO} {a b : Addr} {m} (h : O a = some m) (h' : O b = none) : a ≠ b := by intro e; subst e; rw [h] at h'; cases h'
theorem neO' {O : OO} {a b : Addr} {m} (h : O a = some m) (h' : O b = none) : b ≠ a := fun e => neO h h' e.symm
/-- the fields of an instance -/
def RepF (w : Wd) : List (Str × D) → List (Str × V) → Prop
  | [], vs => vs = []
  | (f, d) :: r, vs => ∃ v t, vs = (f, v) :: t ∧ Rep w d v ∧ RepF w r t
/-- the tape of the draws: the cells (never changed), the place, the great number left, the seed, the count -/
def TapeV (w : Wd) (vs : List V) : Prop := ∃ (c : Addr) (cells : List Int) (i g s n : Int), vs = [.ref c, .int i, .int g, .int s, .int n] ∧ w c = some (.frz (.lst (cells.map V.int))) ∧
  (∀ x ∈ cells, 0 ≤ x) ∧ 0 ≤ i ∧ 0 ≤ g
theorem TapeV.mono {w w' : Wd} (h : Le0 w w') {vs} : TapeV w vs → TapeV w' vs := fun ⟨c, cells, i, g, s, n, e, hz, r⟩ => ⟨c, cells, i, g, s, n, e, h.frz _ _ hz, r⟩
def MOk (w : Wd) (H : Hp) (a : Addr) : MO → Prop
  | .lst ds => ∃ vs, H a = some (.lst vs) ∧ Reps w ds vs
  | .dic kvs => ∃ us, H a = some (.dK us) ∧ RepK w kvs us
  | .dct kvs => ∃ us, H a = some (.dT us) ∧ RepT w kvs us
  | .ins C fs => ∃ dx us, H a = some (.ins C dx us) ∧ RepF w fs us
  | .lkd od us kvs => H a = some (.frz od (.dK us)) ∧ RepK w kvs us
  | .lkt od us kvs => H a = some (.frz od (.dT us)) ∧ RepT w kvs us
theorem RepF.mono {w w' : Wd} (h : Le0 w w') : ∀ {fs us}, RepF w fs us → RepF w' fs us
  | [], _, e => e
  | (f, d) :: r, _, ⟨v, t, e, hr, ht⟩ => ⟨v, t, e, hr.mono h, RepF.mono h ht⟩
theorem MOk.mono {w w' : Wd} {H : Hp} {a : Addr} (h : Le0 w w') : ∀ {m}, MOk w H a m → MOk w' H a m
  | .lst _, ⟨vs, e, r⟩ => ⟨vs, e, r.mono h⟩
  | .dic _, ⟨us, e, r⟩ => ⟨us, e, r.mono h⟩
  | .dct _, ⟨us, e, r⟩ => ⟨us, e, r.mono h⟩
  | .ins _ _, ⟨dx, us, e, r⟩ => ⟨dx, us, e, r.mono h⟩
  | .lkd _ _ _, ⟨e, r⟩ => ⟨e, r.mono h⟩
  | .lkt _ _ _, ⟨e, r⟩ => ⟨e, r.mono h⟩
theorem MOk.at {w : Wd} {H H' : Hp} {a : Addr} (h : H' a = H a) : ∀ {m}, MOk w H a m → MOk w H' a m
  | .lst _, ⟨vs, e, r⟩ => ⟨vs, h.trans e, r⟩
  | .dic _, ⟨us, e, r⟩ => ⟨us, h.trans e, r⟩
  | .dct _, ⟨us, e, r⟩ => ⟨us, h.trans e, r⟩
  | .ins _ _, ⟨dx, us, e, r⟩ => ⟨dx, us, h.trans e, r⟩
  | .lkd _ _ _, ⟨e, r⟩ => ⟨h.trans e, r⟩
  | .lkt _ _ _, ⟨e, r⟩ => ⟨h.trans e, r⟩
theorem MOk.there {w : Wd} {H : Hp} {a : Addr} : ∀ {m}, MOk w H a m → ∃ u, H a = some u
  | .lst _, ⟨vs, e, r⟩ => ⟨_, e⟩
  | .dic _, ⟨us, e, r⟩ => ⟨_, e⟩
  | .dct _, ⟨us, e, r⟩ => ⟨_, e⟩
  | .ins _ _, ⟨dx, us, e, r⟩ => ⟨_, e⟩
  | .lkd _ _ _, ⟨e, r⟩ => ⟨_, e⟩
  | .lkt _ _ _, ⟨e, r⟩ => ⟨_, e⟩
/-- a table of code objects, all of the name q -/
def TabV (w : Wd) (H : Hp) (a : Addr) (q : Str) : Prop := ∃ ps : Array Value, H a = some (.tbl ps) ∧ TriplesOk ps.toList ∧ ∀ (pos : Pos) (cv : Value), codeAmong pos ps.toList = some cv → ∃ c, cv = .ref c ∧ w c = some (.frz (LamX.CodeO c q))
theorem TabV.mono {w w' : Wd} (h : Le0 w w') {H a q} : TabV w H a q → TabV w' H a q := fun ⟨ps, e, t, r⟩ => ⟨ps, e, t, fun pos cv k => let ⟨c, h1, h2⟩ := r pos cv k; ⟨c, h1, h.frz _ _ h2⟩⟩
theorem TabV.at {w : Wd} {H H' : Hp} {a : Addr} {q} (h : H' a = H a) : TabV w H a q → TabV w H' a q := fun ⟨ps, e, t, r⟩ => ⟨ps, h.trans e, t, r⟩
def CellOk (w : Wd) (H : Hp) (a : Addr) : Cell → Prop
  | .frz u => H a = some u
  | .fix u => H a = some u
  | .own u => H a = some u
  | .tape => ∃ vs, H a = some (.lst vs) ∧ TapeV w vs
  | .tab q => TabV w H a q
theorem CellOk.there {w : Wd} {H : Hp} {a : Addr} : ∀ {c}, CellOk w H a c → ∃ u, H a = some u
  | .frz _, e => ⟨_, e⟩
  | .fix _, e => ⟨_, e⟩
  | .own _, e => ⟨_, e⟩
  | .tape, ⟨_, e, _⟩ => ⟨_, e⟩
  | .tab _, ⟨_, e, _⟩ => ⟨_, e⟩
theorem CellOk.mono {w w' : Wd} {H : Hp} {a : Addr} (h : Le0 w w') : ∀ {c}, CellOk w H a c → CellOk w' H a c
  | .frz _, e => e
  | .fix _, e => e
  | .own _, e => e
  | .tape, ⟨_, e, t⟩ => ⟨_, e, t.mono h⟩
  | .tab _, t => TabV.mono h t
theorem CellOk.at {w : Wd} {H H' : Hp} {a : Addr} (h : H' a = H a) : ∀ {c}, CellOk w H a c → CellOk w H' a c
  | .frz _, e => h.trans e
  | .fix _, e => h.trans e
  | .own _, e => h.trans e
  | .tape, ⟨_, e, t⟩ => ⟨_, h.trans e, t⟩
  | .tab _, t => TabV.at h t
/-- few tables are told of -/
def FinT (w : Wd) : Prop := ∃ T : List (Addr × Str), ∀ a q, w a = some (.tab q) → (a, q) ∈ T
theorem FinT.put {w : Wd} (h : FinT w) (p : Addr) (c : Cell) : FinT (w.put p c) := by
  obtain ⟨T, h⟩ := h
  refine ⟨(match c with | .tab q => [(p, q)] | _ => []) ++ T, fun a q e => ?_⟩
  by_cases ha : a = p
  · subst ha
    rw [put_same] at e
    cases e
    exact List.mem_append_left _ List.mem_cons_self
  · rw [put_ne ha] at e
    exact List.mem_append_right _ (h a q e)
theorem FinT.sub {w w' : Wd} (h : FinT w) (k : ∀ a q, w' a = some (.tab q) → w a = some (.tab q)) : FinT w' := let ⟨T, h⟩ := h; ⟨T, fun a q e => h a q (k a q e)⟩
/-- no code object is kept as a container -/
def PlainU (u : HO) : Prop := (∀ φ, u ≠ .ext φ) ∧ (∀ ps, u ≠ .tbl ps) ∧ ∀ xs, u ≠ .tup xs
def NoX : Cell → Prop
  | .frz u => ∀ ps, u ≠ .tbl ps
  | .fix u => PlainU u
  | .own u => PlainU u
  | _ => True
theorem PlainU.of {w : Wd} {m : CM} {u : HO} (h : CRep w m u) : PlainU u := by
  cases m with
  | lst _ => obtain ⟨_, rfl, _⟩ := h; exact ⟨fun _ z => (by cases z), fun _ z => (by cases z), fun _ z => by cases z⟩
  | dic _ => obtain ⟨_, rfl, _⟩ := h; exact ⟨fun _ z => (by cases z), fun _ z => (by cases z), fun _ z => by cases z⟩
  | dct _ => obtain ⟨_, rfl, _⟩ := h; exact ⟨fun _ z => (by cases z), fun _ z => (by cases z), fun _ z => by cases z⟩
  | ldic _ => obtain ⟨_, _, rfl, _⟩ := h; exact ⟨fun _ z => (by cases z), fun _ z => (by cases z), fun _ z => by cases z⟩
  | ldct _ => obtain ⟨_, _, rfl, _⟩ := h; exact ⟨fun _ z => (by cases z), fun _ z => (by cases z), fun _ z => by cases z⟩
structure RelO (w : Wd) (H : Hp) (O : OO) : Prop where
  cell : ∀ a c, w a = some c → CellOk w H a c
  own : ∀ a m, O a = some m → MOk w H a m
  off : ∀ a m, O a = some m → w a = none
  fin : FinT w
  nx : ∀ a c, w a = some c → NoX c
section
variable {w : Wd} {H H' : Hp} {O O' : OO} {p : Addr} {u u' : HO} {m m' : MO} {c c' : Cell}
theorem RelO.frz (h : RelO w H O) (e : w p = some (.frz u)) : H p = some u := h.cell _ _ e
theorem RelO.freeW (h : RelO w H O) (n : H p = none) : w p = none := by
  cases e : w p with
  | none => rfl
  | some c => obtain ⟨u, q⟩ := (h.cell p c e).there; rw [n] at q; cases q
theorem RelO.free (h : RelO w H O) (n : H p = none) : O p = none := by
  cases e : O p with
  | none => rfl
  | some m => obtain ⟨u, q⟩ := (h.own p m e).there; rw [n] at q; cases q
theorem ext_put (n : w p = none) : Ext w (w.put p c) := fun b x e => by
  by_cases h : b = p
  · subst h; rw [n] at e; cases e
  · rw [put_ne h]; exact e
/-- the heap grows by something that is not told -/
theorem RelO.grow (h : RelO w H O) (s : Same H H') : RelO w H' O where
  cell := fun a c e => by
    obtain ⟨u, q⟩ := (h.cell a c e).there
    exact (h.cell a c e).at (by rw [s _ _ q, q])
  own := fun a m e => by
    obtain ⟨u, q⟩ := (h.own a m e).there
    exact (h.own a m e).at (by rw [s _ _ q, q])
  off := h.off
  fin := h.fin
  nx := h.nx
theorem same_upd {H : Hp} (n : H p = none) : Same H (upd H p u) := fun b x e => by
  rw [upd_ne (ne_of_none e n)]; exact e
/-- a new live object -/
theorem RelO.new (h : RelO w H O) (n : H p = none) (ok : MOk w (upd H p u) p m) : RelO w (upd H p u) (updO O p m) where
  cell := fun a c e => by
    have g := (h.grow (same_upd (u := u) n))
    exact g.cell a c e
  own := fun a k e => by
    by_cases ha : a = p
    · subst ha; rw [updO_same] at e; cases e; exact ok
    · rw [updO_ne ha] at e
      exact (h.own a k e).at (upd_ne ha)
  off := fun a k e => by
    by_cases ha : a = p
    · subst ha; exact h.freeW n
    · rw [updO_ne ha] at e
      exact h.off a k e
  fin := h.fin
  nx := h.nx
/-- something untold is told of -/
theorem RelO.tell (h : RelO w H O) (n : w p = none) (no : O p = none) (ok : CellOk (w.put p c) H p c) (nx : NoX c := by first | exact True.intro | exact PlainU.of (by assumption) | exact (PlainU.of (by assumption)).2.1 | exact ⟨fun _ z => (by cases z), fun _ z => (by cases z), fun _ z => (by cases z)⟩ | exact fun _ z => (by cases z) | assumption) : RelO (w.put p c) H O where
  cell := fun a x e => by
    by_cases ha : a = p
    · subst ha; rw [put_same] at e; cases e; exact ok
    · rw [put_ne ha] at e
      exact (h.cell a x e).mono (ext_put n).l
  own := fun a m e => (h.own a m e).mono (ext_put n).l
  off := fun a m e => by
    have ha : a ≠ p := neO e no
    rw [put_ne ha]
    exact h.off a m e
  fin := h.fin.put _ _
  nx := fun a x e => by
    by_cases ha : a = p
    · subst ha; rw [put_same] at e; cases e; exact nx
    · rw [put_ne ha] at e; exact h.nx a x e
theorem RelO.newZ (h : RelO w H O) (n : H p = none) (nt : ∀ ps, u ≠ .tbl ps := by intro _ z; cases z) : Ext w (w.put p (.frz u)) ∧ RelO (w.put p (.frz u)) (upd H p u) O := by
  have nz := h.freeW n
  exact ⟨ext_put nz, (h.grow (same_upd n)).tell nz (h.free n) upd_same nt⟩
theorem RelO.newC (h : RelO w H O) (n : H p = none) : RelO w (upd H p u) O := h.grow (same_upd n)
/-- a live object is written -/
theorem RelO.put (h : RelO w H O) (e : O p = some m) (ok : MOk w (upd H p u) p m') : RelO w (upd H p u) (updO O p m') where
  cell := fun a c q => by
    have ha : a ≠ p := fun z => by subst z; rw [h.off _ _ e] at q; cases q
    exact (h.cell a c q).at (upd_ne ha)
  own := fun a k q => by
    by_cases ha : a = p
    · subst ha; rw [updO_same] at q; cases q; exact ok
    · rw [updO_ne ha] at q
      exact (h.own a k q).at (upd_ne ha)
  off := fun a k q => by
    by_cases ha : a = p
    · subst ha; exact h.off _ _ e
    · rw [updO_ne ha] at q
      exact h.off a k q
  fin := h.fin
  nx := h.nx
/-- an own (or lent) cell is written -/
theorem exts_own (e : w p = some (.own u)) : ExtS w (w.put p (.own u')) := fun b x q n => by
  by_cases h : b = p
  · subst h; rw [e] at q; cases q; exact absurd rfl (n u)
  · rw [put_ne h]; exact q
theorem RelO.putCell (h : RelO w H O) (e : w p = some c) (nc : ∀ u, c ≠ .frz u) (nt : c ≠ .tape) (ok : CellOk (w.put p c') (upd H p u') p c') (nx : NoX c' := by first | exact True.intro | exact PlainU.of (by assumption) | exact (PlainU.of (by assumption)).2.1 | exact ⟨fun _ z => (by cases z), fun _ z => (by cases z), fun _ z => (by cases z)⟩ | exact fun _ z => (by cases z) | assumption) : RelO (w.put p c') (upd H p u') O := by
  have l0 : Le0 w (w.put p c') := ⟨fun b u q => by
      have : b ≠ p := fun z => by subst z; rw [e] at q; cases q; exact nc _ rfl
      rw [put_ne this]; exact q, fun b q => by
      have : b ≠ p := fun z => by subst z; rw [e] at q; cases q; exact nt rfl
      rw [put_ne this]; exact q⟩
  refine ⟨fun a x q => ?_, fun a m q => ?_, fun a m q => ?_, h.fin.put _ _, fun a x e => by
    by_cases ha : a = p
    · subst ha; rw [put_same] at e; cases e; exact nx
    · rw [put_ne ha] at e; exact h.nx a x e⟩
  · by_cases ha : a = p
    · subst ha; rw [put_same] at q; cases q; exact ok
    · rw [put_ne ha] at q
      exact ((h.cell a x q).at (upd_ne ha)).mono l0
  · have ha : a ≠ p := fun z => by subst z; rw [h.off _ _ q] at e; cases e
    exact ((h.own a m q).at (upd_ne ha)).mono l0
  · have ha : a ≠ p := fun z => by subst z; rw [h.off _ _ q] at e; cases e
    rw [put_ne ha]; exact h.off a m q
/-- live objects are let go -/
theorem RelO.less (h : RelO w H O) (l : ∀ a m, O' a = some m → O a = some m) : RelO w H O' where
  cell := h.cell
  own := fun a m e => h.own a m (l a m e)
  off := fun a m e => h.off a m (l a m e)
  fin := h.fin
  nx := h.nx
theorem remO_some {O : OO} {a b : Addr} {m : MO} (h : remO O a b = some m) : b ≠ a ∧ O b = some m := by
  unfold remO at h
  split at h
  · cases h
  · exact ⟨by assumption, h⟩
theorem RelO.rem (h : RelO w H O) (p : Addr) : RelO w H (remO O p) := h.less fun a m e => (remO_some e).2
end

/-! ### slots -/
abbrev SD := List (Option SV)
structure RelS0 (w : Wd) (σ : L2.St) (s : SD) : Prop where
  len : σ.length = s.length
  at' : ∀ (i : Nat) x, s[i]? = some (some x) → ∃ v, σ[i]? = some (some v) ∧ SRep w x v
  inj : ∀ (i j : Nat) m n v, s[i]? = some (some (.o m)) → s[j]? = some (some (.o n)) → σ[i]? = some (some v) → σ[j]? = some (some v) → i = j
/-- what is wished of an exception (class number, fields), and of what is known where one is handled -/
structure PX where
  R : Nat → List (Str × D) → SD → OO → Prop
  Wx : WX
  cl : Nat → Addr
  S : Wd → Prop
  mono : ∀ w w', ExtS w w' → S w → S w'
  T : List (Addr × Str)
def XRep (w : Wd) (H : Hp) (O : OO) (d : Option Addr) (fs : List (Str × D)) : Prop := (d = none ∧ fs = []) ∨ ∃ dx us, d = some dx ∧ H dx = some (.xd us) ∧ w dx = none ∧ O dx = none ∧ RepF w fs us
def PXok (P : PX) (w : Wd) : Prop := ∀ w' σ s H O k d fs, ExtS w w' → RelS0 w' σ s → RelO w' H O → XRep w' H O d fs → P.R k fs s O → P.Wx (.ref (P.cl k)) d σ H
theorem PXok.mono {P : PX} {w w' : Wd} (h : PXok P w) (e : ExtS w w') : PXok P w' := fun w2 σ s H O k d fs e2 => h w2 σ s H O k d fs (e.trans e2)
structure RelS (P : PX) (w : Wd) (σ : L2.St) (s : SD) : Prop extends RelS0 w σ s where
  px : PXok P w
  sx : P.S w
  tx : ∀ p ∈ P.T, w p.1 = some (.tab p.2)
theorem RelS0.mono {w w' : Wd} {σ : L2.St} {s : SD} (r : RelS0 w σ s) (h : Ext w w') : RelS0 w' σ s :=
  ⟨r.len, fun i d e => let ⟨v, h1, h2⟩ := r.at' i d e; ⟨v, h1, h2.mono h⟩, r.inj⟩
theorem RelS.mono {P : PX} {w w' : Wd} {σ : L2.St} {s : SD} (r : RelS P w σ s) (h : Ext w w') : RelS P w' σ s := ⟨r.toRelS0.mono h, r.px.mono h.s, P.mono _ _ h.s r.sx, fun p hp => h _ _ (r.tx p hp)⟩
theorem getElem?_set_ne' {α : Type} {l : List α} {i j : Nat} {a : α} (h : i ≠ j) : (l.set i a)[j]? = l[j]? := by rw [List.getElem?_set, if_neg h]
/-- a slot is written (not with an own container) -/
theorem RelS0.set {w : Wd} {σ : L2.St} {s : SD} {x : SV} {v : V} (r : RelS0 w σ s) (i : Nat) (h : SRep w x v) (hx : ∀ m, x ≠ .o m) : RelS0 w (σ.set i (some v)) (s.set i (some x)) := by
  refine ⟨by simp [r.len], fun j e q => ?_, fun j k m n v' h1 h2 h3 h4 => ?_⟩
  · rw [List.getElem?_set] at q ⊢
    by_cases hj : i = j
    · subst hj
      rw [if_pos rfl] at q ⊢
      by_cases hl : i < s.length
      · rw [if_pos hl] at q
        rw [if_pos (by rw [r.len]; exact hl)]
        cases q
        exact ⟨v, rfl, h⟩
      · rw [if_neg hl] at q; cases q
    · rw [if_neg hj] at q ⊢
      exact r.at' j e q
  · have nj : ∀ {j : Nat} {m}, (s.set i (some x))[j]? = some (some (.o m)) → i ≠ j := fun {j m} e z => by
      subst z
      rw [List.getElem?_set, if_pos rfl] at e
      split at e
      · cases e; exact hx _ rfl
      · cases e
    have a := nj h1
    have b := nj h2
    rw [getElem?_set_ne' a] at h1 h3
    rw [getElem?_set_ne' b] at h2 h4
    exact r.inj j k m n v' h1 h2 h3 h4
theorem RelS.set {P : PX} {w : Wd} {σ : L2.St} {s : SD} {x : D} {v : V} (r : RelS P w σ s) (i : Nat) (h : Rep w x v) : RelS P w (σ.set i (some v)) (s.set i (some (.d x))) := ⟨r.toRelS0.set i (.d h) (fun _ z => by cases z), r.px, r.sx, r.tx⟩
/-- a slot is emptied -/
theorem RelS0.clear {w : Wd} {σ : L2.St} {s : SD} (r : RelS0 w σ s) (i : Nat) (x : Option V) : RelS0 w (σ.set i x) (s.set i none) := by
  have nj : ∀ {j : Nat} {z}, (s.set i none)[j]? = some (some z) → i ≠ j := fun {j m} e z => by
      subst z
      rw [List.getElem?_set, if_pos rfl] at e
      split at e <;> cases e
  refine ⟨by simp [r.len], fun j e q => ?_, fun j k m n v' h1 h2 h3 h4 => ?_⟩
  · have a := nj q
    rw [getElem?_set_ne' a] at q ⊢
    exact r.at' j e q
  · have a := nj h1
    have b := nj h2
    rw [getElem?_set_ne' a] at h1 h3
    rw [getElem?_set_ne' b] at h2 h4
    exact r.inj j k m n v' h1 h2 h3 h4
theorem RelS.clear {P : PX} {w : Wd} {σ : L2.St} {s : SD} (r : RelS P w σ s) (i : Nat) (x : Option V) : RelS P w (σ.set i x) (s.set i none) := ⟨r.toRelS0.clear i x, r.px, r.sx, r.tx⟩
/-- a slot takes an own container -/
theorem RelS.setO {P : PX} {w : Wd} {σ : L2.St} {s : SD} {m : CM} {p : Addr} {u : HO} (r : RelS P w σ s) (i : Nat) (n : w p = none) (h : CRep w m u) : RelS P (w.put p (.own u)) (σ.set i (some (.ref p))) (s.set i (some (.o m))) := by
  have ex := ext_put (c := .own u) n
  have r1 := r.mono ex
  refine ⟨⟨by simp [r.len], fun j e q => ?_, fun j k m1 m2 v' h1 h2 h3 h4 => ?_⟩, r1.px, r1.sx, r1.tx⟩
  · rw [List.getElem?_set] at q ⊢
    by_cases hj : i = j
    · subst hj
      rw [if_pos rfl] at q ⊢
      by_cases hl : i < s.length
      · rw [if_pos hl] at q
        rw [if_pos (by rw [r.len]; exact hl)]
        cases q
        exact ⟨_, rfl, .o put_same (h.mono ex.l)⟩
      · rw [if_neg hl] at q; cases q
    · rw [if_neg hj] at q ⊢
      exact r1.at' j e q
  · -- the address is new
    have old : ∀ {j : Nat} {m v}, i ≠ j → s[j]? = some (some (.o m)) → σ[j]? = some (some v) → v ≠ .ref p := fun {j m v} hj e1 e2 z => by
      subst z
      obtain ⟨v, g1, g2⟩ := r.at' j _ e1
      rw [e2] at g1
      cases g1
      cases g2 with
      | o e _ => rw [n] at e; cases e
    have at_ : ∀ {j : Nat} {v}, i = j → (σ.set i (some (V.ref p)))[j]? = some (some v) → v = .ref p := fun {j v} hj e => by
      subst hj
      rw [List.getElem?_set, if_pos rfl] at e
      split at e <;> cases e
      rfl
    by_cases a : i = j <;> by_cases b : i = k
    · exact a.symm.trans b
    · rw [at_ a h3] at h4
      rw [getElem?_set_ne' b] at h2 h4
      exact absurd rfl (old b h2 h4)
    · rw [at_ b h4] at h3
      rw [getElem?_set_ne' a] at h1 h3
      exact absurd rfl (old a h1 h3)
    · rw [getElem?_set_ne' a] at h1 h3
      rw [getElem?_set_ne' b] at h2 h4
      exact r.inj j k m1 m2 v' h1 h2 h3 h4
/-- an own container is changed -/
theorem RelS.putO {P : PX} {w : Wd} {σ : L2.St} {s : SD} {m m' : CM} {p : Addr} {u u' : HO} {i : Nat} (r : RelS P w σ s) (hi : s[i]? = some (some (.o m))) (hσ : σ[i]? = some (some (.ref p))) (e : w p = some (.own u)) (h : CRep w m' u') :
    RelS P (w.put p (.own u')) σ (s.set i (some (.o m'))) := by
  have ex := exts_own (u' := u') e
  have hil : i < s.length := by
    by_cases hl : i < s.length
    · exact hl
    · rw [List.getElem?_eq_none (by omega)] at hi; cases hi
  have same : ∀ {j : Nat} {m2}, (s.set i (some (.o m')))[j]? = some (some (.o m2)) → ∃ m1, s[j]? = some (some (.o m1)) := fun {j m2} q => by
    by_cases hj : i = j
    · subst hj; exact ⟨_, hi⟩
    · rw [getElem?_set_ne' hj] at q; exact ⟨_, q⟩
  refine ⟨⟨by simp [r.len], fun j x q => ?_, fun j k m1 m2 v' h1 h2 h3 h4 => ?_⟩, r.px.mono ex, P.mono _ _ ex r.sx, fun p hp => ex _ _ (r.tx p hp) (fun _ z => by cases z)⟩
  · by_cases hj : i = j
    · subst hj
      rw [List.getElem?_set, if_pos rfl, if_pos hil] at q
      cases q
      exact ⟨_, hσ, .o put_same (h.mono ex.l)⟩
    · rw [getElem?_set_ne' hj] at q
      obtain ⟨v, g1, g2⟩ := r.at' j x q
      refine ⟨v, g1, ?_⟩
      cases g2 with
      | d g => exact .d (g.mono ex.l)
      | @o m2 p2 u2 g1' g2' =>
        have hp : p2 ≠ p := fun z => by
          subst z
          exact hj (r.inj i j _ _ _ hi q hσ g1)
        exact .o (by rw [put_ne hp]; exact g1') (g2'.mono ex.l)
      | @b m2 p2 u2 g1' g2' =>
        have hp : p2 ≠ p := fun z => by subst z; rw [e] at g1'; cases g1'
        exact .b (by rw [put_ne hp]; exact g1') (g2'.mono ex.l)
  · obtain ⟨n1, q1⟩ := same h1
    obtain ⟨n2, q2⟩ := same h2
    exact r.inj j k _ _ v' q1 q2 h3 h4
/-- an own container becomes a tree -/
theorem RelS.frzO {P : PX} {w : Wd} {σ : L2.St} {s : SD} {m : CM} {x : D} {p : Addr} {u u' : HO} {i : Nat} (r : RelS P w σ s) (hi : s[i]? = some (some (.o m))) (hσ : σ[i]? = some (some (.ref p))) (e : w p = some (.own u))
    (h : ∀ w', Le0 w w' → w' p = some (.frz u') → Rep w' x (.ref p)) : ExtS w (w.put p (.frz u')) ∧ RelS P (w.put p (.frz u')) σ (s.set i (some (.d x))) := by
  have ex : ExtS w (w.put p (.frz u')) := fun b y q n => by
    by_cases hb : b = p
    · subst hb; rw [e] at q; cases q; exact absurd rfl (n u)
    · rw [put_ne hb]; exact q
  have hil : i < s.length := by
    by_cases hl : i < s.length
    · exact hl
    · rw [List.getElem?_eq_none (by omega)] at hi; cases hi
  have notI : ∀ {j : Nat} {m2}, (s.set i (some (.d x)))[j]? = some (some (.o m2)) → i ≠ j := fun {j m2} q z => by
    subst z
    rw [List.getElem?_set, if_pos rfl] at q
    split at q <;> cases q
  refine ⟨ex, ⟨⟨by simp [r.len], fun j y q => ?_, fun j k m1 m2 v' h1 h2 h3 h4 => ?_⟩, r.px.mono ex, P.mono _ _ ex r.sx, fun p hp => ex _ _ (r.tx p hp) (fun _ z => by cases z)⟩⟩
  · by_cases hj : i = j
    · subst hj
      rw [List.getElem?_set, if_pos rfl, if_pos hil] at q
      cases q
      exact ⟨_, hσ, .d (h _ ex.l put_same)⟩
    · rw [getElem?_set_ne' hj] at q
      obtain ⟨v, g1, g2⟩ := r.at' j y q
      refine ⟨v, g1, ?_⟩
      cases g2 with
      | d g => exact .d (g.mono ex.l)
      | @o m2 p2 u2 g1' g2' =>
        have hp : p2 ≠ p := fun z => by
          subst z
          exact hj (r.inj i j _ _ _ hi q hσ g1)
        exact .o (by rw [put_ne hp]; exact g1') (g2'.mono ex.l)
      | @b m2 p2 u2 g1' g2' =>
        have hp : p2 ≠ p := fun z => by subst z; rw [e] at g1'; cases g1'
        exact .b (by rw [put_ne hp]; exact g1') (g2'.mono ex.l)
  · have a := notI h1
    have b := notI h2
    rw [getElem?_set_ne' a] at h1
    rw [getElem?_set_ne' b] at h2
    exact r.inj j k _ _ v' h1 h2 h3 h4
/-- slots that are told less of -/
theorem RelS.less {P : PX} {w : Wd} {σ : L2.St} {s s' : SD} (r : RelS P w σ s) (hl : s'.length = s.length) (h : ∀ (i : Nat) d, s'[i]? = some (some d) → s[i]? = some (some d)) : RelS P w σ s' :=
  ⟨⟨r.len.trans hl.symm, fun i d e => r.at' i d (h i d e), fun i j m n v h1 h2 => r.inj i j m n v (h i _ h1) (h j _ h2)⟩, r.px, r.sx, r.tx⟩
/-- slots of a def: the arguments, the others empty -/
def sstart (N : List Str) (xs : List SV) : SD := xs.map some ++ List.replicate (N.length - xs.length) none
def toSV : BV → SV
  | .d x => .d x
  | .c _ m => .b m
inductive SReps (w : Wd) : List SV → List V → Prop
  | nil : SReps w [] []
  | cons {d v ds vs} : SRep w d v → (∀ m, d ≠ .o m) → SReps w ds vs → SReps w (d :: ds) (v :: vs)
theorem SReps.length {w : Wd} : ∀ {ds vs}, SReps w ds vs → ds.length = vs.length
  | _, _, .nil => rfl
  | _, _, .cons _ _ r => by simp [SReps.length r]
theorem SReps.get {w : Wd} : ∀ {ds vs} {i : Nat} {d}, SReps w ds vs → ds[i]? = some d → (∃ v, vs[i]? = some v ∧ SRep w d v) ∧ ∀ m, d ≠ .o m
  | _, _, _, _, .nil, e => by simp at e
  | _, _, 0, _, .cons h n _, e => by simp at e; subst e; exact ⟨⟨_, rfl, h⟩, n⟩
  | _, _, i + 1, _, .cons _ _ r, e => by
    obtain ⟨⟨v, h1, h2⟩, n⟩ := SReps.get (i := i) r (by simpa using e)
    exact ⟨⟨v, by simpa using h1, h2⟩, n⟩
theorem RelS0.start {w : Wd} {N : List Str} {ds vs} (r : SReps w ds vs) : RelS0 w (L2.start N vs) (sstart N ds) := by
  have el := r.length
  have key : ∀ {i : Nat} {d}, (sstart N ds)[i]? = some (some d) → ds[i]? = some d := fun {i d} e => by
    unfold sstart at e
    by_cases hi : i < ds.length
    · rw [List.getElem?_append_left (by simpa using hi), List.getElem?_map] at e
      cases q : ds[i]? with
      | none => rw [q] at e; cases e
      | some d' => rw [q] at e; cases e; rfl
    · rw [List.getElem?_append_right (by simpa using hi), List.getElem?_replicate] at e
      split at e <;> cases e
  refine ⟨?_, fun i d e => ?_, fun i j m n v h1 _ _ _ => absurd rfl ((r.get (key h1)).2 m)⟩
  · simp [L2.start, sstart, el]
  · have q := key e
    have hi : i < ds.length := (List.getElem?_eq_some_iff.mp q).1
    obtain ⟨⟨v, h1, h2⟩, _⟩ := r.get q
    refine ⟨v, ?_, h2⟩
    unfold L2.start
    rw [List.getElem?_append_left (by simpa [← el] using hi), List.getElem?_map, h1]
    rfl
end VD

set_option Elab.async false
set_option linter.all false
set_option maxRecDepth 100000
/-! VD: the judgements, expressions -/
namespace VD
open PySem PySem.Spec PyProof.Rows L2

abbrev WE := SD → OO → (BV → OO → Prop) → Prop
abbrev WT := SD → OO → (Bool → OO → Prop) → Prop
abbrev WA := SD → OO → (List BV → OO → Prop) → Prop
abbrev WN := SD → OO → (CM → OO → Prop) → Prop
abbrev DOF := BV → BV → OO → (BV → OO → Prop) → Prop
abbrev DUF := BV → OO → (BV → OO → Prop) → Prop
abbrev DLF := List BV → OO → (BV → OO → Prop) → Prop
abbrev NLF := List BV → OO → (CM → OO → Prop) → Prop

def PostE (w : Wd) (Q : BV → OO → Prop) (R : V → Hp → Prop) : Prop := ∀ v H' w' d O', Ext w w' → RelO w' H' O' → BRep w' d v → Q d O' → R v H'
def PostT (w : Wd) (Q : Bool → OO → Prop) (R : Bool → Hp → Prop) : Prop := ∀ b H' w' O', Ext w w' → RelO w' H' O' → Q b O' → R b H'
def PostA (n : Nat) (w : Wd) (Q : List BV → OO → Prop) (R : List V → Hp → Prop) : Prop := ∀ vs H' w' ds O', ds.length = n → Ext w w' → RelO w' H' O' → BReps w' ds vs → Q ds O' → R vs H'
/-- a new container, told by nobody yet -/
def PostC (w : Wd) (Q : CM → OO → Prop) (R : V → Hp → Prop) : Prop := ∀ p u H' w' m O', Ext w w' → RelO w' H' O' → w' p = none → O' p = none → H' p = some u → CRep w' m u → Q m O' → R (.ref p) H'
theorem PostE.mono {w w' : Wd} {Q R} (h : PostE w Q R) (s : Ext w w') : PostE w' Q R := fun v H' w2 d O' s2 => h v H' w2 d O' (s.trans s2)
theorem PostT.mono {w w' : Wd} {Q R} (h : PostT w Q R) (s : Ext w w') : PostT w' Q R := fun v H' w2 O' s2 => h v H' w2 O' (s.trans s2)
theorem PostC.mono {w w' : Wd} {Q R} (h : PostC w Q R) (s : Ext w w') : PostC w' Q R := fun p u H' w2 m O' s2 => h p u H' w2 m O' (s.trans s2)

structure DE (X : Cx) (P : PX) (e : Expr) (W : WE) : Prop where
  ex : ∃ t, PE X e t ∧ ∀ w σ s H O Q R, RelS P w σ s → RelO w H O → W s O Q → PostE w Q R → t σ H R
structure DN (X : Cx) (P : PX) (e : Expr) (W : WN) : Prop where
  ex : ∃ t, PE X e t ∧ ∀ w σ s H O Q R, RelS P w σ s → RelO w H O → W s O Q → PostC w Q R → t σ H R
structure DT (X : Cx) (P : PX) (e : Expr) (W : WT) : Prop where
  ex : ∃ t, PT X e t ∧ ∀ w σ s H O Q R, RelS P w σ s → RelO w H O → W s O Q → PostT w Q R → t σ H R
structure DW (X : Cx) (P : PX) (e : Expr) (W : WT) : Prop where
  ex : ∃ t, PW X e t ∧ ∀ w σ s H O Q R, RelS P w σ s → RelO w H O → W s O Q → PostT w Q R → t σ H R
structure DA (X : Cx) (P : PX) (es : List Expr) (W : WA) : Prop where
  ex : ∃ t, PA X es t ∧ ∀ w σ s H O Q R, RelS P w σ s → RelO w H O → W s O Q → PostA es.length w Q R → t σ H R
structure DOp (X : Cx) (f : Value → Value → Sem Value) (o : DOF) : Prop where
  ex : ∃ r, OpR X f r ∧ ∀ w H O x y vx vy Q R, RelO w H O → BRep w x vx → BRep w y vy → o x y O Q → PostE w Q R → r vx vy H R
structure DUn (X : Cx) (f : Value → Sem Value) (o : DUF) : Prop where
  ex : ∃ r, UnR X f r ∧ ∀ w H O x vx Q R, RelO w H O → BRep w x vx → o x O Q → PostE w Q R → r vx H R
structure DCall (X : Cx) (f : Value) (o : DLF) : Prop where
  ex : ∃ r, CallR X f r ∧ ∀ w H O ds vs Q R, RelO w H O → BReps w ds vs → o ds O Q → PostE w Q R → r vs H R
/-- operators and calls that make a new container -/
structure NOp (X : Cx) (f : Value → Value → Sem Value) (o : BV → BV → OO → (CM → OO → Prop) → Prop) : Prop where
  ex : ∃ r, OpR X f r ∧ ∀ w H O x y vx vy Q R, RelO w H O → BRep w x vx → BRep w y vy → o x y O Q → PostC w Q R → r vx vy H R
structure NCall (X : Cx) (f : Value) (o : NLF) : Prop where
  ex : ∃ r, CallR X f r ∧ ∀ w H O ds vs Q R, RelO w H O → BReps w ds vs → o ds O Q → PostC w Q R → r vs H R

/-! ### union of readings -/
theorem pe_union {X : Cx} {e : Expr} {t u : TE} (h : PE X e t) (k : PE X e u) : PE X e (fun σ H Q => t σ H Q ∨ u σ H Q) :=
  ⟨fun pins s σ H Q I q => q.elim (h.run pins s σ H Q I) (k.run pins s σ H Q I)⟩
theorem pi_union {X : Cx} {tg e : Expr} {t u : TI} (h : PI X tg e t) (k : PI X tg e u) : PI X tg e (fun σ H Q => t σ H Q ∨ u σ H Q) :=
  ⟨fun pins s σ H Q I q => q.elim (h.run pins s σ H Q I) (k.run pins s σ H Q I)⟩
theorem ps_union {X : Cx} {st : Stmt} {t u : TS} (h : PS X st t) (k : PS X st u) : PS X st (fun D σ H => t D σ H ∨ u D σ H) :=
  ⟨fun pins s σ H Q I q => q.elim (h.run pins s σ H Q I) (k.run pins s σ H Q I)⟩
theorem DE.or {X : Cx} {P : PX} {e : Expr} {W W' : WE} (h : DE X P e W) (k : DE X P e W') : DE X P e (fun s O Q => W s O Q ∨ W' s O Q) := by
  obtain ⟨t, p, h⟩ := h.ex
  obtain ⟨u, q, k⟩ := k.ex
  exact ⟨_, pe_union p q, fun w σ s H O Q R rs ro w po => w.elim (fun w => .inl (h _ σ s H O Q R rs ro w po)) fun w => .inr (k _ σ s H O Q R rs ro w po)⟩
theorem DOp.or {X : Cx} {f} {o o' : DOF} (h : DOp X f o) (k : DOp X f o') : DOp X f (fun x y O Q => o x y O Q ∨ o' x y O Q) := by
  obtain ⟨t, p, h⟩ := h.ex
  obtain ⟨u, q, k⟩ := k.ex
  exact ⟨_, OpR.or p q, fun w H O x y vx vy Q R ro rx ry w po => w.elim (fun w => .inl (h _ H O x y vx vy Q R ro rx ry w po)) fun w => .inr (k _ H O x y vx vy Q R ro rx ry w po)⟩
theorem DOp.imp {X : Cx} {f} {o o' : DOF} (h : DOp X f o) (k : ∀ x y O Q, o' x y O Q → o x y O Q) : DOp X f o' := by
  obtain ⟨t, p, h⟩ := h.ex
  exact ⟨_, p, fun w H O x y vx vy Q R ro rx ry w po => h _ H O x y vx vy Q R ro rx ry (k _ _ _ _ w) po⟩
theorem DCall.or {X : Cx} {f} {o o' : DLF} (h : DCall X f o) (k : DCall X f o') : DCall X f (fun ds O Q => o ds O Q ∨ o' ds O Q) := by
  obtain ⟨t, p, h⟩ := h.ex
  obtain ⟨u, q, k⟩ := k.ex
  exact ⟨_, CallR.or p q, fun w H O ds vs Q R ro rx w po => w.elim (fun w => .inl (h _ H O ds vs Q R ro rx w po)) fun w => .inr (k _ H O ds vs Q R ro rx w po)⟩
theorem DCall.imp {X : Cx} {f} {o o' : DLF} (h : DCall X f o) (k : ∀ ds O Q, o' ds O Q → o ds O Q) : DCall X f o' := by
  obtain ⟨t, p, h⟩ := h.ex
  exact ⟨_, p, fun w H O ds vs Q R ro rx w po => h _ H O ds vs Q R ro rx (k _ _ _ w) po⟩
theorem NCall.or {X : Cx} {f} {o o' : NLF} (h : NCall X f o) (k : NCall X f o') : NCall X f (fun ds O Q => o ds O Q ∨ o' ds O Q) := by
  obtain ⟨t, p, h⟩ := h.ex
  obtain ⟨u, q, k⟩ := k.ex
  exact ⟨_, CallR.or p q, fun w H O ds vs Q R ro rx w po => w.elim (fun w => .inl (h _ H O ds vs Q R ro rx w po)) fun w => .inr (k _ H O ds vs Q R ro rx w po)⟩
theorem NCall.imp {X : Cx} {f} {o o' : NLF} (h : NCall X f o) (k : ∀ ds O Q, o' ds O Q → o ds O Q) : NCall X f o' := by
  obtain ⟨t, p, h⟩ := h.ex
  exact ⟨_, p, fun w H O ds vs Q R ro rx w po => h _ H O ds vs Q R ro rx (k _ _ _ w) po⟩

/-! ### names and constants -/
def look : SD → Nat → (SV → Prop) → Prop
  | [], _, _ => False
  | none :: _, 0, _ => False
  | some d :: _, 0, Q => Q d
  | _ :: r, i + 1, Q => look r i Q
theorem look_ex : ∀ {s : SD} {i : Nat} {Q : SV → Prop}, look s i Q → ∃ d, s[i]? = some (some d) ∧ Q d
  | none :: _, 0, _, h => h.elim
  | some d :: _, 0, Q, h => ⟨d, rfl, h⟩
  | none :: r, i + 1, Q, h => by
    obtain ⟨d, h1, h2⟩ := look_ex (s := r) (i := i) h
    exact ⟨d, by simpa using h1, h2⟩
  | some _ :: r, i + 1, Q, h => by
    obtain ⟨d, h1, h2⟩ := look_ex (s := r) (i := i) h
    exact ⟨d, by simpa using h1, h2⟩
def bvOf : SV → BV
  | .d x => .d x
  | .o m => .c true m
  | .b m => .c false m
theorem SRep.bv {w : Wd} : ∀ {x v}, SRep w x v → BRep w (bvOf x) v
  | _, _, .d r => .d r
  | _, _, .o e r => .own e r
  | _, _, .b e r => .fix e r
def wVar (i : Nat) : WE := fun s O Q => look s i fun d => Q (bvOf d) O
def wC (d : D) : WE := fun _ O Q => Q (.d d) O
section
variable {X : Cx} {P : PX} {pos : Pos}
theorem dv (i : Nat) {x : Str} (hN : X.N[i]? = some x := by rfl) (hv : Vis X.env.scope x := by first | exact Or.inl rfl | exact Or.inr (Or.inl rfl) | exact Or.inr (Or.inr rfl)) (hd : (x == ("__debug__" : Str)) = false := by decide)
    (hcd : (x == ("__classdict__" : Str)) = false := by decide) : DE X P (.Name x pos) (wVar i) := by
  refine ⟨_, pe_var hN hv hd hcd, fun w σ s H O Q R rs ro w po => ?_⟩
  obtain ⟨d, e, q⟩ := look_ex w
  obtain ⟨v, h1, h2⟩ := rs.at' i d e
  exact ⟨v, h1, po _ _ _ _ _ (Ext.refl _) ro h2.bv q⟩
theorem dC_of {e : Expr} {v : V} {d : D} (h : PE X e (tC v)) (r : ∀ w, Rep w d v) : DE X P e (wC d) :=
  ⟨_, h, fun w σ s H O Q R rs ro q po => po _ _ _ _ _ (Ext.refl _) ro (.d (r w)) q⟩
theorem de_int {i j} : DE X P (.Constant (.int i) j pos) (wC (.int i)) := dC_of pe_int fun _ => .int
theorem de_bl {b j} : DE X P (.Constant (.bool b) j pos) (wC (.bl b)) := dC_of pe_bl fun _ => .bl
theorem de_non {j} : DE X P (.Constant .none j pos) (wC .non) := dC_of pe_non fun _ => .non
theorem de_str {x j} : DE X P (.Constant (.str x) j pos) (wC (.str x)) := dC_of pe_str fun _ => .str
theorem de_gint {x : Str} {i : Int} (hg : Gl X x) (hm : ∃ t, X.mg x = some (.int i t)) (hd : (x == ("__debug__" : Str)) = false := by decide) : DE X P (.Name x pos) (wC (.int i)) := by
  obtain ⟨t, hm⟩ := hm
  exact dC_of (pe_glob (v := .int i) hg hm ⟨t, rfl⟩ hd) fun _ => .int
theorem de_gstr {x z : Str} (hg : Gl X x) (hm : ∃ t, X.mg x = some (.str z t)) (hd : (x == ("__debug__" : Str)) = false := by decide) : DE X P (.Name x pos) (wC (.str z)) := by
  obtain ⟨t, hm⟩ := hm
  exact dC_of (pe_glob (v := .str z) hg hm ⟨t, rfl⟩ hd) fun _ => .str
theorem de_gref {x : Str} {a : Addr} (hg : Gl X x) (hm : X.mg x = some (.ref a)) (hd : (x == ("__debug__" : Str)) = false := by decide) : DE X P (.Name x pos) (wC (.ref a)) := dC_of (pe_glob (v := .ref a) hg hm rfl hd) fun _ => .ref
theorem de_gty {x : Str} {T : String} (hg : Gl X x) (hm : X.mg x = none) (hv : bootBuiltins x = some (.type T)) (hn : x ≠ "__name__" := by decide) (hd : (x == ("__debug__" : Str)) = false := by decide) : DE X P (.Name x pos) (wC (.ty T)) := dC_of (pe_bltn (v := .ty T) hg hm hv rfl hn hd) fun _ => .ty
end

/-! ### operators -/
def wOp (o : DOF) (Wa Wb : WE) : WE := fun s O Q => Wa s O fun x O1 => Wb s O1 fun y O2 => o x y O2 Q
def wUn (o : DUF) (Wa : WE) : WE := fun s O Q => Wa s O fun x O1 => o x O1 Q
def wOpN (o : BV → BV → OO → (CM → OO → Prop) → Prop) (Wa Wb : WE) : WN := fun s O Q => Wa s O fun x O1 => Wb s O1 fun y O2 => o x y O2 Q
def blQ (d : BV) (Q : Bool → Prop) : Prop := match d with | .d (.bl b) => Q b | _ => False
theorem blQ_ex {d Q} (h : blQ d Q) : ∃ b, d = .d (.bl b) ∧ Q b := by
  cases d with
  | c => exact h.elim
  | d x => cases x <;> first | exact h.elim | exact ⟨_, rfl, h⟩
def wTst (W : WE) : WT := fun s O Q => W s O fun d O1 => blQ d fun b => Q b O1
section
variable {X : Cx} {P : PX} {pos : Pos} {a b c : Expr} {Wa Wb Wc : WE} {o o' : DOF}
theorem de_op {op : Operator} (ho : DOp X (binaryOp op) o) (ha : DE X P a Wa) (hb : DE X P b Wb) : DE X P (.BinOp a op b pos) (wOp o Wa Wb) := by
  obtain ⟨r, p, ho⟩ := ho.ex
  obtain ⟨ta, pa, ha⟩ := ha.ex
  obtain ⟨tb, pb, hb⟩ := hb.ex
  refine ⟨_, pe_op p pa pb, fun w σ s H O Q R rs ro w po => ?_⟩
  refine ha _ _ _ _ _ _ _ rs ro w fun v H1 Z1 d O1 s1 r1 e1 w1 => ?_
  refine hb _ _ _ _ _ _ _ (rs.mono s1) r1 w1 fun u H2 Z2 e O2 s2 r2 e2 w2 => ?_
  exact ho _ _ _ _ _ _ _ _ _ r2 (e1.mono s2) e2 w2 (po.mono (s1.trans s2))
theorem dn_op {op : Operator} {o} (ho : NOp X (binaryOp op) o) (ha : DE X P a Wa) (hb : DE X P b Wb) : DN X P (.BinOp a op b pos) (wOpN o Wa Wb) := by
  obtain ⟨r, p, ho⟩ := ho.ex
  obtain ⟨ta, pa, ha⟩ := ha.ex
  obtain ⟨tb, pb, hb⟩ := hb.ex
  refine ⟨_, pe_op p pa pb, fun w σ s H O Q R rs ro w po => ?_⟩
  refine ha _ _ _ _ _ _ _ rs ro w fun v H1 Z1 d O1 s1 r1 e1 w1 => ?_
  refine hb _ _ _ _ _ _ _ (rs.mono s1) r1 w1 fun u H2 Z2 e O2 s2 r2 e2 w2 => ?_
  exact ho _ _ _ _ _ _ _ _ _ r2 (e1.mono s2) e2 w2 (po.mono (s1.trans s2))
theorem de_un {op : UnaryOp} {o : DUF} (ho : DUn X (unaryOp op) o) (ha : DE X P a Wa) : DE X P (.UnaryOp op a pos) (wUn o Wa) := by
  obtain ⟨r, p, ho⟩ := ho.ex
  obtain ⟨ta, pa, ha⟩ := ha.ex
  refine ⟨_, pe_un p pa, fun w σ s H O Q R rs ro w po => ?_⟩
  refine ha _ _ _ _ _ _ _ rs ro w fun v H1 Z1 d O1 s1 r1 e1 w1 => ?_
  exact ho _ _ _ _ _ _ _ r1 e1 w1 (po.mono s1)
theorem de_cmp {op : CmpOp} (ho : DOp X (compareOp op) o) (ha : DE X P a Wa) (hb : DE X P b Wb) (hm : behindInMarks op b = false) : DE X P (.Compare a [op] [b] pos) (wOp o Wa Wb) := by
  obtain ⟨r, p, ho⟩ := ho.ex
  obtain ⟨ta, pa, ha⟩ := ha.ex
  obtain ⟨tb, pb, hb⟩ := hb.ex
  refine ⟨_, pe_cmpR p pa pb hm, fun w σ s H O Q R rs ro w po => ?_⟩
  refine ha _ _ _ _ _ _ _ rs ro w fun v H1 Z1 d O1 s1 r1 e1 w1 => ?_
  refine hb _ _ _ _ _ _ _ (rs.mono s1) r1 w1 fun u H2 Z2 e O2 s2 r2 e2 w2 => ?_
  exact ho _ _ _ _ _ _ _ _ _ r2 (e1.mono s2) e2 w2 (po.mono (s1.trans s2))
theorem dt_cmp {op : CmpOp} (ho : DOp X (compareOp op) o) (ha : DE X P a Wa) (hb : DE X P b Wb) (hm : behindInMarks op b = false) : DT X P (.Compare a [op] [b] pos) (wTst (wOp o Wa Wb)) := by
  obtain ⟨r, p, ho⟩ := ho.ex
  obtain ⟨ta, pa, ha⟩ := ha.ex
  obtain ⟨tb, pb, hb⟩ := hb.ex
  refine ⟨_, pt_cmpR p pa pb hm, fun w σ s H O Q R rs ro w po => ?_⟩
  refine ha _ _ _ _ _ _ _ rs ro w fun v H1 Z1 d O1 s1 r1 e1 w1 => ?_
  refine hb _ _ _ _ _ _ _ (rs.mono s1) r1 w1 fun u H2 Z2 e O2 s2 r2 e2 w2 => ?_
  refine ho _ _ _ _ _ _ _ _ _ r2 (e1.mono s2) e2 w2 fun v3 H3 Z3 d3 O3 s3 r3 e3 w3 => ?_
  obtain ⟨k, rfl, q⟩ := blQ_ex w3
  cases e3.toD
  exact ⟨k, rfl, po _ _ _ _ (s1.trans (s2.trans s3)) r3 q⟩
def wChain (o o' : DOF) (Wa Wb Wc : WE) : WE := fun s O Q => Wa s O fun x O1 => Wb s O1 fun y O2 => o x y O2 fun z O3 => blQ z fun k => if k = true then Wc s O3 fun w O4 => o' y w O4 Q else Q (.d (.bl false)) O3
theorem de_chain {op op' : CmpOp} (ho : DOp X (compareOp op) o) (ho' : DOp X (compareOp op') o') (ha : DE X P a Wa) (hb : DE X P b Wb) (hc : DE X P c Wc)
    (hm : lastMarks [op, op'] [b, c] = false := by with_unfolding_all rfl) : DE X P (.Compare a [op, op'] [b, c] pos) (wChain o o' Wa Wb Wc) := by
  obtain ⟨r, p, ho⟩ := ho.ex
  obtain ⟨r', p', ho'⟩ := ho'.ex
  obtain ⟨ta, pa, ha⟩ := ha.ex
  obtain ⟨tb, pb, hb⟩ := hb.ex
  obtain ⟨tc, pc, hc⟩ := hc.ex
  refine ⟨_, pe_chain p p' pa pb pc hm, fun w σ s H O Q R rs ro w po => ?_⟩
  refine ha _ _ _ _ _ _ _ rs ro w fun v H1 Z1 d O1 s1 r1 e1 w1 => ?_
  refine hb _ _ _ _ _ _ _ (rs.mono s1) r1 w1 fun u H2 Z2 e O2 s2 r2 e2 w2 => ?_
  refine ho _ _ _ _ _ _ _ _ _ r2 (e1.mono s2) e2 w2 fun v3 H3 Z3 d3 O3 s3 r3 e3 w3 => ?_
  obtain ⟨k, rfl, q⟩ := blQ_ex w3
  cases e3.toD
  refine ⟨k, rfl, ?_⟩
  cases k with
  | true =>
    rw [if_pos rfl] at q ⊢
    refine hc _ _ _ _ _ _ _ (rs.mono (s1.trans (s2.trans s3))) r3 q fun v4 H4 Z4 d4 O4 s4 r4 e4 w4 => ?_
    exact ho' _ _ _ _ _ _ _ _ _ r4 (e2.mono (s3.trans s4)) e4 w4 (po.mono (s1.trans (s2.trans (s3.trans s4))))
  | false =>
    rw [if_neg Bool.false_ne_true] at q ⊢
    exact po _ _ _ _ _ (s1.trans (s2.trans s3)) r3 (.d .bl) q
end

/-! ### bool ops, if -/
def wAnd (Wa : WE) (Wb : WE) : WE := fun s O Q => Wa s O fun d O1 => blQ d fun k => if k = true then Wb s O1 Q else Q (.d (.bl false)) O1
def wOr (Wa : WE) (Wb : WE) : WE := fun s O Q => Wa s O fun d O1 => blQ d fun k => if k = true then Q (.d (.bl true)) O1 else Wb s O1 Q
def wNot (Wa : WE) : WE := fun s O Q => Wa s O fun d O1 => blQ d fun k => Q (.d (.bl (!k))) O1
def wIf (Wc : WT) (Wa Wb : WE) : WE := fun s O Q => Wc s O fun k O1 => if k = true then Wa s O1 Q else Wb s O1 Q
def tAndW (Wa Wb : WT) : WT := fun s O Q => Wa s O fun k O1 => if k = true then Wb s O1 Q else Q false O1
def tOrW (Wa Wb : WT) : WT := fun s O Q => Wa s O fun k O1 => if k = true then Q true O1 else Wb s O1 Q
def tNotW (Wa : WT) : WT := fun s O Q => Wa s O fun k O1 => Q (!k) O1
section
variable {X : Cx} {P : PX} {pos : Pos} {a b c e : Expr} {rest : List Expr} {Wa Wb Wc : WE} {Va Vb : WT}
theorem de_one {op : BoolOp} (ha : DE X P a Wa) : DE X P (.BoolOp op [a] pos) Wa := by
  obtain ⟨t, p, h⟩ := ha.ex
  exact ⟨t, pe_one p, h⟩
theorem de_and (ha : DE X P a Wa) (hb : DE X P (.BoolOp .And (b :: rest) pos) Wb) : DE X P (.BoolOp .And (a :: b :: rest) pos) (wAnd Wa Wb) := by
  obtain ⟨t, p, h⟩ := ha.ex
  obtain ⟨u, q, k⟩ := hb.ex
  refine ⟨_, pe_and p q, fun w σ s H O Q R rs ro w po => h _ _ _ _ _ _ _ rs ro w fun v H1 Z1 d O1 s1 r1 e1 w1 => ?_⟩
  obtain ⟨x, rfl, q⟩ := blQ_ex w1
  cases e1.toD
  refine ⟨x, rfl, ?_⟩
  cases x with
  | true =>
    rw [if_pos rfl] at q ⊢
    exact k _ _ _ _ _ _ _ (rs.mono s1) r1 q (po.mono s1)
  | false =>
    rw [if_neg Bool.false_ne_true] at q ⊢
    exact po _ _ _ _ _ s1 r1 (.d .bl) q
theorem de_or (ha : DE X P a Wa) (hb : DE X P (.BoolOp .Or (b :: rest) pos) Wb) : DE X P (.BoolOp .Or (a :: b :: rest) pos) (wOr Wa Wb) := by
  obtain ⟨t, p, h⟩ := ha.ex
  obtain ⟨u, q, k⟩ := hb.ex
  refine ⟨_, pe_or p q, fun w σ s H O Q R rs ro w po => h _ _ _ _ _ _ _ rs ro w fun v H1 Z1 d O1 s1 r1 e1 w1 => ?_⟩
  obtain ⟨x, rfl, q⟩ := blQ_ex w1
  cases e1.toD
  refine ⟨x, rfl, ?_⟩
  cases x with
  | true =>
    rw [if_pos rfl] at q ⊢
    exact po _ _ _ _ _ s1 r1 (.d .bl) q
  | false =>
    rw [if_neg Bool.false_ne_true] at q ⊢
    exact k _ _ _ _ _ _ _ (rs.mono s1) r1 q (po.mono s1)
theorem de_not (ha : DE X P a Wa) : DE X P (.UnaryOp .Not a pos) (wNot Wa) := by
  obtain ⟨t, p, h⟩ := ha.ex
  refine ⟨_, pe_not p, fun w σ s H O Q R rs ro w po => h _ _ _ _ _ _ _ rs ro w fun v H1 Z1 d O1 s1 r1 e1 w1 => ?_⟩
  obtain ⟨x, rfl, q⟩ := blQ_ex w1
  cases e1.toD
  exact ⟨x, rfl, po _ _ _ _ _ s1 r1 (.d .bl) q⟩
theorem de_if (hc : DT X P c Va) (ha : DE X P a Wa) (hb : DE X P b Wb) : DE X P (.IfExp c a b pos) (wIf Va Wa Wb) := by
  obtain ⟨tc, pc, kc⟩ := hc.ex
  obtain ⟨t, p, h⟩ := ha.ex
  obtain ⟨u, q, k⟩ := hb.ex
  refine ⟨_, pe_ifExp pc p q, fun w σ s H O Q R rs ro w po => kc _ _ _ _ _ _ _ rs ro w fun x H1 Z1 O1 s1 r1 w1 => ?_⟩
  cases x with
  | true =>
    rw [if_pos rfl] at w1 ⊢
    exact h _ _ _ _ _ _ _ (rs.mono s1) r1 w1 (po.mono s1)
  | false =>
    rw [if_neg Bool.false_ne_true] at w1 ⊢
    exact k _ _ _ _ _ _ _ (rs.mono s1) r1 w1 (po.mono s1)
theorem dt_val (h : DE X P e Wa) (he : ∀ whole, isTrue e X.env whole = (do let v ← whole; standAt e.pos; holding [v] (truthy v)) := by intro _; rfl) : DT X P e (wTst Wa) := by
  obtain ⟨t, p, h⟩ := h.ex
  refine ⟨_, pt_val p he, fun w σ s H O Q R rs ro w po => h _ _ _ _ _ _ _ rs ro w fun v H1 Z1 d O1 s1 r1 e1 w1 => ?_⟩
  obtain ⟨x, rfl, q⟩ := blQ_ex w1
  cases e1.toD
  exact ⟨x, rfl, po _ _ _ _ s1 r1 q⟩
theorem dt_not (ha : DT X P a Va) : DT X P (.UnaryOp .Not a pos) (tNotW Va) := by
  obtain ⟨t, p, h⟩ := ha.ex
  exact ⟨_, pt_not p, fun w σ s H O Q R rs ro w po => h _ _ _ _ _ _ _ rs ro w fun x H1 Z1 O1 s1 r1 w1 => po _ _ _ _ s1 r1 w1⟩
theorem dw_and1 (ha : DT X P a Va) : DW X P (.BoolOp .And [a] pos) Va := by
  obtain ⟨t, p, h⟩ := ha.ex
  exact ⟨_, pw_and1 p, h⟩
theorem dw_or1 (ha : DT X P a Va) : DW X P (.BoolOp .Or [a] pos) Va := by
  obtain ⟨t, p, h⟩ := ha.ex
  exact ⟨_, pw_or1 p, h⟩
theorem dw_and (ha : DT X P a Va) (hb : DW X P (.BoolOp .And (b :: rest) pos) Vb) : DW X P (.BoolOp .And (a :: b :: rest) pos) (tAndW Va Vb) := by
  obtain ⟨t, p, h⟩ := ha.ex
  obtain ⟨u, q, k⟩ := hb.ex
  refine ⟨_, pw_and p q, fun w σ s H O Q R rs ro w po => h _ _ _ _ _ _ _ rs ro w fun x H1 Z1 O1 s1 r1 w1 => ?_⟩
  cases x with
  | true =>
    rw [if_pos rfl] at w1 ⊢
    exact k _ _ _ _ _ _ _ (rs.mono s1) r1 w1 (po.mono s1)
  | false =>
    rw [if_neg Bool.false_ne_true] at w1 ⊢
    exact po _ _ _ _ s1 r1 w1
theorem dw_or (ha : DT X P a Va) (hb : DW X P (.BoolOp .Or (b :: rest) pos) Vb) : DW X P (.BoolOp .Or (a :: b :: rest) pos) (tOrW Va Vb) := by
  obtain ⟨t, p, h⟩ := ha.ex
  obtain ⟨u, q, k⟩ := hb.ex
  refine ⟨_, pw_or p q, fun w σ s H O Q R rs ro w po => h _ _ _ _ _ _ _ rs ro w fun x H1 Z1 O1 s1 r1 w1 => ?_⟩
  cases x with
  | true =>
    rw [if_pos rfl] at w1 ⊢
    exact po _ _ _ _ s1 r1 w1
  | false =>
    rw [if_neg Bool.false_ne_true] at w1 ⊢
    exact k _ _ _ _ _ _ _ (rs.mono s1) r1 w1 (po.mono s1)
theorem DW.dt (h : DW X P e Va) : DT X P e Va := by
  obtain ⟨t, p, h⟩ := h.ex
  exact ⟨t, p.pt, h⟩
end

/-! ### argument lists, displays -/
def wNil : WA := fun _ O Q => Q [] O
def wCons (Wa : WE) (Wr : WA) : WA := fun s O Q => Wa s O fun d O1 => Wr s O1 fun ds O2 => Q (d :: ds) O2
/-- all are trees -/
def allD : List BV → (List D → Prop) → Prop
  | [], K => K []
  | .d x :: r, K => allD r fun ds => K (x :: ds)
  | .c _ _ :: _, _ => False
theorem allD_ok {w : Wd} : ∀ {bs vs K}, BReps w bs vs → allD bs K → ∃ ds, Reps w ds vs ∧ K ds
  | _, _, _, .nil, h => ⟨[], .nil, h⟩
  | .d x :: _, _, K, .cons (.d a) r, h => by
    obtain ⟨ds, h1, h2⟩ := allD_ok (K := fun ds => K (x :: ds)) r h
    exact ⟨_, .cons a h1, h2⟩
  | .c _ _ :: _, _, _, .cons _ _, h => h.elim
def wTup (W : WA) : WE := fun s O Q => W s O fun bs O1 => allD bs fun ds => Q (.d (.tup ds)) O1
def wLst (W : WA) : WN := fun s O Q => W s O fun bs O1 => allD bs fun ds => Q (.lst ds) O1
def wNewK : WN := fun _ O Q => Q (.dic []) O
def wNewT : WN := fun _ O Q => Q (.dct []) O
section
variable {X : Cx} {P : PX} {pos : Pos} {e : Expr} {es : List Expr} {Wa : WE} {W : WA} {Wn : WN}
theorem da_nil : DA X P [] wNil := ⟨_, pa_nil, fun w σ s H O Q R rs ro w po => po _ _ _ _ _ rfl (Ext.refl _) ro .nil w⟩
theorem da_cons (ha : DE X P e Wa) (hr : DA X P es W) (hs : starEach (e :: es) X.env = (false, eval e X.env) :: starEach es X.env := by rfl) : DA X P (e :: es) (wCons Wa W) := by
  obtain ⟨t, p, h⟩ := ha.ex
  obtain ⟨u, q, k⟩ := hr.ex
  refine ⟨_, pa_cons p q hs, fun w σ s H O Q R rs ro w po => ?_⟩
  refine h _ _ _ _ _ _ _ rs ro w fun v H1 Z1 d O1 s1 r1 e1 w1 => ?_
  refine k _ _ _ _ _ _ _ (rs.mono s1) r1 w1 fun vs H2 Z2 ds O2 l2 s2 r2 e2 w2 => ?_
  exact po _ _ _ _ _ (by simp [l2]) (s1.trans s2) r2 (.cons (e1.mono s2) e2) w2
theorem de_tup {x1} (h : DA X P es W) (hl : es.length ≤ 1000 := by decide) : DE X P (.Tuple es x1 pos) (wTup W) := by
  obtain ⟨t, p, h⟩ := h.ex
  refine ⟨_, pe_tup p, fun w σ s H O Q R rs ro w po => ?_⟩
  refine h _ _ _ _ _ _ _ rs ro w fun vs H2 Z2 ds O2 l2 s2 r2 e2 w2 => ?_
  obtain ⟨es', h1, h2⟩ := allD_ok e2 w2
  refine ⟨?_, fun p hp => ?_⟩
  · rw [← e2.length, l2]
    exact Nat.le_of_lt (small1000 hl)
  · obtain ⟨s3, r3⟩ := r2.newZ (u := .tup vs) hp
    exact po _ _ _ _ _ (s2.trans s3) r3 (.d (.tup put_same (h1.mono s3.l))) h2
theorem dn_lst (h : DA X P es W) (hl : es.length ≤ 1000 := by decide) : DN X P (.List es pos) (wLst W) := by
  obtain ⟨t, p, h⟩ := h.ex
  refine ⟨_, pe_lst p, fun w σ s H O Q R rs ro w po => ?_⟩
  refine h _ _ _ _ _ _ _ rs ro w fun vs H2 Z2 ds O2 l2 s2 r2 e2 w2 => ?_
  obtain ⟨es', h1, h2⟩ := allD_ok e2 w2
  refine ⟨?_, fun p hp => ?_⟩
  · rw [← e2.length, l2]
    exact Nat.le_of_lt (small1000 hl)
  · exact po p _ _ _ (.lst es') _ s2 (r2.newC hp) (r2.freeW hp) (r2.free hp) upd_same ⟨vs, rfl, h1⟩ h2
theorem dn_newK : DN X P (.Dict [] [] pos) wNewK :=
  ⟨_, pe_dnewK, fun w σ s H O Q R rs ro q po p hp => po p _ _ _ (.dic []) _ (Ext.refl _) (ro.newC hp) (ro.freeW hp) (ro.free hp) upd_same ⟨[], rfl, .nil⟩ q⟩
theorem dn_newT : DN X P (.Dict [] [] pos) wNewT :=
  ⟨_, pe_dnewT, fun w σ s H O Q R rs ro q po p hp => po p _ _ _ (.dct []) _ (Ext.refl _) (ro.newC hp) (ro.freeW hp) (ro.free hp) upd_same ⟨[], rfl, .nil⟩ q⟩

/-! ### what becomes of a new container -/
/-- lent for the moment -/
def wTmp (W : WN) : WE := fun s O Q => W s O fun m O1 => Q (.c false m) O1
theorem de_tmp (h : DN X P e Wn) : DE X P e (wTmp Wn) := by
  obtain ⟨t, p, h⟩ := h.ex
  refine ⟨_, p, fun w σ s H O Q R rs ro w po => h _ _ _ _ _ _ _ rs ro w fun p u H1 Z1 m O1 s1 r1 n1 n2 hu cr q => ?_⟩
  have x := ext_put (c := .fix u) n1
  exact po _ _ _ _ _ (s1.trans x) (r1.tell (c := .fix u) n1 n2 hu) (.fix put_same (cr.mono x.l)) q
/-- live from now on -/
def moC : CM → Option MO
  | .lst ds => some (.lst ds)
  | .dic kvs => some (.dic kvs)
  | .dct kvs => some (.dct kvs)
  | _ => none
def liveC (m : CM) (O : OO) (Q : BV → OO → Prop) : Prop := match m with
  | .lst ds => ∀ a, O a = none → Q (.d (.ref a)) (updO O a (.lst ds))
  | .dic kvs => ∀ a, O a = none → Q (.d (.ref a)) (updO O a (.dic kvs))
  | .dct kvs => ∀ a, O a = none → Q (.d (.ref a)) (updO O a (.dct kvs))
  | _ => False
theorem RelO.take {w : Wd} {H : Hp} {O : OO} {p : Addr} {m : MO} (h : RelO w H O) (nw : w p = none) (ok : MOk w H p m) : RelO w H (updO O p m) where
  cell := h.cell
  own := fun a k e => by
    by_cases ha : a = p
    · subst ha; rw [updO_same] at e; cases e; exact ok
    · rw [updO_ne ha] at e; exact h.own a k e
  off := fun a k e => by
    by_cases ha : a = p
    · subst ha; exact nw
    · rw [updO_ne ha] at e; exact h.off a k e
  fin := h.fin
  nx := h.nx
def wLive (W : WN) : WE := fun s O Q => W s O fun m O1 => liveC m O1 Q
theorem de_live (h : DN X P e Wn) : DE X P e (wLive Wn) := by
  obtain ⟨t, p, h⟩ := h.ex
  refine ⟨_, p, fun w σ s H O Q R rs ro w po => h _ _ _ _ _ _ _ rs ro w fun p u H1 Z1 m O1 s1 r1 n1 n2 hu cr q => ?_⟩
  cases m with
  | lst ds => obtain ⟨vs, rfl, r⟩ := cr; exact po _ _ _ _ _ s1 (r1.take (m := .lst ds) n1 ⟨vs, hu, r⟩) (.d .ref) (q p n2)
  | dic ds => obtain ⟨vs, rfl, r⟩ := cr; exact po _ _ _ _ _ s1 (r1.take (m := .dic ds) n1 ⟨vs, hu, r⟩) (.d .ref) (q p n2)
  | dct ds => obtain ⟨vs, rfl, r⟩ := cr; exact po _ _ _ _ _ s1 (r1.take (m := .dct ds) n1 ⟨vs, hu, r⟩) (.d .ref) (q p n2)
  | ldic _ => exact q.elim
  | ldct _ => exact q.elim
/-- the tree of a container -/
def treeC : CM → D
  | .lst ds => .lst ds
  | .dic kvs => .dic kvs
  | .dct kvs => .dct kvs
  | .ldic kvs => .dic kvs
  | .ldct kvs => .dct kvs
/-- a container frozen, once more locked if it is a dict -/
theorem CRep.frz {w w' : Wd} {m : CM} {u : HO} {p : Addr} (cr : CRep w m u) (h : Le0 w w') : (w' p = some (.frz u) → Rep w' (treeC m) (.ref p)) ∨ (Mut (some u) ∧ ∀ o, w' p = some (.frz (.frz o u)) → Rep w' (treeC m) (.ref p)) := by
  cases m with
  | lst ds => obtain ⟨vs, rfl, r⟩ := cr; exact .inl fun e => .lst e (r.mono h)
  | dic ds => obtain ⟨vs, rfl, r⟩ := cr; exact .inr ⟨True.intro, fun o e => .dic e (r.mono h)⟩
  | dct ds => obtain ⟨vs, rfl, r⟩ := cr; exact .inr ⟨True.intro, fun o e => .dct e (r.mono h)⟩
  | ldic _ => obtain ⟨o, vs, rfl, r⟩ := cr; exact .inl fun e => .dic e (r.mono h)
  | ldct _ => obtain ⟨o, vs, rfl, r⟩ := cr; exact .inl fun e => .dct e (r.mono h)
/-- the value of e, the thing there locked if one likes -/
theorem pe_locked {e : Expr} {td : TE} (he : PE X e td) : PE X e (fun σ H Q => td σ H fun x H1 => Q x H1 ∨ ∃ p u, x = .ref p ∧ H1 p = some u ∧ Mut (some u) ∧ ∀ o, Q x (upd H1 p (.frz o u))) := by
  refine ⟨fun pins s σ H Q I h => thn (he.run pins s σ H _ I h) fun v s1 ⟨x, H1, I1, r1, q⟩ => ?_⟩
  rcases q with q | ⟨p, u, ex, hd, mu, q⟩
  · exact ⟨x, H1, I1, r1, q⟩
  · obtain ⟨od, I2⟩ := I1.lock hd mu
    exact ⟨x, _, I2, r1, q od⟩
/-- an untold thing of the heap is rewritten and told -/
theorem RelO.tellUpd {w : Wd} {H : Hp} {O : OO} {p : Addr} {u : HO} {c : Cell} (h : RelO w H O) (n : w p = none) (no : O p = none) (ok : CellOk (w.put p c) (upd H p u) p c) (nx : NoX c := by first | exact True.intro | exact PlainU.of (by assumption) | exact (PlainU.of (by assumption)).2.1 | exact ⟨fun _ z => (by cases z), fun _ z => (by cases z), fun _ z => (by cases z)⟩ | exact fun _ z => (by cases z) | assumption) : RelO (w.put p c) (upd H p u) O where
  cell := fun a x e => by
    by_cases ha : a = p
    · subst ha; rw [put_same] at e; cases e; exact ok
    · rw [put_ne ha] at e
      exact ((h.cell a x e).at (upd_ne ha)).mono (ext_put n).l
  own := fun a m e => ((h.own a m e).at (upd_ne (neO e no))).mono (ext_put n).l
  off := fun a m e => by
    have ha : a ≠ p := neO e no
    rw [put_ne ha]
    exact h.off a m e
  fin := h.fin.put _ _
  nx := fun a x e => by
    by_cases ha : a = p
    · subst ha; rw [put_same] at e; cases e; exact nx
    · rw [put_ne ha] at e; exact h.nx a x e
def wFrz (W : WN) : WE := fun s O Q => W s O fun m O1 => Q (.d (treeC m)) O1
theorem de_frz (h : DN X P e Wn) : DE X P e (wFrz Wn) := by
  obtain ⟨t, p, h⟩ := h.ex
  refine ⟨_, pe_locked p, fun w σ s H O Q R rs ro w po => h _ _ _ _ _ _ _ rs ro w fun p u H1 Z1 m O1 s1 r1 n1 n2 hu cr q => ?_⟩
  have x := fun c => ext_put (c := c) n1
  rcases cr.frz (p := p) (w' := Z1.put p (.frz u)) (x _).l with k | _
  · exact .inl (po _ _ _ _ _ (s1.trans (x _)) (r1.tell (c := .frz u) n1 n2 hu) (.d (k put_same)) q)
  · cases m with
    | lst ds => obtain ⟨vs, rfl, r⟩ := cr; exact .inl (po _ _ _ _ _ (s1.trans (x _)) (r1.tell (c := .frz (.lst vs)) n1 n2 hu) (.d (.lst put_same (r.mono (x _).l))) q)
    | dic ds =>
      obtain ⟨vs, rfl, r⟩ := cr
      refine .inr ⟨p, _, rfl, hu, True.intro, fun o => ?_⟩
      exact po _ _ _ _ _ (s1.trans (x (.frz (.frz o (.dK vs))))) (r1.tellUpd (c := .frz (.frz o (.dK vs))) n1 n2 upd_same) (.d (.dic put_same (r.mono (x _).l))) q
    | dct ds =>
      obtain ⟨vs, rfl, r⟩ := cr
      refine .inr ⟨p, _, rfl, hu, True.intro, fun o => ?_⟩
      exact po _ _ _ _ _ (s1.trans (x (.frz (.frz o (.dT vs))))) (r1.tellUpd (c := .frz (.frz o (.dT vs))) n1 n2 upd_same) (.d (.dct put_same (r.mono (x _).l))) q
    | ldic _ => obtain ⟨o, vs, rfl, r⟩ := cr; exact .inl (po _ _ _ _ _ (s1.trans (x _)) (r1.tell (c := .frz (.frz o (.dK vs))) n1 n2 hu) (.d (.dic put_same (r.mono (x _).l))) q)
    | ldct _ => obtain ⟨o, vs, rfl, r⟩ := cr; exact .inl (po _ _ _ _ _ (s1.trans (x _)) (r1.tell (c := .frz (.frz o (.dT vs))) n1 n2 hu) (.d (.dct put_same (r.mono (x _).l))) q)
end
end VD

set_option Elab.async false
set_option linter.all false
set_option maxRecDepth 100000
/-! VD: a def's promise where no repr is under way (the hand layer's own promise does not tell the guards; repr asks them) -/
namespace VD
open PySem PySem.Spec PyProof.Rows L2

/-- room, and nothing is being shown -/
structure RoomG (k : Nat) (A : Around) : Prop where
  room : Room k A
  calm : A.guards = some []
theorem RoomG.mono {j k A} (r : RoomG k A) (h : j ≤ k) : RoomG j A := ⟨r.room.mono h, r.calm⟩
theorem RoomG.u64 {k A} (r : RoomG k A) : A.units + 64 < cLine := r.room.units
theorem RoomG.u1 {k A} (r : RoomG k A) : A.units + 1 < cLine := by have := r.room.units; omega
theorem RoomG.deeper {k : Nat} {A : Around} (r : RoomG (k + 1) A) (env : Env) : RoomG k (A.deeper env) := ⟨r.room.deeper env, r.calm⟩
theorem guards_make {A : Around} {C : Addr} {us : List Value} {kw : List (Str × Value)} : (A.under (.builtin "type.__call__" ⟨.ref C :: us, kw⟩)).guards = A.guards := by
  simp [Around.under, Code.guards, Code.isGuard, guardIds, pushGuards]
theorem RoomG.make {k : Nat} {A : Around} (r : RoomG (k + 1) A) (C : Addr) (us : List Value) (kw : List (Str × Value)) : RoomG k (A.under (.builtin "type.__call__" ⟨.ref C :: us, kw⟩)) :=
  ⟨r.room.make C us kw, guards_make.trans r.calm⟩

/-- what a def keeps -/
structure FnG (P : Program) (w : World) (K : PySem.W.Frag) (mg : Str → Option Value) (base : Heap) (CX : CXT) (k : Nat) (f : Addr) (fd : FuncData) (ps : List Str) (sp : Sp) : Prop where
  many : ∀ vs H Q E, sp vs H Q E → vs.length = ps.length
  go : ∀ (A : Around) (below : List Env) (s : Shared) (H : Hp) (args : Args) (us : List Value) (vs : List V) (Q : VK) (E : XK), RoomG k A → Env0 P w K mg base A below s H → BindsTo s fd args (ps.zip us) → Vals vs us → sp vs H Q E →
    codeAny (model P w) A (.call (.ref f) args) (CR CX below P w H s Q E) s
theorem FnG.mono {P w K mg base CX j k f fd ps sp} (F : FnG P w K mg base CX j f fd ps sp) (h : j ≤ k) : FnG P w K mg base CX k f fd ps sp :=
  ⟨F.many, fun A b s H args us vs Q E r => F.go A b s H args us vs Q E (r.mono h)⟩

/-- a def of the text keeps what its body keeps -/
theorem fnG_of {CX : CXT} {P : Program} {w : World} {K : PySem.W.Frag} {mg : Str → Option Value} {base : Heap} {k : Nat} {f : Addr} {fd : FuncData} {x qual : Str} {st : Stmt} {N ps : List Str} {sp : Sp}
    (F : Fun K x qual st f fd) (Sc : FnScope N ps (defScope st)) (many : ∀ vs H Q E, sp vs H Q E → vs.length = ps.length)
    (walk : ∀ (cdv : Value) (A : Around) (below : List Env) (s : Shared) (H : Hp) (vs : List V) (Q : VK) (E : XK), fd.code = cdv → RoomG k (A.deeper (envOfC qual (defScope st) s.heap.objs.size f cdv)) → sp vs H Q E →
      ∃ t, PSs (cxOf CX P w K mg base N qual (defScope st) f cdv A below s H E) (defBody st) t ∧ t { nx := fun _ H' => Q .non H', rt := Q } (L2.start N vs) H) : FnG P w K mg base CX (k + 1) f fd ps sp := by
  obtain ⟨oc, od, kV, doc, pm, an, cdv, ct, osl, rfl, lk, hcd⟩ := F.ex
  refine ⟨many, fun A below s H args us vs Q E room e0 bind rel want => ?_⟩
  have inK : K.In s.heap := e0.mod.kin.keeps fun b o e => (e0.bs b o e).1
  have kinds : ∀ y ∈ ps.zip us, (defScope st).names.lookup y.1 = some .local ∨ ((defScope st).names.lookup y.1 = some .cell ∧ ((cellsFrom (s.heap.objs.size + 1) (defScope st).names []).lookup y.1).isSome = true) := by
    rintro ⟨n, v⟩ hy
    refine (Sc.par n (List.of_mem_zip hy).1).imp id fun q => ⟨q, ?_⟩
    exact PySem.W.cellsFrom_some _ _ _ (.inl q)
  refine codeAny_call_function room.room.depth (inK _ _ lk) rfl Sc.co Sc.gen rfl (PySem.W.codeRec_of inK hcd) (bind _ _ _ _ (wpAny_newFunctionEnv_cells Sc.kind kinds fun env he s1 x => ?_))
  subst he
  obtain ⟨t, run, wish⟩ := walk cdv A below s H vs Q E rfl (room.deeper _) want
  have inv : Inv (cxOf CX P w K mg base N qual (defScope st) f cdv A below s H E) [] (L2.start N vs) H s1 := inv_start Sc room.room.hd e0 (many _ _ _ _ want) rel x
  refine ⟨(e0.mod.nolimit.keeps fun b o e => (e0.bs b o e).1).keeps x.toInCall.keep, codeAny_func (wpAny_mono (run.run [] s1 _ H _ inv wish) (fun fl s' got => ?_) fun e s' got => got)⟩
  cases fl with
  | brk => exact got.elim fun _ z => z.elim fun _ z => z.2.elim
  | cont => exact got.elim fun _ z => z.elim fun _ z => z.2.elim
  | next =>
    obtain ⟨σ', H', J, q⟩ := got
    exact ⟨V.non, H', J.os, J.bare, J.base, J.hok, rfl, q⟩
  | ret u =>
    obtain ⟨v, σ', H', J, rv, q⟩ := got
    exact ⟨v, H', J.os, J.bare, J.base, J.hok, rv, q⟩

section
variable {X : Cx} {k : Nat} {f C : Addr} {fd : FuncData} {ps : List Str} {sp : Sp} {x m : Str} {p pos apos : Pos} {e o : Expr} {es : List Expr} {ta : TE} {t : TA} {CX : CXT} {E : L2.St → XK}
/-- the callee's run, told where it was called -/
theorem goG {pins : List (Addr × Obj)} {σ : L2.St} {H : Hp} {s : Shared} {Q : VK} {us : List Value} {vs : List V} (F : FnG X.prog X.w X.K X.mg X.base CX k f fd ps sp) (r : RoomG k X.A) (b : Binds X.K fd ps []) (out : ∀ σ, PassesAt CX X σ (E σ))
    (I : Inv X pins σ H s) (rel : Vals vs us) (want : sp vs H Q (E σ)) : wpAny (model X.prog X.w) X.A (call (.ref f) us) (EP X pins σ Q) X.xe s := by
  have len : (us ++ []).length = ps.length := by
    rw [List.append_nil, ← rel.length]
    exact F.many _ _ _ _ want
  have bb := b s us I.kIn len
  rw [List.append_nil] at bb
  refine wpAny_call (codeAny_mono (F.go X.A X.stack s H ⟨us, []⟩ us vs Q (E σ) r I.env0 bb rel want) fun res s' got => ?_)
  match res, got with
  | .error e, got => exact out σ pins H s e s' I got
  | .ok (.ret u), got => exact I.after got
theorem callG (F : FnG X.prog X.w X.K X.mg X.base CX k f fd ps sp) (r : RoomG k X.A) (hg : Gl X x) (hm : X.mg x = some (.ref f)) (hk : PySem.W.keepIn X.K (.ref f) = true) (b : Binds X.K fd ps []) (out : ∀ σ, PassesAt CX X σ (E σ))
    (ha : PA X (e :: es) t) (hdb : (x == ("__debug__" : Str)) = false := by decide) (he : starEach (e :: es) X.env = (false, eval e X.env) :: starEach es X.env := by rfl) (hpl : (backTo pos (starEach es X.env)).any (·.1) = false := by rfl) :
    PE X (.Call (.Name x p) (e :: es) [] pos) (fun σ H Q => t σ H fun vs H1 => sp vs H1 Q (E σ)) := by
  refine ⟨fun pins s σ H Q I h => wpAny_Call_Name_kw (ld_glob I hg hm ?_ hdb)⟩
  have step := thn (ha.run pos pins s σ H _ I h) (Q' := fun us s1 => X.K.In s1.heap ∧ wpAny (model X.prog X.w) X.A (call (.ref f) us) (EP X pins σ Q) X.xe s1) fun us s1 ⟨vs, H1, I1, rel, q⟩ => ⟨I1.kIn, goG F r b out I1 rel q⟩
  exact PySem.W.callWith_K (h₀ := X.base) I.ok.mod.kin hk step he hpl
theorem callG0 (F : FnG X.prog X.w X.K X.mg X.base CX k f fd ps sp) (r : RoomG k X.A) (hg : Gl X x) (hm : X.mg x = some (.ref f)) (hk : PySem.W.keepIn X.K (.ref f) = true) (b : Binds X.K fd ps []) (out : ∀ σ, PassesAt CX X σ (E σ))
    (hdb : (x == ("__debug__" : Str)) = false := by decide) : PE X (.Call (.Name x p) [] [] pos) (fun σ H Q => sp [] H Q (E σ)) :=
  ⟨fun pins s σ H Q I h => wpAny_Call_Name_kw (ld_glob I hg hm (PySem.W.callWith_K0 I.kIn hk (goG (us := []) F r b out I .nil h)) hdb)⟩
/-- a method of an instance of the class at C -/
def tMethG (C : Addr) (m : Str) (sp : Sp) (E : L2.St → XK) (ta : TE) (t : TA) : TE := fun σ H Q => ta σ H fun v H1 => ∃ a dx fs, v = .ref a ∧ H1 a = some (.ins C dx fs) ∧ fs.lookup m = none ∧ t σ H1 fun vs H2 => sp (v :: vs) H2 Q (E σ)
theorem methG {pl : Sem Bool} (ho : PE X o ta) (c : Cls X.K C) (hm : Meth X.K C m f) (F : FnG X.prog X.w X.K X.mg X.base CX k f fd ps sp) (r : RoomG k X.A) (b : Binds X.K fd ps []) (out : ∀ σ, PassesAt CX X σ (E σ)) (ha : PA X (e :: es) t)
    (he : starEach (e :: es) X.env = (false, eval e X.env) :: starEach es X.env := by rfl) (hpl : (backTo pos (starEach es X.env)).any (·.1) = false := by rfl)
    (hv : eval (.Call (.Attribute o m apos) (e :: es) [] pos) X.env = (do
      let ov ← eval o X.env
      standAt apos.atName
      let (g, first) ← holding [ov] (getMethod ov m pl)
      callWith pos g first (backTo pos (starEach (e :: es) X.env)) (backToKw pos (keywordEach [] X.env))) := by rfl) :
    PE X (.Call (.Attribute o m apos) (e :: es) [] pos) (tMethG C m sp E ta t) := by
  refine ⟨fun pins s σ H Q I h => PySem.W.methodCall_KW (pl := pl) (thn (ho.run pins s σ H _ I h) fun u s1 ⟨v, H1, I1, rv, a, dx, fs, ev, ea, l, q⟩ => ?_) hv⟩
  subst ev
  cases (show u = Value.ref a from rv)
  refine getmeth_ok I1 ea c hm l ?_
  have step := thn (ha.run pos pins s1 σ H1 _ I1 q) (Q' := fun us s2 => X.K.In s2.heap ∧ wpAny (model X.prog X.w) X.A (call (.ref f) (.ref a :: us)) (EP X pins σ Q) X.xe s2) fun us s2 ⟨vs, H2, I2, rel, q2⟩ => ⟨I2.kIn, goG (vs := .ref a :: vs) F r b out I2 (.cons rfl rel) q2⟩
  exact PySem.W.callWith_K (first := [.ref a]) (h₀ := X.base) I.ok.mod.kin hm.kp step he hpl
theorem methG0 {pl : Sem Bool} (ho : PE X o ta) (c : Cls X.K C) (hm : Meth X.K C m f) (F : FnG X.prog X.w X.K X.mg X.base CX k f fd ps sp) (r : RoomG k X.A) (b : Binds X.K fd ps []) (out : ∀ σ, PassesAt CX X σ (E σ))
    (hv : eval (.Call (.Attribute o m apos) [] [] pos) X.env = (do
      let ov ← eval o X.env
      standAt apos.atName
      let (g, first) ← holding [ov] (getMethod ov m pl)
      callWith pos g first (backTo pos (starEach [] X.env)) (backToKw pos (keywordEach [] X.env))) := by rfl) :
    PE X (.Call (.Attribute o m apos) [] [] pos) (tMethG C m sp E ta tNil) := by
  refine ⟨fun pins s σ H Q I h => PySem.W.methodCall_KW (pl := pl) (thn (ho.run pins s σ H _ I h) fun u s1 ⟨v, H1, I1, rv, a, dx, fs, ev, ea, l, q⟩ => ?_) hv⟩
  subst ev
  cases (show u = Value.ref a from rv)
  exact getmeth_ok I1 ea c hm l (PySem.W.callWith_K0 (first := [.ref a]) I1.kIn hm.kp (goG F r b out I1 (us := [.ref a]) (vs := [.ref a]) (.cons rfl .nil) q))
/-- a new instance, its __init__ run -/
def tMakeG (C : Addr) (sp : Sp) (E : L2.St → XK) (t : TA) : TE := fun σ H Q => t σ H fun vs H1 => ∀ a dx, H1 a = none → H1 dx = none → dx ≠ a →
  sp (.ref a :: vs) (upd (upd H1 dx (.own a)) a (.ins C dx [])) (fun v H2 => v = .non ∧ Q (.ref a) H2) (E σ)
theorem bornG {pins : List (Addr × Obj)} {σ : L2.St} {H : Hp} {s : Shared} {Q : VK} {us : List Value} {vs : List V} (M : Mk X.K C f) (F : FnG X.prog X.w X.K X.mg X.base CX k f fd ps sp) (r : RoomG (k + 1) X.A) (b : Binds X.K fd ps []) (out : ∀ σ, PassesAt CX X σ (E σ))
    (I : Inv X pins σ H s) (rel : Vals vs us)
    (want : ∀ a dx, H a = none → H dx = none → dx ≠ a → sp (.ref a :: vs) (upd (upd H dx (.own a)) a (.ins C dx [])) (fun v H2 => v = .non ∧ Q (.ref a) H2) (E σ)) :
    wpAny (model X.prog X.w) X.A (call (.ref C) us) (EP X pins σ Q) X.xe s := by
  have n0 := I.hok.fresh (Nat.le_refl s.heap.objs.size)
  have n1 := I.hok.fresh (Nat.le_succ s.heap.objs.size)
  have wish := want _ _ n1 n0 (Nat.ne_of_lt (Nat.lt_succ_self _))
  have J := Inv.made (C := C) I
  have rel2 : Vals (V.ref (s.heap.objs.size + 1) :: vs) (Value.ref (s.heap.objs.size + 1) :: us) := .cons rfl rel
  have bb := b _ (Value.ref (s.heap.objs.size + 1) :: us) J.kIn (by rw [List.append_nil, ← rel2.length]; exact F.many _ _ _ _ wish)
  rw [List.append_nil] at bb
  refine wpAny_call (make_map (f := f) I.kIn M.makes M.init (beq_iff_eq.mp M.fn) (codeAny_mono (F.go _ X.stack _ _ _ _ _ _ (E σ) (r.make C us []) (J.env0.make C us []) bb rel2 wish) fun res s' got => ?_))
  match res, got with
  | .error e, got => exact out σ pins _ _ e s' J got
  | .ok (.ret u), got =>
    obtain ⟨v, H', J3, rv, ev, q⟩ := J.after got
    subst ev
    exact ⟨rv, V.ref (s.heap.objs.size + 1), H', J3, rfl, q⟩
theorem makeG (M : Mk X.K C f) (F : FnG X.prog X.w X.K X.mg X.base CX k f fd ps sp) (r : RoomG (k + 1) X.A) (hg : Gl X x) (hm : X.mg x = some (.ref C)) (b : Binds X.K fd ps []) (out : ∀ σ, PassesAt CX X σ (E σ))
    (ha : PA X (e :: es) t) (hdb : (x == ("__debug__" : Str)) = false := by decide) (he : starEach (e :: es) X.env = (false, eval e X.env) :: starEach es X.env := by rfl) (hpl : (backTo pos (starEach es X.env)).any (·.1) = false := by rfl) :
    PE X (.Call (.Name x p) (e :: es) [] pos) (tMakeG C sp E t) := by
  refine ⟨fun pins s σ H Q I h => wpAny_Call_Name_kw (ld_glob I hg hm ?_ hdb)⟩
  have step := thn (ha.run pos pins s σ H _ I h) (Q' := fun us s1 => X.K.In s1.heap ∧ wpAny (model X.prog X.w) X.A (call (.ref C) us) (EP X pins σ Q) X.xe s1) fun us s1 ⟨vs, H1, I1, rel, q⟩ => ⟨I1.kIn, bornG M F r b out I1 rel q⟩
  exact PySem.W.callWith_K (h₀ := X.base) I.ok.mod.kin M.kp step he hpl
theorem makeG0 (M : Mk X.K C f) (F : FnG X.prog X.w X.K X.mg X.base CX k f fd ps sp) (r : RoomG (k + 1) X.A) (hg : Gl X x) (hm : X.mg x = some (.ref C)) (b : Binds X.K fd ps []) (out : ∀ σ, PassesAt CX X σ (E σ))
    (hdb : (x == ("__debug__" : Str)) = false := by decide) : PE X (.Call (.Name x p) [] [] pos) (tMakeG C sp E tNil) :=
  ⟨fun pins s σ H Q I h => wpAny_Call_Name_kw (ld_glob I hg hm (PySem.W.callWith_K0 I.kIn M.kp (bornG (us := []) M F r b out I .nil h)) hdb)⟩
end
end VD

set_option Elab.async false
set_option linter.all false
set_option maxRecDepth 100000
/-! VD: statements, targets, calls of defs -/
namespace VD
open PySem PySem.Spec PyProof.Rows L2

structure DEnds where
  nx : SD → OO → Prop
  rt : D → OO → Prop
  bk : SD → OO → Prop := fun _ _ => False
  ct : SD → OO → Prop := fun _ _ => False
abbrev WS := DEnds → SD → OO → Prop
def PostN (P : PX) (w : Wd) (N : SD → OO → Prop) (E : L2.St → Hp → Prop) : Prop := ∀ w' σ s H O, ExtS w w' → RelS P w' σ s → RelO w' H O → N s O → E σ H
def PostR (w : Wd) (Q : D → OO → Prop) (R : V → Hp → Prop) : Prop := ∀ v H' w' d O', ExtS w w' → RelO w' H' O' → Rep w' d v → Q d O' → R v H'
structure PostS (P : PX) (w : Wd) (D : DEnds) (E : Ends) : Prop where
  nx : PostN P w D.nx E.nx
  rt : PostR w D.rt E.rt
  bk : PostN P w D.bk E.bk
  ct : PostN P w D.ct E.ct
theorem PostN.mono {P w w' N E} (h : PostN P w N E) (s : ExtS w w') : PostN P w' N E := fun w2 σ sd H O s2 => h w2 σ sd H O (s.trans s2)
theorem PostR.mono {w w' N E} (h : PostR w N E) (s : ExtS w w') : PostR w' N E := fun v H w2 d O s2 => h v H w2 d O (s.trans s2)
theorem PostS.mono {P w w' D E} (h : PostS P w D E) (s : ExtS w w') : PostS P w' D E := ⟨h.nx.mono s, h.rt.mono s, h.bk.mono s, h.ct.mono s⟩

structure DS (X : Cx) (P : PX) (st : Stmt) (W : WS) : Prop where
  ex : ∃ t, PS X st t ∧ ∀ w σ s H O D E, RelS P w σ s → RelO w H O → W D s O → PostS P w D E → t E σ H
structure DSs (X : Cx) (P : PX) (st : List Stmt) (W : WS) : Prop where
  ex : ∃ t, PSs X st t ∧ ∀ w σ s H O D E, RelS P w σ s → RelO w H O → W D s O → PostS P w D E → t E σ H
abbrev WG := D → SD → OO → (SD → OO → Prop) → Prop
abbrev WGs := List D → SD → OO → (SD → OO → Prop) → Prop
structure DG (X : Cx) (P : PX) (tg : Expr) (W : WG) : Prop where
  ex : ∃ g, PG X tg g ∧ ∀ w σ s H O d v Q R, RelS P w σ s → RelO w H O → Rep w d v → W d s O Q → PostN P w Q R → g v σ H R
structure DGs (X : Cx) (P : PX) (tgs : List Expr) (W : WGs) : Prop where
  ex : ∃ g, PGs X tgs g ∧ ∀ w σ s H O ds vs Q R, RelS P w σ s → RelO w H O → Reps w ds vs → W ds s O Q → PostN P w Q R → g vs σ H R

def isD (x : BV) (K : D → Prop) : Prop := match x with | .d d => K d | .c _ _ => False
theorem isD_ex {x K} (h : isD x K) : ∃ d, x = .d d ∧ K d := by cases x with | d d => exact ⟨d, rfl, h⟩ | c => exact h.elim
/-! ### targets -/
def wgName (i : Nat) : WG := fun d s O Q => Q (s.set i (some (.d d))) O
def wgNil : WGs := fun ds s O Q => match ds with | [] => Q s O | _ => False
def wgCons (W : WG) (Ws : WGs) : WGs := fun ds s O Q => match ds with | d :: r => W d s O fun s1 O1 => Ws r s1 O1 Q | _ => False
def wgTup (n : Nat) (W : WGs) : WG := fun d s O Q => match d with | .tup ds => ds.length = n ∧ W ds s O Q | _ => False
section
variable {X : Cx} {P : PX} {pos : Pos} {e : Expr} {es : List Expr} {W : WG} {Ws : WGs}
theorem dg_name (i : Nat) {x : Str} (hN : X.N.Nodup) (hi : X.N[i]? = some x := by rfl) (hx : Loc X.env.scope x := by first | exact .inl rfl | exact .inr rfl)
    (hf : X.fn x = true ∨ X.env.scope.names.lookup x = some .local := by first | exact .inl rfl | exact .inr rfl | assumption) : DG X P (.Name x pos) (wgName i) :=
  ⟨_, pg_name hN hi hx hf, fun w σ s H O d v Q R rs ro r q po => po _ _ _ _ _ (ExtS.refl _) (rs.set i r) ro q⟩
theorem dgs_nil : DGs X P [] wgNil := ⟨_, pgs_nil, fun w σ s H O ds vs Q R rs ro r q po => by
  cases r with
  | nil => exact ⟨rfl, po _ _ _ _ _ (ExtS.refl _) rs ro q⟩
  | cons _ _ => exact q.elim⟩
theorem dgs_cons (h1 : DG X P e W) (h2 : DGs X P es Ws) (hs : (assignEach (e :: es) X.env).map (·.2) = assign e X.env :: (assignEach es X.env).map (·.2) := by rfl) : DGs X P (e :: es) (wgCons W Ws) := by
  obtain ⟨g, p, h⟩ := h1.ex
  obtain ⟨k, q, j⟩ := h2.ex
  refine ⟨_, pgs_cons p q hs, fun w σ s H O ds vs Q R rs ro r q po => ?_⟩
  cases r with
  | nil => exact q.elim
  | cons a t =>
    refine ⟨_, _, rfl, h _ _ _ _ _ _ _ _ _ rs ro a q fun Z1 σ1 s1 H1 O1 m1 rs1 ro1 w1 => ?_⟩
    exact j _ _ _ _ _ _ _ _ _ rs1 ro1 (t.mono m1.l) w1 (po.mono m1)
theorem dg_tup {k n : Nat} (hc : X.calm = true) (h : DGs X P es Ws)
    (hn : (assignEach es X.env).length = n := by rfl) (hst : (assignEach es X.env).findIdx? (·.1) = none := by rfl) : DG X P (.Tuple es k pos) (wgTup n Ws) := by
  obtain ⟨g, p, h⟩ := h.ex
  refine ⟨_, pg_tup hc p hn hst, fun w σ s H O d v Q R rs ro r q po => ?_⟩
  cases r with
  | tup e r =>
    obtain ⟨hl, q⟩ := q
    exact ⟨_, _, rfl, .inl (.inl (ro.frz e)), r.length.symm.trans hl, h _ _ _ _ _ _ _ _ _ rs ro r q po⟩
  | _ => exact q.elim
end

/-! ### statements -/
def wAsg (We : WE) (g : WG) : WS := fun D s O => We s O fun x O1 => isD x fun d => g d s O1 D.nx
def wDrop (We : WE) : WS := fun D s O => We s O fun _ O1 => D.nx s O1
def wRet (We : WE) : WS := fun D s O => We s O fun x O1 => isD x fun d => D.rt d O1
def wRetN : WS := fun D _ O => D.rt .non O
def wIfS (Wc : WT) (a b : WS) : WS := fun D s O => Wc s O fun k O1 => if k = true then a D s O1 else b D s O1
def wSeq (a b : WS) : WS := fun D s O => a { D with nx := b D } s O
def wNext : WS := fun D s O => D.nx s O
def wNever : WS := fun _ _ _ => False
def wBreak : WS := fun D s O => D.bk s O
def wCont : WS := fun D s O => D.ct s O
/-- x = a new container, kept as x's own -/
def wOwn (i : Nat) (Wn : WN) : WS := fun D s O => Wn s O fun m O1 => D.nx (s.set i (some (.o m))) O1
section
variable {X : Cx} {P : PX} {pos : Pos} {e c : Expr} {st : Stmt} {rest sa sb : List Stmt} {We : WE} {Wn : WN} {Wc : WT} {W W' : WS} {G : WG}
theorem ds_asg {tg : Expr} (he : DE X P e We) (hg : DG X P tg G) (hs : swapsWithSole [tg] e pos.line X.env = pure false := by rfl) (hw : swappedStores [tg] e X.env = pure none := by rfl)
    (h1 : (assignEach [tg] X.env).map (·.2) = [assign tg X.env] := by rfl) : DS X P (.Assign [tg] e pos) (wAsg We G) := by
  obtain ⟨t, p, h⟩ := he.ex
  obtain ⟨g, q, k⟩ := hg.ex
  refine ⟨_, ps_asg p q hs hw h1, fun w σ s H O D E rs ro w po => ?_⟩
  refine h _ _ _ _ _ _ _ rs ro w fun v H1 Z1 d O1 s1 r1 e1 w1 => ?_
  obtain ⟨d, rfl, w1⟩ := isD_ex w1
  exact k _ _ _ _ _ _ _ _ _ (rs.mono s1) r1 e1.toD w1 (po.nx.mono s1.s)
theorem ds_set (i : Nat) {x : Str} {pos' : Pos} (hN : X.N.Nodup) (he : DE X P e We) (hi : X.N[i]? = some x := by rfl) (hx : Loc X.env.scope x := by first | exact .inl rfl | exact .inr rfl) (hs : swapsWith e (some (.Name x pos')) pos.line X.env = pure false := by rfl)
    (hf : X.fn x = true ∨ X.env.scope.names.lookup x = some .local := by first | exact .inl rfl | exact .inr rfl | assumption) : DS X P (.Assign [.Name x pos'] e pos) (wAsg We (wgName i)) := by
  obtain ⟨t, p, h⟩ := he.ex
  refine ⟨_, ps_set hN hi hx p hs hf, fun w σ s H O D E rs ro w po => ?_⟩
  refine h _ _ _ _ _ _ _ rs ro w fun v H1 Z1 d O1 s1 r1 e1 w1 => ?_
  obtain ⟨d, rfl, w1⟩ := isD_ex w1
  exact po.nx _ _ _ _ _ s1.s ((rs.mono s1).set i e1.toD) r1 w1
theorem ds_own (i : Nat) {x : Str} {pos' : Pos} (hN : X.N.Nodup) (he : DN X P e Wn) (hi : X.N[i]? = some x := by rfl) (hx : Loc X.env.scope x := by first | exact .inl rfl | exact .inr rfl) (hs : swapsWith e (some (.Name x pos')) pos.line X.env = pure false := by rfl)
    (hf : X.fn x = true ∨ X.env.scope.names.lookup x = some .local := by first | exact .inl rfl | exact .inr rfl | assumption) : DS X P (.Assign [.Name x pos'] e pos) (wOwn i Wn) := by
  obtain ⟨t, p, h⟩ := he.ex
  refine ⟨_, ps_set hN hi hx p hs hf, fun w σ s H O D E rs ro w po => ?_⟩
  refine h _ _ _ _ _ _ _ rs ro w fun p u H1 Z1 m O1 s1 r1 n1 n2 hu cr q => ?_
  have x := ext_put (c := .own u) n1
  exact po.nx _ _ _ _ _ (s1.trans x).s ((rs.mono s1).setO i n1 cr) (r1.tell n1 n2 hu) q
theorem ds_expr (he : DE X P e We) (hs : swapsWith e none pos.line X.env = pure false := by rfl) : DS X P (.Expr e pos) (wDrop We) := by
  obtain ⟨t, p, h⟩ := he.ex
  refine ⟨_, ps_expr p hs, fun w σ s H O D E rs ro w po => ?_⟩
  exact h _ _ _ _ _ _ _ rs ro w fun v H1 Z1 d O1 s1 r1 e1 w1 => po.nx _ _ _ _ _ s1.s (rs.mono s1) r1 w1
theorem ds_ret (he : DE X P e We) : DS X P (.Return (some e) pos) (wRet We) := by
  obtain ⟨t, p, h⟩ := he.ex
  refine ⟨_, ps_ret p, fun w σ s H O D E rs ro w po => h _ _ _ _ _ _ _ rs ro w fun v H1 Z1 d O1 s1 r1 e1 w1 => ?_⟩
  obtain ⟨d, rfl, w1⟩ := isD_ex w1
  exact po.rt _ _ _ _ _ s1.s r1 e1.toD w1
theorem ds_retN : DS X P (.Return none pos) wRetN := ⟨_, ps_retN, fun w σ s H O D E rs ro q po => po.rt _ _ _ _ _ (ExtS.refl _) ro .non q⟩
theorem ds_if (hc : DT X P c Wc) (ha : DSs X P sa W) (hb : DSs X P sb W') : DS X P (.If c sa sb pos) (wIfS Wc W W') := by
  obtain ⟨tc, pc, kc⟩ := hc.ex
  obtain ⟨t, p, h⟩ := ha.ex
  obtain ⟨u, q, k⟩ := hb.ex
  refine ⟨_, ps_if pc p q, fun w σ s H O D E rs ro w po => kc _ _ _ _ _ _ _ rs ro w fun x H1 Z1 O1 s1 r1 w1 => ?_⟩
  cases x with
  | true =>
    rw [if_pos rfl] at w1 ⊢
    exact h _ _ _ _ _ _ _ (rs.mono s1) r1 w1 (po.mono s1.s)
  | false =>
    rw [if_neg Bool.false_ne_true] at w1 ⊢
    exact k _ _ _ _ _ _ _ (rs.mono s1) r1 w1 (po.mono s1.s)
theorem dss_nil : DSs X P [] wNext := ⟨_, pss_nil, fun w σ s H O D E rs ro q po => po.nx _ _ _ _ _ (ExtS.refl _) rs ro q⟩
theorem dss_cons (h1 : DS X P st W) (h2 : DSs X P rest W') : DSs X P (st :: rest) (wSeq W W') := by
  obtain ⟨t, p, h⟩ := h1.ex
  obtain ⟨u, q, k⟩ := h2.ex
  refine ⟨_, pss_cons p q, fun w σ s H O D E rs ro w po => ?_⟩
  exact h _ _ _ _ _ _ _ rs ro w ⟨fun Z1 σ1 s1 H1 O1 m1 rs1 ro1 w1 => k _ _ _ _ _ _ _ rs1 ro1 w1 (po.mono m1), po.rt, po.bk, po.ct⟩
theorem dss_one (h1 : DS X P st W) : DSs X P [st] W := by
  obtain ⟨t, p, h⟩ := h1.ex
  exact ⟨_, pss_one p, h⟩
theorem ds_pass : DS X P (.Pass pos) wNext := ⟨_, ps_pass, fun w σ s H O D E rs ro q po => po.nx _ _ _ _ _ (ExtS.refl _) rs ro q⟩
theorem ds_break : DS X P (.Break pos) wBreak := ⟨_, ps_break, fun w σ s H O D E rs ro q po => po.bk _ _ _ _ _ (ExtS.refl _) rs ro q⟩
theorem ds_cont : DS X P (.Continue pos) wCont := ⟨_, ps_continue, fun w σ s H O D E rs ro q po => po.ct _ _ _ _ _ (ExtS.refl _) rs ro q⟩
theorem ds_never : DS X P st wNever := ⟨_, ps_never, fun w σ s H O D E rs ro q po => q.elim⟩
theorem dss_never : DSs X P rest wNever := ⟨_, pss_never, fun w σ s H O D E rs ro q po => q.elim⟩

/-! ### an own container becomes a tree, ahead of a statement -/
theorem pss_locked {ss : List Stmt} {t : TS} (h : PSs X ss t) : PSs X ss (fun D σ H => t D σ H ∨ ∃ p u, H p = some u ∧ Mut (some u) ∧ ∀ o, t D σ (upd H p (.frz o u))) := by
  refine ⟨fun pins s σ H Q I q => ?_⟩
  rcases q with q | ⟨p, u, hd, mu, q⟩
  · exact h.run pins s σ H Q I q
  · obtain ⟨od, I2⟩ := I.lock hd mu
    exact h.run pins s σ _ Q I2 (q od)
def fzS (i : Nat) (W : WS) (D : DEnds) (s : SD) (O : OO) : SV → Prop
  | .o m => W D (s.set i (some (.d (treeC m)))) O
  | _ => W D s O
def wFz (i : Nat) (W : WS) : WS := fun D s O => look s i (fzS i W D s O)
theorem dss_fz {ss : List Stmt} (i : Nat) (h : DSs X P ss W) : DSs X P ss (wFz i W) := by
  obtain ⟨t, p, h⟩ := h.ex
  refine ⟨_, pss_locked p, fun w σ s H O D E rs ro q po => ?_⟩
  obtain ⟨x, e, q⟩ := look_ex q
  cases x with
  | d _ => exact .inl (h _ _ _ _ _ _ _ rs ro q po)
  | b _ => exact .inl (h _ _ _ _ _ _ _ rs ro q po)
  | o m =>
    replace q : W D (s.set i (some (.d (treeC m)))) O := q
    obtain ⟨v, h1, h2⟩ := rs.at' i _ e
    cases h2 with
    | @o m p u hw cr =>
      have hp : H p = some u := ro.cell _ _ hw
      cases m with
      | lst ds =>
        obtain ⟨vs, rfl, r⟩ := cr
        obtain ⟨x1, r1⟩ := rs.frzO (x := .lst ds) (u' := .lst vs) e h1 hw fun w' l e' => .lst e' (r.mono l)
        have r2 := ro.putCell (c' := .frz (.lst vs)) (u' := .lst vs) hw (fun _ z => by cases z) (fun z => by cases z) upd_same
        rw [show upd H p (.lst vs) = H from by funext b; by_cases hb : b = p; (subst hb; rw [upd_same, hp]); (rw [upd_ne hb])] at r2
        exact .inl (h _ _ _ _ _ _ _ r1 r2 q (po.mono x1))
      | dic ds =>
        obtain ⟨vs, rfl, r⟩ := cr
        refine .inr ⟨p, _, hp, True.intro, fun o => ?_⟩
        obtain ⟨x1, r1⟩ := rs.frzO (x := .dic ds) (u' := .frz o (.dK vs)) e h1 hw fun w' l e' => .dic e' (r.mono l)
        exact h _ _ _ _ _ _ _ r1 (ro.putCell (c' := .frz (.frz o (.dK vs))) hw (fun _ z => by cases z) (fun z => by cases z) upd_same) q (po.mono x1)
      | dct ds =>
        obtain ⟨vs, rfl, r⟩ := cr
        refine .inr ⟨p, _, hp, True.intro, fun o => ?_⟩
        obtain ⟨x1, r1⟩ := rs.frzO (x := .dct ds) (u' := .frz o (.dT vs)) e h1 hw fun w' l e' => .dct e' (r.mono l)
        exact h _ _ _ _ _ _ _ r1 (ro.putCell (c' := .frz (.frz o (.dT vs))) hw (fun _ z => by cases z) (fun z => by cases z) upd_same) q (po.mono x1)
      | ldic ds =>
        obtain ⟨o, vs, rfl, r⟩ := cr
        obtain ⟨x1, r1⟩ := rs.frzO (x := .dic ds) (u' := .frz o (.dK vs)) e h1 hw fun w' l e' => .dic e' (r.mono l)
        have r2 := ro.putCell (c' := .frz (.frz o (.dK vs))) (u' := .frz o (.dK vs)) hw (fun _ z => by cases z) (fun z => by cases z) upd_same
        rw [show upd H p (.frz o (.dK vs)) = H from by funext b; by_cases hb : b = p; (subst hb; rw [upd_same, hp]); (rw [upd_ne hb])] at r2
        exact .inl (h _ _ _ _ _ _ _ r1 r2 q (po.mono x1))
      | ldct ds =>
        obtain ⟨o, vs, rfl, r⟩ := cr
        obtain ⟨x1, r1⟩ := rs.frzO (x := .dct ds) (u' := .frz o (.dT vs)) e h1 hw fun w' l e' => .dct e' (r.mono l)
        have r2 := ro.putCell (c' := .frz (.frz o (.dT vs))) (u' := .frz o (.dT vs)) hw (fun _ z => by cases z) (fun z => by cases z) upd_same
        rw [show upd H p (.frz o (.dT vs)) = H from by funext b; by_cases hb : b = p; (subst hb; rw [upd_same, hp]); (rw [upd_ne hb])] at r2
        exact .inl (h _ _ _ _ _ _ _ r1 r2 q (po.mono x1))
end

/-! ### while -/
def whileN (Wc : WT) (B : WS) (D : DEnds) : Nat → SD → OO → Prop
  | 0, _, _ => False
  | n + 1, s, O => Wc s O fun k O1 => if k = true then B { D with nx := whileN Wc B D n, ct := whileN Wc B D n, bk := D.nx } s O1 else D.nx s O1
def wWhile (Wc : WT) (B : WS) : WS := fun D s O => ∃ n, whileN Wc B D n s O
theorem ds_while {X : Cx} {P : PX} {pos : Pos} {c : Expr} {body : List Stmt} {Wc : WT} {B : WS} (hp : PassesOwn (model X.prog X.w) X.A X.env X.xe) (hc : DT X P c Wc) (hb : DSs X P body B) : DS X P (.While c body [] pos) (wWhile Wc B) := by
  obtain ⟨tc, pc, kc⟩ := hc.ex
  obtain ⟨t, p, h⟩ := hb.ex
  refine ⟨_, ps_while hp pc p, fun w σ s H O D E rs ro q po => ?_⟩
  obtain ⟨n, q⟩ := q
  refine ⟨fun m σ H => ∃ w' s O, ExtS w w' ∧ RelS P w' σ s ∧ RelO w' H O ∧ whileN Wc B D m s O, ⟨n, w, s, O, ExtS.refl _, rs, ro, q⟩, ?_⟩
  rintro m σ1 H1 ⟨Z1, s1, O1, m1, rs1, ro1, w1⟩
  cases m with
  | zero => exact w1.elim
  | succ m =>
    refine kc _ _ _ _ _ _ _ rs1 ro1 w1 fun x H2 Z2 O2 m2 r2 w2 => ?_
    cases x with
    | true =>
      rw [if_pos rfl] at w2 ⊢
      refine ⟨fun σ' H' => ∃ w' s O, ExtS w w' ∧ RelS P w' σ' s ∧ RelO w' H' O ∧ whileN Wc B D m s O, fun σ' H' hN => ⟨m, Nat.lt_succ_self _, hN⟩, ?_⟩
      have pn : PostN P Z2 (whileN Wc B D m) (fun σ' H' => ∃ w' s O, ExtS w w' ∧ RelS P w' σ' s ∧ RelO w' H' O ∧ whileN Wc B D m s O) :=
        fun Z3 σ3 s3 H3 O3 m3 rs3 ro3 w3 => ⟨Z3, s3, O3, m1.trans (m2.s.trans m3), rs3, ro3, w3⟩
      exact h _ _ _ _ _ _ _ (rs1.mono m2) r2 w2 ⟨pn, po.rt.mono (m1.trans m2.s), po.nx.mono (m1.trans m2.s), pn⟩
    | false =>
      rw [if_neg Bool.false_ne_true] at w2 ⊢
      exact po.nx _ _ _ _ _ (m1.trans m2.s) (rs1.mono m2) r2 w2

/-! ### calls of defs -/
abbrev RZ := Nat → List (Str × D) → OO → Prop
abbrev SpD := List SV → OO → (D → OO → Prop) → RZ → Prop
def PostXd (cl : Nat → Addr) (w : Wd) (R : RZ) (E : XK) : Prop := ∀ w' H' O' k d fs, ExtS w w' → RelO w' H' O' → XRep w' H' O' d fs → R k fs O' → E (.ref (cl k)) d H'
def Lift (cl : Nat → Addr) (T : List (Addr × Str)) (S : SpD) : Sp := fun vs H Qv E => ∃ w O xs Q R, RelO w H O ∧ (∀ p ∈ T, w p.1 = some (.tab p.2)) ∧ SReps w xs vs ∧ S xs O Q R ∧ PostR w Q Qv ∧ PostXd cl w R E
abbrev DFn (P : Program) (W : World) (K : PySem.W.Frag) (mg : Str → Option Value) (base : Heap) (cl : Nat → Addr) (T : List (Addr × Str)) (k : Nat) (f : Addr) (fd : FuncData) (ps : List Str) (S : SpD) : Prop := FnG P W K mg base (L2.CX P W) k f fd ps (Lift cl T S)
/-- what the callee knows: our own cells are lent -/
def dwn : Option Cell → Option Cell
  | some (.own u) => some (.fix u)
  | x => x
def Wd.down (w : Wd) : Wd := fun a => dwn (w a)
def mrg1 : Option Cell → Option Cell → Option Cell
  | some c, _ => some c
  | none, some (.frz u) => some (.frz u)
  | none, some .tape => some .tape
  | none, _ => none
def Wd.merge (w w' : Wd) : Wd := fun a => mrg1 (w a) (w' a)
section
variable {w w' : Wd} {H H' : Hp} {O O' : OO}
theorem down_le : Le0 w w.down := ⟨fun a u e => by unfold Wd.down; rw [e]; rfl, fun a e => by unfold Wd.down; rw [e]; rfl⟩
theorem RelO.down (h : RelO w H O) : RelO w.down H O where
  cell := fun a c e => by
    have e' : dwn (w a) = some c := e
    cases q : w a with
    | none => rw [q] at e'; cases e'
    | some x =>
      rw [q] at e'
      have k := h.cell a x q
      cases x with
      | own u => cases e'; exact k
      | frz u => cases e'; exact k
      | fix u => cases e'; exact k
      | tape => cases e'; exact k.mono down_le
      | tab q => cases e'; exact k.mono down_le
  own := fun a m e => (h.own a m e).mono down_le
  off := fun a m e => by unfold Wd.down; rw [h.off a m e]; rfl
  fin := h.fin.sub fun a q e => by
    have e' : dwn (w a) = some (.tab q) := e
    cases z : w a with
    | none => rw [z] at e'; cases e'
    | some c => rw [z] at e'; cases c <;> cases e'; rfl
  nx := fun a c e => by
    have e' : dwn (w a) = some c := e
    cases z : w a with
    | none => rw [z] at e'; cases e'
    | some x =>
      rw [z] at e'
      have k := h.nx a x z
      cases x with
      | own u => cases e'; exact k
      | _ => cases e'; exact k
theorem BReps.sv : ∀ {bs vs}, BReps w bs vs → SReps w.down (bs.map toSV) vs
  | _, _, .nil => .nil
  | _, _, .cons (.d a) r => .cons (.d (a.mono down_le)) (fun _ z => by cases z) (BReps.sv r)
  | _, _, .cons (.own e c) r => .cons (.b (by unfold Wd.down; rw [e]; rfl) (c.mono down_le)) (fun _ z => by cases z) (BReps.sv r)
  | _, _, .cons (.fix e c) r => .cons (.b (by unfold Wd.down; rw [e]; rfl) (c.mono down_le)) (fun _ z => by cases z) (BReps.sv r)
theorem ext_merge : Ext w (w.merge w') := fun a c e => by unfold Wd.merge; rw [e]; rfl
theorem down_some {a c} (e : w a = some c) : ∃ c', w.down a = some c' ∧ (∀ u, c' ≠ .own u) ∧ ((∀ u, c ≠ .own u) → c' = c) ∧ (∀ u, c = .own u → c' = .fix u) := by
  unfold Wd.down
  rw [e]
  cases c with
  | own u => exact ⟨.fix u, rfl, fun _ z => (by cases z), fun h => absurd rfl (h u), fun _ z => by cases z; rfl⟩
  | frz u => exact ⟨_, rfl, fun _ z => (by cases z), fun _ => rfl, fun _ z => by cases z⟩
  | fix u => exact ⟨_, rfl, fun _ z => (by cases z), fun _ => rfl, fun _ z => by cases z⟩
  | tape => exact ⟨_, rfl, fun _ z => (by cases z), fun _ => rfl, fun _ z => by cases z⟩
  | tab q => exact ⟨_, rfl, fun _ z => (by cases z), fun _ => rfl, fun _ z => by cases z⟩
theorem merge_le (x : ExtS w.down w') : Le0 w' (w.merge w') := by
  have key : ∀ a c, (∀ u, c ≠ .own u) → (∀ u, c ≠ .fix u) → (∀ q, c ≠ .tab q) → w' a = some c → w.merge w' a = some c := fun a c n1 n2 n3 e => by
    unfold Wd.merge
    cases q : w a with
    | none =>
      rw [e]
      cases c with
      | own u => exact absurd rfl (n1 u)
      | fix u => exact absurd rfl (n2 u)
      | frz u => rfl
      | tape => rfl
      | tab q => exact absurd rfl (n3 q)
    | some c0 =>
      obtain ⟨c', h1, h2, h3, h4⟩ := down_some q
      have h5 := x a c' h1 h2
      rw [e] at h5
      cases h5
      show some c0 = some c
      cases c0 with
      | own u => exact absurd (h4 u rfl) (n2 u)
      | frz u => rw [h3 fun _ z => by cases z]
      | fix u => rw [h3 fun _ z => by cases z]
      | tape => rw [h3 fun _ z => by cases z]
      | tab q => rw [h3 fun _ z => by cases z]
  exact ⟨fun a u e => key a _ (fun _ z => by cases z) (fun _ z => by cases z) (fun _ z => by cases z) e, fun a e => key a _ (fun _ z => by cases z) (fun _ z => by cases z) (fun _ z => by cases z) e⟩
theorem merge_none (x : ExtS w.down w') {a} (e : w' a = none) : w.merge w' a = none := by
  unfold Wd.merge
  cases q : w a with
  | none => rw [e]; rfl
  | some c0 =>
    obtain ⟨c', h1, h2, h3, h4⟩ := down_some q
    have h5 := x a c' h1 h2
    rw [e] at h5
    cases h5
theorem RelO.merge (x : ExtS w.down w') (h : RelO w' H' O') : RelO (w.merge w') H' O' where
  cell := fun a c e => by
    have e' : mrg1 (w a) (w' a) = some c := e
    cases q : w a with
    | none =>
      rw [q] at e'
      cases q' : w' a with
      | none => rw [q'] at e'; cases e'
      | some c1 =>
        rw [q'] at e'
        have k := (h.cell a c1 q').mono (merge_le x)
        cases c1 with
        | frz u => cases e'; exact k
        | tape => cases e'; exact k
        | tab q => cases e'
        | own u => cases e'
        | fix u => cases e'
    | some c0 =>
      rw [q] at e'
      cases e'
      obtain ⟨c', h1, h2, h3, h4⟩ := down_some q
      have k := (h.cell a c' (x a c' h1 h2)).mono (merge_le x)
      cases c with
      | own u => rw [h4 u rfl] at k; exact k
      | frz u => rw [h3 fun _ z => by cases z] at k; exact k
      | fix u => rw [h3 fun _ z => by cases z] at k; exact k
      | tape => rw [h3 fun _ z => by cases z] at k; exact k
      | tab q => rw [h3 fun _ z => by cases z] at k; exact k
  own := fun a m e => (h.own a m e).mono (merge_le x)
  off := fun a m e => merge_none x (h.off a m e)
  fin := h.fin.sub fun a q e => by
    have e' : mrg1 (w a) (w' a) = some (.tab q) := e
    cases z : w a with
    | none =>
      rw [z] at e'
      cases z2 : w' a with
      | none => rw [z2] at e'; cases e'
      | some c => rw [z2] at e'; cases c <;> cases e'
    | some c =>
      rw [z] at e'
      cases e'
      obtain ⟨c', h1, h2, h3, h4⟩ := down_some z
      rw [x a c' h1 h2, h3 fun _ z => by cases z]
  nx := fun a c e => by
    have e' : mrg1 (w a) (w' a) = some c := e
    cases z : w a with
    | none =>
      rw [z] at e'
      cases z2 : w' a with
      | none => rw [z2] at e'; cases e'
      | some c1 => have k := h.nx a c1 z2; rw [z2] at e'; cases c1 <;> cases e' <;> exact k
    | some c0 =>
      rw [z] at e'
      cases e'
      obtain ⟨c', h1, h2, h3, h4⟩ := down_some z
      have k := h.nx a c' (x a c' h1 h2)
      cases c with
      | own u => rw [h4 u rfl] at k; exact k
      | frz u => rw [h3 fun _ z => by cases z] at k; exact k
      | tape => exact True.intro
      | tab q => exact True.intro
      | fix u => rw [h3 fun _ z => by cases z] at k; exact k
theorem XRep.merge (x : ExtS w.down w') {d fs} (h : XRep w' H' O' d fs) : XRep (w.merge w') H' O' d fs := by
  rcases h with h | ⟨dx, us, h1, h2, h3, h4, h5⟩
  · exact .inl h
  · exact .inr ⟨dx, us, h1, h2, merge_none x h3, h4, h5.mono (merge_le x)⟩
end
/-- nothing is let out -/
def rNo : RZ := fun _ _ _ => False
theorem postX_no {cl : Nat → Addr} {w : Wd} {E : XK} : PostXd cl w rNo E := fun _ _ _ _ _ _ _ _ _ q => q.elim
theorem passNo {X : Cx} (σ : L2.St) : PassesAt (L2.CX X.prog X.w) X σ (fun _ _ _ => False) := fun _ _ _ _ _ _ h => by
  obtain ⟨_, _, _, _, _, _, _, _, _, _, _, _, z⟩ := h
  exact z.elim
def wCall (S : SpD) (W : WA) : WE := fun s O Q => W s O fun bs O1 => S (bs.map toSV) O1 (fun d O2 => Q (.d d) O2) rNo
def wCallX (R : Nat → List (Str × D) → SD → OO → Prop) (S : SpD) (W : WA) : WE := fun s O Q => W s O fun bs O1 => S (bs.map toSV) O1 (fun d O2 => Q (.d d) O2) (fun k fs O2 => R k fs s O2)
def wMeth (C : Addr) (m : Str) (S : SpD) (Wo : WE) (W : WA) : WE := fun s O Q => Wo s O fun x O1 => isD x fun d => ∃ a fs, d = .ref a ∧ O1 a = some (.ins C fs) ∧ fs.lookup m = none ∧ W s O1 fun bs O2 => S (.d d :: bs.map toSV) O2 (fun d O3 => Q (.d d) O3) rNo
def wMethX (R : Nat → List (Str × D) → SD → OO → Prop) (C : Addr) (m : Str) (S : SpD) (Wo : WE) (W : WA) : WE := fun s O Q => Wo s O fun x O1 => isD x fun d => ∃ a fs, d = .ref a ∧ O1 a = some (.ins C fs) ∧ fs.lookup m = none ∧ W s O1 fun bs O2 => S (.d d :: bs.map toSV) O2 (fun d O3 => Q (.d d) O3) (fun k fs O2 => R k fs s O2)
theorem RepF.lookup {w : Wd} {f : Str} : ∀ {fs us}, RepF w fs us → match fs.lookup f with | some d => ∃ v, us.lookup f = some v ∧ Rep w d v | none => us.lookup f = none
  | [], _, e => by subst e; rfl
  | (g, d) :: r, _, ⟨v, t, e, h, ht⟩ => by
    subst e
    by_cases hb : (f == g) = true
    · simp only [List.lookup, hb]
      exact ⟨v, rfl, h⟩
    · have hb' : (f == g) = false := by simpa using hb
      simp only [List.lookup, hb']
      exact RepF.lookup ht
theorem RepF.lookup_some {w : Wd} {f : Str} {fs us d} (r : RepF w fs us) (h : fs.lookup f = some d) : ∃ v, us.lookup f = some v ∧ Rep w d v := by
  have q := r.lookup (f := f)
  rw [h] at q
  exact q
theorem RepF.lookup_none {w : Wd} {f : Str} {fs us} (r : RepF w fs us) (h : fs.lookup f = none) : us.lookup f = none := by
  have q := r.lookup (f := f)
  rw [h] at q
  exact q
theorem back {w w' : Wd} {H' : Hp} {O' : OO} {d : D} {v : V} {Q : BV → OO → Prop} {R : VK} (po : PostE w Q R) (x : ExtS w.down w') (ro : RelO w' H' O') (r : Rep w' d v) (q : Q (.d d) O') : R v H' :=
  po _ _ _ _ _ ext_merge (ro.merge x) (.d (r.mono (merge_le x))) q
section
variable {X : Cx} {P : PX} {pos p apos : Pos} {x m : Str} {e o : Expr} {es : List Expr} {W : WA} {Wo : WE} {S : SpD} {k : Nat} {f C : Addr} {fd : FuncData} {ps : List Str}
/-- the callee's promise from ours -/
theorem tabs_down {w : Wd} {T : List (Addr × Str)} (h : ∀ p ∈ T, w p.1 = some (.tab p.2)) : ∀ p ∈ T, w.down p.1 = some (.tab p.2) := fun p hp => by unfold Wd.down; rw [h p hp]; rfl
theorem lift_no {w : Wd} {H : Hp} {O : OO} {bs : List BV} {vs : List V} {Q : BV → OO → Prop} {R : VK} {E : XK} (tx : ∀ p ∈ P.T, w p.1 = some (.tab p.2)) (ro : RelO w H O) (r : SReps w.down bs' vs) (h : S bs' O (fun d O2 => Q (.d d) O2) rNo) (po : PostE w Q R) : Lift P.cl P.T S vs H R E :=
  ⟨w.down, O, _, _, _, ro.down, tabs_down tx, r, h, fun v H' w' d O' x r2 e q => back po x r2 e q, postX_no⟩
theorem lift_x {w : Wd} {σ : L2.St} {s : SD} {H : Hp} {O : OO} {vs : List V} {Q : BV → OO → Prop} {R : VK} (rs : RelS P w σ s) (ro : RelO w H O) (r : SReps w.down bs' vs) (h : S bs' O (fun d O2 => Q (.d d) O2) (fun k fs O2 => P.R k fs s O2)) (po : PostE w Q R) :
    Lift P.cl P.T S vs H R (fun cls d H' => P.Wx cls d σ H') :=
  ⟨w.down, O, _, _, _, ro.down, tabs_down rs.tx, r, h, fun v H' w' d O' x r2 e q => back po x r2 e q, fun w' H' O' k d fs x r2 xr q => rs.px _ _ _ _ _ _ _ _ ext_merge.s (rs.toRelS0.mono ext_merge) (r2.merge x) (xr.merge x) q⟩
theorem de_call (F : DFn X.prog X.w X.K X.mg X.base P.cl P.T k f fd ps S) (hr : RoomG k X.A) (hg : Gl X x) (hm : X.mg x = some (.ref f)) (hk : PySem.W.keepIn X.K (.ref f) = true) (hb : Binds X.K fd ps [])
    (ha : DA X P (e :: es) W) (hdb : (x == ("__debug__" : Str)) = false := by decide) (he : starEach (e :: es) X.env = (false, eval e X.env) :: starEach es X.env := by rfl) (hpl : (backTo pos (starEach es X.env)).any (·.1) = false := by rfl) :
    DE X P (.Call (.Name x p) (e :: es) [] pos) (wCall S W) := by
  obtain ⟨t, q, h⟩ := ha.ex
  refine ⟨_, callG F hr hg hm hk hb passNo q hdb he hpl, fun w σ s H O Q R rs ro w po => ?_⟩
  refine h _ _ _ _ _ _ _ rs ro w fun vs H1 Z1 ds O1 l1 s1 r1 e1 w1 => ?_
  exact lift_no (P := P) (bs := ds) (rs.mono s1).tx r1 e1.sv w1 (po.mono s1)
theorem de_call0 (F : DFn X.prog X.w X.K X.mg X.base P.cl P.T k f fd ps S) (hr : RoomG k X.A) (hg : Gl X x) (hm : X.mg x = some (.ref f)) (hk : PySem.W.keepIn X.K (.ref f) = true) (hb : Binds X.K fd ps [])
    (hdb : (x == ("__debug__" : Str)) = false := by decide) : DE X P (.Call (.Name x p) [] [] pos) (wCall S wNil) :=
  ⟨_, callG0 F hr hg hm hk hb passNo hdb, fun w σ s H O Q R rs ro q po => lift_no (P := P) (bs := []) rs.tx ro .nil q po⟩
theorem de_callX (tk : Takes X P.Wx) (F : DFn X.prog X.w X.K X.mg X.base P.cl P.T k f fd ps S) (hr : RoomG k X.A) (hg : Gl X x) (hm : X.mg x = some (.ref f)) (hk : PySem.W.keepIn X.K (.ref f) = true) (hb : Binds X.K fd ps [])
    (ha : DA X P (e :: es) W) (hdb : (x == ("__debug__" : Str)) = false := by decide) (he : starEach (e :: es) X.env = (false, eval e X.env) :: starEach es X.env := by rfl) (hpl : (backTo pos (starEach es X.env)).any (·.1) = false := by rfl) :
    DE X P (.Call (.Name x p) (e :: es) [] pos) (wCallX P.R S W) := by
  obtain ⟨t, q, h⟩ := ha.ex
  refine ⟨_, callG F hr hg hm hk hb (fun σ => passAt tk σ) q hdb he hpl, fun w σ s H O Q R rs ro w po => ?_⟩
  refine h _ _ _ _ _ _ _ rs ro w fun vs H1 Z1 ds O1 l1 s1 r1 e1 w1 => ?_
  exact lift_x (rs.mono s1) r1 e1.sv w1 (po.mono s1)
theorem de_callX0 (tk : Takes X P.Wx) (F : DFn X.prog X.w X.K X.mg X.base P.cl P.T k f fd ps S) (hr : RoomG k X.A) (hg : Gl X x) (hm : X.mg x = some (.ref f)) (hk : PySem.W.keepIn X.K (.ref f) = true) (hb : Binds X.K fd ps [])
    (hdb : (x == ("__debug__" : Str)) = false := by decide) : DE X P (.Call (.Name x p) [] [] pos) (wCallX P.R S wNil) :=
  ⟨_, callG0 F hr hg hm hk hb (fun σ => passAt tk σ) hdb, fun w σ s H O Q R rs ro q po => lift_x rs ro .nil q po⟩
theorem de_meth {pl : Sem Bool} (c : Cls X.K C) (hm : Meth X.K C m f) (F : DFn X.prog X.w X.K X.mg X.base P.cl P.T k f fd ps S) (hr : RoomG k X.A) (hb : Binds X.K fd ps []) (ho : DE X P o Wo) (ha : DA X P (e :: es) W)
    (he : starEach (e :: es) X.env = (false, eval e X.env) :: starEach es X.env := by rfl) (hpl : (backTo pos (starEach es X.env)).any (·.1) = false := by rfl)
    (hv : eval (.Call (.Attribute o m apos) (e :: es) [] pos) X.env = (do
      let ov ← eval o X.env
      standAt apos.atName
      let (g, first) ← holding [ov] (getMethod ov m pl)
      callWith pos g first (backTo pos (starEach (e :: es) X.env)) (backToKw pos (keywordEach [] X.env))) := by rfl) : DE X P (.Call (.Attribute o m apos) (e :: es) [] pos) (wMeth C m S Wo W) := by
  obtain ⟨to, qo, h0⟩ := ho.ex
  obtain ⟨t, q, h⟩ := ha.ex
  refine ⟨_, methG qo c hm F hr hb passNo q he hpl hv, fun w σ s H O Q R rs ro w po => ?_⟩
  refine h0 _ _ _ _ _ _ _ rs ro w fun v H1 Z1 d O1 s1 r1 e1 w1 => ?_
  obtain ⟨_, rfl, a, fs, rfl, hO, hl, w1⟩ := isD_ex w1
  cases e1.toD
  obtain ⟨dx, us, hH, rf⟩ := r1.own _ _ hO
  refine ⟨a, dx, us, rfl, hH, rf.lookup_none hl, ?_⟩
  refine h _ _ _ _ _ _ _ (rs.mono s1) r1 w1 fun vs H2 Z2 ds O2 l2 s2 r2 e2 w2 => ?_
  exact lift_no (P := P) (bs := []) (rs.mono (s1.trans s2)).tx r2 (.cons (.d .ref) (fun _ z => by cases z) e2.sv) w2 (po.mono (s1.trans s2))
theorem de_meth0 {pl : Sem Bool} (c : Cls X.K C) (hm : Meth X.K C m f) (F : DFn X.prog X.w X.K X.mg X.base P.cl P.T k f fd ps S) (hr : RoomG k X.A) (hb : Binds X.K fd ps []) (ho : DE X P o Wo)
    (hv : eval (.Call (.Attribute o m apos) [] [] pos) X.env = (do
      let ov ← eval o X.env
      standAt apos.atName
      let (g, first) ← holding [ov] (getMethod ov m pl)
      callWith pos g first (backTo pos (starEach [] X.env)) (backToKw pos (keywordEach [] X.env))) := by rfl) : DE X P (.Call (.Attribute o m apos) [] [] pos) (wMeth C m S Wo wNil) := by
  obtain ⟨to, qo, h0⟩ := ho.ex
  refine ⟨_, methG0 qo c hm F hr hb passNo hv, fun w σ s H O Q R rs ro w po => ?_⟩
  refine h0 _ _ _ _ _ _ _ rs ro w fun v H1 Z1 d O1 s1 r1 e1 w1 => ?_
  obtain ⟨_, rfl, a, fs, rfl, hO, hl, w1⟩ := isD_ex w1
  cases e1.toD
  obtain ⟨dx, us, hH, rf⟩ := r1.own _ _ hO
  exact ⟨a, dx, us, rfl, hH, rf.lookup_none hl, lift_no (P := P) (bs := []) (rs.mono s1).tx r1 (.cons (.d .ref) (fun _ z => by cases z) .nil) w1 (po.mono s1)⟩
theorem de_methX {pl : Sem Bool} (tk : Takes X P.Wx) (c : Cls X.K C) (hm : Meth X.K C m f) (F : DFn X.prog X.w X.K X.mg X.base P.cl P.T k f fd ps S) (hr : RoomG k X.A) (hb : Binds X.K fd ps []) (ho : DE X P o Wo) (ha : DA X P (e :: es) W)
    (he : starEach (e :: es) X.env = (false, eval e X.env) :: starEach es X.env := by rfl) (hpl : (backTo pos (starEach es X.env)).any (·.1) = false := by rfl)
    (hv : eval (.Call (.Attribute o m apos) (e :: es) [] pos) X.env = (do
      let ov ← eval o X.env
      standAt apos.atName
      let (g, first) ← holding [ov] (getMethod ov m pl)
      callWith pos g first (backTo pos (starEach (e :: es) X.env)) (backToKw pos (keywordEach [] X.env))) := by rfl) : DE X P (.Call (.Attribute o m apos) (e :: es) [] pos) (wMethX P.R C m S Wo W) := by
  obtain ⟨to, qo, h0⟩ := ho.ex
  obtain ⟨t, q, h⟩ := ha.ex
  refine ⟨_, methG qo c hm F hr hb (fun σ => passAt tk σ) q he hpl hv, fun w σ s H O Q R rs ro w po => ?_⟩
  refine h0 _ _ _ _ _ _ _ rs ro w fun v H1 Z1 d O1 s1 r1 e1 w1 => ?_
  obtain ⟨_, rfl, a, fs, rfl, hO, hl, w1⟩ := isD_ex w1
  cases e1.toD
  obtain ⟨dx, us, hH, rf⟩ := r1.own _ _ hO
  refine ⟨a, dx, us, rfl, hH, rf.lookup_none hl, ?_⟩
  refine h _ _ _ _ _ _ _ (rs.mono s1) r1 w1 fun vs H2 Z2 ds O2 l2 s2 r2 e2 w2 => ?_
  exact lift_x (rs.mono (s1.trans s2)) r2 (.cons (.d .ref) (fun _ z => by cases z) e2.sv) w2 (po.mono (s1.trans s2))
theorem de_methX0 {pl : Sem Bool} (tk : Takes X P.Wx) (c : Cls X.K C) (hm : Meth X.K C m f) (F : DFn X.prog X.w X.K X.mg X.base P.cl P.T k f fd ps S) (hr : RoomG k X.A) (hb : Binds X.K fd ps []) (ho : DE X P o Wo)
    (hv : eval (.Call (.Attribute o m apos) [] [] pos) X.env = (do
      let ov ← eval o X.env
      standAt apos.atName
      let (g, first) ← holding [ov] (getMethod ov m pl)
      callWith pos g first (backTo pos (starEach [] X.env)) (backToKw pos (keywordEach [] X.env))) := by rfl) : DE X P (.Call (.Attribute o m apos) [] [] pos) (wMethX P.R C m S Wo wNil) := by
  obtain ⟨to, qo, h0⟩ := ho.ex
  refine ⟨_, methG0 qo c hm F hr hb (fun σ => passAt tk σ) hv, fun w σ s H O Q R rs ro w po => ?_⟩
  refine h0 _ _ _ _ _ _ _ rs ro w fun v H1 Z1 d O1 s1 r1 e1 w1 => ?_
  obtain ⟨_, rfl, a, fs, rfl, hO, hl, w1⟩ := isD_ex w1
  cases e1.toD
  obtain ⟨dx, us, hH, rf⟩ := r1.own _ _ hO
  exact ⟨a, dx, us, rfl, hH, rf.lookup_none hl, lift_x (rs.mono s1) r1 (.cons (.d .ref) (fun _ z => by cases z) .nil) w1 (po.mono s1)⟩
theorem made_ok {w : Wd} {H : Hp} {O : OO} {a dx : Addr} (ro : RelO w H O) (ha : H a = none) (hd : H dx = none) (hne : dx ≠ a) : RelO w (upd (upd H dx (.own a)) a (.ins C dx [])) (updO O a (.ins C [])) := by
  have r1 : RelO w (upd H dx (.own a)) O := ro.grow fun b z q => by rw [upd_ne (ne_of_none q hd)]; exact q
  refine r1.new ?_ ⟨dx, [], upd_same, rfl⟩
  rw [upd_ne (Ne.symm hne)]
  exact ha
/-- C(..): __init__ hands back None -/
def wMake (C : Addr) (S : SpD) (W : WA) : WE := fun s O Q => W s O fun bs O1 => ∀ a, O1 a = none → S (.d (.ref a) :: bs.map toSV) (updO O1 a (.ins C [])) (fun d O2 => d = .non ∧ Q (.d (.ref a)) O2) rNo
def wMakeX (R : Nat → List (Str × D) → SD → OO → Prop) (C : Addr) (S : SpD) (W : WA) : WE := fun s O Q => W s O fun bs O1 => ∀ a, O1 a = none → S (.d (.ref a) :: bs.map toSV) (updO O1 a (.ins C [])) (fun d O2 => d = .non ∧ Q (.d (.ref a)) O2) (fun k fs O2 => R k fs s O2)
theorem de_make (M : Mk X.K C f) (F : DFn X.prog X.w X.K X.mg X.base P.cl P.T k f fd ps S) (hr : RoomG (k + 1) X.A) (hg : Gl X x) (hm : X.mg x = some (.ref C)) (hb : Binds X.K fd ps [])
    (ha : DA X P (e :: es) W) (hdb : (x == ("__debug__" : Str)) = false := by decide) (he : starEach (e :: es) X.env = (false, eval e X.env) :: starEach es X.env := by rfl) (hpl : (backTo pos (starEach es X.env)).any (·.1) = false := by rfl) :
    DE X P (.Call (.Name x p) (e :: es) [] pos) (wMake C S W) := by
  obtain ⟨t, q, h⟩ := ha.ex
  refine ⟨_, makeG M F hr hg hm hb passNo q hdb he hpl, fun w σ s H O Q R rs ro w po => ?_⟩
  refine h _ _ _ _ _ _ _ rs ro w fun vs H1 Z1 ds O1 l1 s1 r1 e1 w1 a dx na nd ne => ?_
  refine ⟨Z1.down, _, _, _, _, (made_ok r1 na nd ne).down, tabs_down (rs.mono s1).tx, .cons (.d .ref) (fun _ z => by cases z) e1.sv, w1 a (r1.free na), fun v H2 Z2 d O2 s2 r2 e2 w2 => ?_, postX_no⟩
  obtain ⟨rfl, w2⟩ := w2
  cases e2
  exact ⟨rfl, back (po.mono s1) s2 r2 .ref w2⟩
theorem de_make0 (M : Mk X.K C f) (F : DFn X.prog X.w X.K X.mg X.base P.cl P.T k f fd ps S) (hr : RoomG (k + 1) X.A) (hg : Gl X x) (hm : X.mg x = some (.ref C)) (hb : Binds X.K fd ps [])
    (hdb : (x == ("__debug__" : Str)) = false := by decide) : DE X P (.Call (.Name x p) [] [] pos) (wMake C S wNil) := by
  refine ⟨_, makeG0 M F hr hg hm hb passNo hdb, fun w σ s H O Q R rs ro q po a dx na nd ne => ?_⟩
  refine ⟨w.down, _, _, _, _, (made_ok ro na nd ne).down, tabs_down rs.tx, .cons (.d .ref) (fun _ z => by cases z) .nil, q a (ro.free na), fun v H2 Z2 d O2 s2 r2 e2 w2 => ?_, postX_no⟩
  obtain ⟨rfl, w2⟩ := w2
  cases e2
  exact ⟨rfl, back po s2 r2 .ref w2⟩
theorem de_makeX (tk : Takes X P.Wx) (M : Mk X.K C f) (F : DFn X.prog X.w X.K X.mg X.base P.cl P.T k f fd ps S) (hr : RoomG (k + 1) X.A) (hg : Gl X x) (hm : X.mg x = some (.ref C)) (hb : Binds X.K fd ps [])
    (ha : DA X P (e :: es) W) (hdb : (x == ("__debug__" : Str)) = false := by decide) (he : starEach (e :: es) X.env = (false, eval e X.env) :: starEach es X.env := by rfl) (hpl : (backTo pos (starEach es X.env)).any (·.1) = false := by rfl) :
    DE X P (.Call (.Name x p) (e :: es) [] pos) (wMakeX P.R C S W) := by
  obtain ⟨t, q, h⟩ := ha.ex
  refine ⟨_, makeG M F hr hg hm hb (fun σ => passAt tk σ) q hdb he hpl, fun w σ s H O Q R rs ro w po => ?_⟩
  refine h _ _ _ _ _ _ _ rs ro w fun vs H1 Z1 ds O1 l1 s1 r1 e1 w1 a dx na nd ne => ?_
  refine ⟨Z1.down, _, _, _, _, (made_ok r1 na nd ne).down, tabs_down (rs.mono s1).tx, .cons (.d .ref) (fun _ z => by cases z) e1.sv, w1 a (r1.free na), fun v H2 Z2 d O2 s2 r2 e2 w2 => ?_, fun w' H' O' k d fs x r2 xr q => ?_⟩
  · obtain ⟨rfl, w2⟩ := w2
    cases e2
    exact ⟨rfl, back (po.mono s1) s2 r2 .ref w2⟩
  · exact (rs.mono s1).px _ _ _ _ _ _ _ _ ext_merge.s ((rs.mono s1).toRelS0.mono ext_merge) (r2.merge x) (xr.merge x) q
end

/-! ### a def -/
/-- fewer live objects are told -/
def Le (O O' : OO) : Prop := ∀ a m, O a = some m → O' a = some m
theorem Le.refl (O : OO) : Le O O := fun _ _ h => h
theorem Le.trans {O P R : OO} (h : Le O P) (k : Le P R) : Le O R := fun a m e => k a m (h a m e)
theorem Le.upd {O O' : OO} {a m} (h : Le O O') (n : O a = none) : Le O (updO O' a m) := fun b u e => by
  rw [updO_ne (neO e n)]
  exact h b u e
theorem Le.rem {O O' : OO} {a} (h : Le O O') (n : O a = none) : Le O (remO O' a) := fun b u e => by
  rw [remO_ne (neO e n)]
  exact h b u e
/-- what is live and not needed is forgotten at the end -/
def wLeak (W : WS) : WS := fun D s O => W { D with nx := fun s O' => ∃ O2, Le O2 O' ∧ D.nx s O2, rt := fun d O' => ∃ O2, Le O2 O' ∧ D.rt d O2 } s O
theorem dss_leak {X : Cx} {P : PX} {ss : List Stmt} {W : WS} (h : DSs X P ss W) : DSs X P ss (wLeak W) := by
  obtain ⟨t, p, h⟩ := h.ex
  exact ⟨t, p, fun w σ s H O D E rs ro q po => h _ _ _ _ _ _ _ rs ro q ⟨fun w1 σ1 s1 H1 O1 x1 rs1 r1 ⟨O2, l, q⟩ => po.nx _ _ _ _ _ x1 rs1 (r1.less l) q, fun v1 H1 w1 d1 O1 x1 r1 e1 ⟨O2, l, q⟩ => po.rt _ _ _ _ _ x1 (r1.less l) e1 q, po.bk, po.ct⟩⟩
def retE (Q : D → OO → Prop) : DEnds := { nx := fun _ O' => Q .non O', rt := Q }
def pDef (cl : Nat → Addr) (T : List (Addr × Str)) (R : RZ) (E : XK) : PX := ⟨fun k fs _ O => R k fs O, fun cls d _ H => E cls d H, cl, fun _ => True, fun _ _ _ _ => True.intro, T⟩
/-- the promise that a def's reading makes -/
def spec (N : List Str) (n : Nat) (W : RZ → WS) : SpD := fun xs O Q R => xs.length = n ∧ W R (retE Q) (sstart N xs) O
theorem fn_ok {Pg : Program} {Wo : World} {K : PySem.W.Frag} {mg : Str → Option Value} {base : Heap} {cl : Nat → Addr} {T : List (Addr × Str)} {x qual : Str} {st : Stmt} {f : Addr} {fd : FuncData} {N ps : List Str} {k n : Nat} {W : RZ → WS} (F : Fun K x qual st f fd) (Sc : FnScope N ps (defScope st)) (hn : n = ps.length)
    (hbody : ∀ (cdv : Value) (A : Around) (outer : List Env) (s : Shared) (H : Hp) (E : XK) (R : RZ), fd.code = cdv → RoomG k (A.deeper (envOfC qual (defScope st) s.heap.objs.size f cdv)) →
      DSs (cxOf (L2.CX Pg Wo) Pg Wo K mg base N qual (defScope st) f cdv A outer s H E) (pDef cl T R E) (defBody st) (W R)) : DFn Pg Wo K mg base cl T (k + 1) f fd ps (spec N n W) := by
  refine fnG_of F Sc (fun vs H R E ⟨w, O, xs, Q, Rz, ro, tx, rs, h, po, px⟩ => rs.length.symm.trans (h.1.trans hn)) fun cdv A outer s H vs R E hcd hr ⟨w, O, xs, Q, Rz, ro, tx, rs, h, po, px⟩ => ?_
  have d := hbody cdv A outer s H E Rz hcd hr
  obtain ⟨t, p, k⟩ := d.ex
  refine ⟨t, p, k w _ _ _ _ _ _ ⟨RelS0.start rs, fun w' σ s H O k d fs x _ r xr q => px _ _ _ _ _ _ x r xr q, True.intro, tx⟩ ro h.2 ⟨?_, po, ?_, ?_⟩⟩
  · exact fun Z1 σ1 s1 H1 O1 m1 rs1 ro1 w1 => po _ _ _ _ _ m1 ro1 .non w1
  · exact fun Z1 σ1 s1 H1 O1 m1 rs1 ro1 w1 => w1.elim
  · exact fun Z1 σ1 s1 H1 O1 m1 rs1 ro1 w1 => w1.elim
/-- more is asked -/
theorem dfn_imp {Pg : Program} {Wo : World} {K : PySem.W.Frag} {mg : Str → Option Value} {base : Heap} {cl : Nat → Addr} {T : List (Addr × Str)} {f : Addr} {fd : FuncData} {ps : List Str} {k : Nat} {S S' : SpD} (F : DFn Pg Wo K mg base cl T k f fd ps S) (h : ∀ xs O Q R, S' xs O Q R → S xs O Q R) : DFn Pg Wo K mg base cl T k f fd ps S' :=
  ⟨fun vs H Q E ⟨w, O, xs, Q', R, a, t, b, c, d, e⟩ => F.many vs H Q E ⟨w, O, xs, Q', R, a, t, b, h _ _ _ _ c, d, e⟩, fun A below s H args us vs Q E r e0 bt rv ⟨w, O, xs, Q', R, a, t, b, c, d, e⟩ => F.go A below s H args us vs Q E r e0 bt rv ⟨w, O, xs, Q', R, a, t, b, h _ _ _ _ c, d, e⟩⟩
end VD

set_option Elab.async false
set_option linter.all false
set_option maxRecDepth 100000
/-! VD: operators on trees -/
namespace VD
open PySem PySem.Spec PyProof.Rows L2

/-! ### what is read as a list, a dict -/
def asLM : Option MO → Option (List D)
  | some (.lst ds) => some ds
  | _ => none
def asL (d : BV) (O : OO) : Option (List D) := match d with
  | .d (.lst ds) => some ds
  | .d (.ref a) => asLM (O a)
  | .c _ (.lst ds) => some ds
  | _ => none
def asKM : Option MO → Option (List (Key × D))
  | some (.dic kvs) => some kvs
  | some (.lkd _ _ kvs) => some kvs
  | _ => none
def asK (d : BV) (O : OO) : Option (List (Key × D)) := match d with
  | .d (.dic kvs) => some kvs
  | .d (.ref a) => asKM (O a)
  | .c _ (.dic kvs) => some kvs
  | .c _ (.ldic kvs) => some kvs
  | _ => none
def asTM : Option MO → Option (List (List Key × D))
  | some (.dct kvs) => some kvs
  | some (.lkt _ _ kvs) => some kvs
  | _ => none
def asT (d : BV) (O : OO) : Option (List (List Key × D)) := match d with
  | .d (.dct kvs) => some kvs
  | .d (.ref a) => asTM (O a)
  | .c _ (.dct kvs) => some kvs
  | .c _ (.ldct kvs) => some kvs
  | _ => none
theorem BRep.cell {w : Wd} {H : Hp} {O : OO} {o : Bool} {m : CM} {v : V} (ro : RelO w H O) (r : BRep w (.c o m) v) : ∃ p u, v = .ref p ∧ H p = some u ∧ CRep w m u := by
  cases r with
  | own e c => exact ⟨_, _, rfl, ro.cell _ _ e, c⟩
  | fix e c => exact ⟨_, _, rfl, ro.cell _ _ e, c⟩
theorem asL_ok {w : Wd} {H : Hp} {O : OO} {d : BV} {v : V} {ds : List D} (ro : RelO w H O) (r : BRep w d v) (h : asL d O = some ds) : ∃ p vs, v = .ref p ∧ H p = some (.lst vs) ∧ Reps w ds vs := by
  cases d with
  | c o m =>
    obtain ⟨p, u, rfl, hp, cr⟩ := r.cell ro
    cases m <;> first | cases h | skip
    obtain ⟨vs, rfl, r⟩ := cr
    exact ⟨_, _, rfl, hp, r⟩
  | d d =>
    have q := r.toD
    clear r
    cases q with
    | lst e r => cases h; exact ⟨_, _, rfl, ro.frz e, r⟩
    | @ref a =>
      replace h : asLM (O a) = some ds := h
      cases e : O a with
      | none => rw [e] at h; cases h
      | some m =>
        rw [e] at h
        cases m with
        | lst es => cases h; obtain ⟨vs, hu, r⟩ := ro.own _ _ e; exact ⟨_, _, rfl, hu, r⟩
        | _ => cases h
    | _ => cases h
theorem tup_ok {w : Wd} {H : Hp} {O : OO} {v : V} {ds : List D} (ro : RelO w H O) (r : Rep w (.tup ds) v) : ∃ p vs, v = .ref p ∧ H p = some (.tup vs) ∧ Reps w ds vs := by
  cases r with
  | tup e r => exact ⟨_, _, rfl, ro.frz e, r⟩
theorem asK_ok {w : Wd} {H : Hp} {O : OO} {d : BV} {v : V} {kvs : List (Key × D)} (ro : RelO w H O) (r : BRep w d v) (h : asK d O = some kvs) : ∃ p us, v = .ref p ∧ Rd H p (.dK us) ∧ RepK w kvs us := by
  cases d with
  | c o m =>
    obtain ⟨p, u, rfl, hp, cr⟩ := r.cell ro
    cases m <;> first | cases h | skip
    · obtain ⟨vs, rfl, r⟩ := cr; exact ⟨_, _, rfl, .inl hp, r⟩
    · obtain ⟨o, vs, rfl, r⟩ := cr; exact ⟨_, _, rfl, .inr ⟨_, hp⟩, r⟩
  | d d =>
    have q := r.toD
    clear r
    cases q with
    | dic e r => cases h; exact ⟨_, _, rfl, .inr ⟨_, ro.frz e⟩, r⟩
    | @ref a =>
      replace h : asKM (O a) = some kvs := h
      cases e : O a with
      | none => rw [e] at h; cases h
      | some m =>
        rw [e] at h
        cases m with
        | dic es => cases h; obtain ⟨us, hu, r⟩ := ro.own _ _ e; exact ⟨_, _, rfl, .inl hu, r⟩
        | lkd od us es => cases h; obtain ⟨hu, r⟩ := ro.own _ _ e; exact ⟨_, _, rfl, .inr ⟨_, hu⟩, r⟩
        | _ => cases h
    | _ => cases h
theorem asT_ok {w : Wd} {H : Hp} {O : OO} {d : BV} {v : V} {kvs : List (List Key × D)} (ro : RelO w H O) (r : BRep w d v) (h : asT d O = some kvs) : ∃ p us, v = .ref p ∧ Rd H p (.dT us) ∧ RepT w kvs us := by
  cases d with
  | c o m =>
    obtain ⟨p, u, rfl, hp, cr⟩ := r.cell ro
    cases m <;> first | cases h | skip
    · obtain ⟨vs, rfl, r⟩ := cr; exact ⟨_, _, rfl, .inl hp, r⟩
    · obtain ⟨o, vs, rfl, r⟩ := cr; exact ⟨_, _, rfl, .inr ⟨_, hp⟩, r⟩
  | d d =>
    have q := r.toD
    clear r
    cases q with
    | dct e r => cases h; exact ⟨_, _, rfl, .inr ⟨_, ro.frz e⟩, r⟩
    | @ref a =>
      replace h : asTM (O a) = some kvs := h
      cases e : O a with
      | none => rw [e] at h; cases h
      | some m =>
        rw [e] at h
        cases m with
        | dct es => cases h; obtain ⟨us, hu, r⟩ := ro.own _ _ e; exact ⟨_, _, rfl, .inl hu, r⟩
        | lkt od us es => cases h; obtain ⟨hu, r⟩ := ro.own _ _ e; exact ⟨_, _, rfl, .inr ⟨_, hu⟩, r⟩
        | _ => cases h
    | _ => cases h
/-- the value under a key -/
def valG {κ ν : Type} [DecidableEq κ] (kvs : List (κ × ν)) (k : κ) : Option ν := (kvs.find? fun kv => decide (kv.1 = k)).map (·.2)
def putG {κ ν : Type} [DecidableEq κ] (kvs : List (κ × ν)) (k : κ) (v : ν) : List (κ × ν) :=
  if (kvs.any fun kv => decide (kv.1 = k)) = true then kvs.map (fun kv => if kv.1 = k then (kv.1, v) else kv) else kvs ++ [(k, v)]
def dropG {κ ν : Type} [DecidableEq κ] (kvs : List (κ × ν)) (k : κ) : List (κ × ν) := kvs.filter fun kv => decide (kv.1 ≠ k)
theorem valG_cons {κ ν : Type} [DecidableEq κ] (p : κ × ν) (r : List (κ × ν)) (k : κ) : valG (p :: r) k = if p.1 = k then some p.2 else valG r k := by
  by_cases h : p.1 = k <;> simp [valG, List.find?_cons, h]
theorem RepK.val {w : Wd} {k : Key} : ∀ {kvs us}, RepK w kvs us → match valG kvs k with | some d => ∃ v, valV us k = some v ∧ Rep w d v | none => valV us k = none
  | _, _, .nil => rfl
  | _, _, .cons (k := j) (d := d) (v := v) (ds := ds) (vs := vs) a r => by
    by_cases h : j = k
    · rw [valG_cons, if_pos h, valV_pos h]
      exact ⟨v, rfl, a⟩
    · rw [valG_cons, if_neg h, valV_neg h]
      exact RepK.val r
theorem RepK.keys {w : Wd} : ∀ {kvs us}, RepK w kvs us → kvs.map (·.1) = us.map (·.1)
  | _, _, .nil => rfl
  | _, _, .cons a r => by simp [RepK.keys r]
theorem RepK.length {w : Wd} {kvs us} (r : RepK w kvs us) : kvs.length = us.length := by
  have := congrArg List.length r.keys
  simpa using this
theorem RepK.any {w : Wd} (f : Key → Bool) : ∀ {kvs us}, RepK w kvs us → (kvs.any fun kv => f kv.1) = us.any fun kv => f kv.1
  | _, _, .nil => rfl
  | _, _, .cons a r => by simp only [List.any_cons, RepK.any f r]
theorem RepK.mapSet {w : Wd} {k : Key} {d : D} {v : V} (h : Rep w d v) : ∀ {kvs us}, RepK w kvs us → RepK w (kvs.map fun kv => if kv.1 = k then (kv.1, d) else kv) (us.map fun kv => if kv.1 = k then (kv.1, v) else kv)
  | _, _, .nil => .nil
  | _, _, .cons (k := j) a r => by
    rw [List.map_cons, List.map_cons]
    by_cases hj : j = k
    · rw [if_pos hj, if_pos hj]
      exact .cons h (RepK.mapSet h r)
    · rw [if_neg hj, if_neg hj]
      exact .cons a (RepK.mapSet h r)
theorem RepK.append {w : Wd} : ∀ {kvs us lvs ws}, RepK w kvs us → RepK w lvs ws → RepK w (kvs ++ lvs) (us ++ ws)
  | _, _, _, _, .nil, h => h
  | _, _, _, _, .cons a r, h => .cons a (RepK.append r h)
theorem RepK.put {w : Wd} {k : Key} {d : D} {v : V} (h : Rep w d v) {kvs us} (r : RepK w kvs us) : RepK w (putG kvs k d) (putK us k v) := by
  unfold putG putK
  have e := r.any (fun j => decide (j = k))
  by_cases c : (kvs.any fun kv => decide (kv.1 = k)) = true
  · rw [if_pos c, if_pos (by rw [← e]; exact c)]
    exact r.mapSet h
  · rw [if_neg c, if_neg (by rw [← e]; exact c)]
    exact r.append (.cons h .nil)
theorem RepK.filter {w : Wd} (f : Key → Bool) : ∀ {kvs us}, RepK w kvs us → RepK w (kvs.filter fun kv => f kv.1) (us.filter fun kv => f kv.1)
  | _, _, .nil => .nil
  | _, _, .cons (k := j) (d := d) (v := v) (ds := ds) (vs := vs) a r => by
    rw [List.filter_cons, List.filter_cons]
    by_cases c : f j = true
    · rw [if_pos c, if_pos c]
      exact .cons a (RepK.filter f r)
    · rw [if_neg c, if_neg c]
      exact RepK.filter f r
theorem RepK.drop {w : Wd} (k : Key) {kvs us} (r : RepK w kvs us) : RepK w (dropG kvs k) (dropK us k) := r.filter fun j => decide (j ≠ k)

theorem RepT.val {w : Wd} {k : List Key} : ∀ {kvs us}, RepT w kvs us → match valG kvs k with | some d => ∃ v, valV us k = some v ∧ Rep w d v | none => valV us k = none
  | _, _, .nil => rfl
  | _, _, .cons (k := j) (d := d) (v := v) (ds := ds) (vs := vs) a r => by
    by_cases h : j = k
    · rw [valG_cons, if_pos h, valV_pos h]
      exact ⟨v, rfl, a⟩
    · rw [valG_cons, if_neg h, valV_neg h]
      exact RepT.val r
theorem RepT.keys {w : Wd} : ∀ {kvs us}, RepT w kvs us → kvs.map (·.1) = us.map (·.1)
  | _, _, .nil => rfl
  | _, _, .cons a r => by simp [RepT.keys r]
theorem RepT.length {w : Wd} {kvs us} (r : RepT w kvs us) : kvs.length = us.length := by
  have := congrArg List.length r.keys
  simpa using this
theorem RepT.any {w : Wd} (f : List Key → Bool) : ∀ {kvs us}, RepT w kvs us → (kvs.any fun kv => f kv.1) = us.any fun kv => f kv.1
  | _, _, .nil => rfl
  | _, _, .cons a r => by simp only [List.any_cons, RepT.any f r]
theorem RepT.mapSet {w : Wd} {k : List Key} {d : D} {v : V} (h : Rep w d v) : ∀ {kvs us}, RepT w kvs us → RepT w (kvs.map fun kv => if kv.1 = k then (kv.1, d) else kv) (us.map fun kv => if kv.1 = k then (kv.1, v) else kv)
  | _, _, .nil => .nil
  | _, _, .cons (k := j) a r => by
    rw [List.map_cons, List.map_cons]
    by_cases hj : j = k
    · rw [if_pos hj, if_pos hj]
      exact .cons h (RepT.mapSet h r)
    · rw [if_neg hj, if_neg hj]
      exact .cons a (RepT.mapSet h r)
theorem RepT.append {w : Wd} : ∀ {kvs us lvs ws}, RepT w kvs us → RepT w lvs ws → RepT w (kvs ++ lvs) (us ++ ws)
  | _, _, _, _, .nil, h => h
  | _, _, _, _, .cons a r, h => .cons a (RepT.append r h)
theorem RepT.put {w : Wd} {k : List Key} {d : D} {v : V} (h : Rep w d v) {kvs us} (r : RepT w kvs us) : RepT w (putG kvs k d) (putK us k v) := by
  unfold putG putK
  have e := r.any (fun j => decide (j = k))
  by_cases c : (kvs.any fun kv => decide (kv.1 = k)) = true
  · rw [if_pos c, if_pos (by rw [← e]; exact c)]
    exact r.mapSet h
  · rw [if_neg c, if_neg (by rw [← e]; exact c)]
    exact r.append (.cons h .nil)
theorem RepT.filter {w : Wd} (f : List Key → Bool) : ∀ {kvs us}, RepT w kvs us → RepT w (kvs.filter fun kv => f kv.1) (us.filter fun kv => f kv.1)
  | _, _, .nil => .nil
  | _, _, .cons (k := j) (d := d) (v := v) (ds := ds) (vs := vs) a r => by
    rw [List.filter_cons, List.filter_cons]
    by_cases c : f j = true
    · rw [if_pos c, if_pos c]
      exact .cons a (RepT.filter f r)
    · rw [if_neg c, if_neg c]
      exact RepT.filter f r
theorem RepT.drop {w : Wd} (k : List Key) {kvs us} (r : RepT w kvs us) : RepT w (dropG kvs k) (dropK us k) := r.filter fun j => decide (j ≠ k)

/-! ### arithmetic -/
def wInt2 (f : Int → Int → Int) (C : Int → Int → Prop) : DOF := fun x y O Q => match x, y with | .d (.int i), .d (.int j) => C i j ∧ Q (.d (.int (f i j))) O | _, _ => False
def wCmpI (f : Int → Int → Bool) : DOF := fun x y O Q => match x, y with | .d (.int i), .d (.int j) => Q (.d (.bl (f i j))) O | _, _ => False
theorem wInt2_ex {f C x y O Q} (h : wInt2 f C x y O Q) : ∃ i j, x = .d (.int i) ∧ y = .d (.int j) ∧ C i j ∧ Q (.d (.int (f i j))) O := by
  unfold wInt2 at h
  split at h
  · exact ⟨_, _, rfl, rfl, h.1, h.2⟩
  · exact h.elim
theorem wCmpI_ex {f x y O Q} (h : wCmpI f x y O Q) : ∃ i j, x = .d (.int i) ∧ y = .d (.int j) ∧ Q (.d (.bl (f i j))) O := by
  unfold wCmpI at h
  split at h
  · exact ⟨_, _, rfl, rfl, h⟩
  · exact h.elim
section
variable {X : Cx}
theorem dop_int {f : Value → Value → Sem Value} {g C C'} (h : OpR X f (rI C' fun i j => .int (g i j))) (hc : ∀ i j, C i j → C' i j) : DOp X f (wInt2 g C) := by
  refine ⟨_, h, fun w H O x y vx vy Q R ro rx ry q po => ?_⟩
  obtain ⟨i, j, rfl, rfl, c, q⟩ := wInt2_ex q
  cases rx.toD; cases ry.toD
  exact ⟨i, j, rfl, rfl, hc _ _ c, po _ _ _ _ _ (Ext.refl _) ro (.d .int) q⟩
theorem dop_int0 {f : Value → Value → Sem Value} {g} (h : OpR X f (rI0 fun i j => .int (g i j))) : DOp X f (wInt2 g fun _ _ => True) := by
  refine ⟨_, h, fun w H O x y vx vy Q R ro rx ry q po => ?_⟩
  obtain ⟨i, j, rfl, rfl, c, q⟩ := wInt2_ex q
  cases rx.toD; cases ry.toD
  exact ⟨i, j, rfl, rfl, po _ _ _ _ _ (Ext.refl _) ro (.d .int) q⟩
theorem dop_cmpI {f : Value → Value → Sem Value} {g} (h : OpR X f (rI0 fun i j => .bl (g i j))) : DOp X f (wCmpI g) := by
  refine ⟨_, h, fun w H O x y vx vy Q R ro rx ry q po => ?_⟩
  obtain ⟨i, j, rfl, rfl, q⟩ := wCmpI_ex q
  cases rx.toD; cases ry.toD
  exact ⟨i, j, rfl, rfl, po _ _ _ _ _ (Ext.refl _) ro (.d .bl) q⟩
def wSub : DOF := wInt2 (· - ·) fun _ _ => True
def wMulI : DOF := wInt2 (· * ·) CMul
def wDiv : DOF := wInt2 (· / ·) fun _ j => 0 < j ∧ j < 1073741824
def wMod : DOF := wInt2 (· % ·) fun _ j => 0 < j
def wPow : DOF := wInt2 (fun i j => i ^ j.toNat) CPow
theorem o_sub : DOp X (binaryOp .Sub) wSub := dop_int0 op_sub
theorem o_mulI : DOp X (binaryOp .Mult) wMulI := dop_int op_mul fun _ _ h => h
theorem o_div : DOp X (binaryOp .FloorDiv) wDiv := dop_int op_fdiv fun _ _ h => h
theorem o_mod : DOp X (binaryOp .Mod) wMod := dop_int op_mod fun _ _ h => h
theorem o_pow : DOp X (binaryOp .Pow) wPow := dop_int op_pow fun _ _ h => h
def wNeg : DUF := fun x O Q => match x with | .d (.int i) => Q (.d (.int (-i))) O | _ => False
theorem o_neg : DUn X (unaryOp .USub) wNeg := by
  refine ⟨_, un_neg, fun w H O x vx Q R ro rx q po => ?_⟩
  unfold wNeg at q
  split at q
  · cases rx.toD
    exact ⟨_, rfl, po _ _ _ _ _ (Ext.refl _) ro (.d .int) q⟩
  · exact q.elim

/-! ### + -/
def wAddL : DOF := fun x y O Q => ∃ xs ys, asL x O = some xs ∧ asL y O = some ys ∧ xs.length + ys.length ≤ sizeLine ∧ Q (.d (.lst (xs ++ ys))) O
def wAddN : BV → BV → OO → (CM → OO → Prop) → Prop := fun x y O Q => ∃ xs ys, asL x O = some xs ∧ asL y O = some ys ∧ xs.length + ys.length ≤ sizeLine ∧ Q (.lst (xs ++ ys)) O
def wAdd : DOF := fun x y O Q => match x, y with
  | .d (.int i), .d (.int j) => Q (.d (.int (i + j))) O
  | .d (.str a), .d (.str b) => a.length + b.length ≤ sizeLine ∧ Q (.d (.str (a ++ b))) O
  | .d (.tup a), .d (.tup b) => a.length + b.length ≤ sizeLine ∧ Q (.d (.tup (a ++ b))) O
  | x, y => wAddL x y O Q
theorem o_addI : DOp X (binaryOp .Add) (wInt2 (· + ·) fun _ _ => True) := dop_int0 op_add
theorem o_addS : DOp X (binaryOp .Add) (fun x y O Q => ∃ a b, x = .d (.str a) ∧ y = .d (.str b) ∧ a.length + b.length ≤ sizeLine ∧ Q (.d (.str (a ++ b))) O) := by
  refine ⟨_, op_add_str, fun w H O x y vx vy Q R ro rx ry q po => ?_⟩
  obtain ⟨a, b, rfl, rfl, l, q⟩ := q
  cases rx.toD; cases ry.toD
  exact ⟨a, b, rfl, rfl, l, po _ _ _ _ _ (Ext.refl _) ro (.d .str) q⟩
theorem o_addT : DOp X (binaryOp .Add) (fun x y O Q => ∃ a b, x = .d (.tup a) ∧ y = .d (.tup b) ∧ a.length + b.length ≤ sizeLine ∧ Q (.d (.tup (a ++ b))) O) := by
  refine ⟨_, op_catA, fun w H O x y vx vy Q R ro rx ry q po => ?_⟩
  obtain ⟨a, b, rfl, rfl, l, q⟩ := q
  obtain ⟨p, vs, rfl, hp, r1⟩ := tup_ok ro rx.toD
  obtain ⟨p', us, rfl, hp', r2⟩ := tup_ok ro ry.toD
  refine ⟨p, p', vs, us, rfl, rfl, .inl (.inl hp), .inl (.inl hp'), by rw [← r1.length, ← r2.length]; exact l, fun e => ?_, fun e e2 => ?_, fun e e2 c hc => ?_⟩
  · have : a = [] := List.eq_nil_of_length_eq_zero (by rw [r1.length, e]; rfl)
    subst this
    exact po _ _ _ _ _ (Ext.refl _) ro ry q
  · have : b = [] := List.eq_nil_of_length_eq_zero (by rw [r2.length, e2]; rfl)
    subst this
    rw [List.append_nil] at q
    exact po _ _ _ _ _ (Ext.refl _) ro rx q
  · obtain ⟨s3, r3⟩ := ro.newZ (u := .tup (vs ++ us)) hc
    exact po _ _ _ _ _ s3 r3 (.d (.tup put_same ((r1.append r2).mono s3.l))) q
theorem n_addL : NOp X (binaryOp .Add) wAddN := by
  refine ⟨_, op_cat, fun w H O x y vx vy Q R ro rx ry q po => ?_⟩
  obtain ⟨xs, ys, ex, ey, l, q⟩ := q
  obtain ⟨p, vs, rfl, hp, r1⟩ := asL_ok ro rx ex
  obtain ⟨p', us, rfl, hp', r2⟩ := asL_ok ro ry ey
  refine ⟨p, p', vs, us, rfl, rfl, hp, hp', by rw [← r1.length, ← r2.length]; exact l, fun c hc => ?_⟩
  exact po c _ _ _ (.lst (xs ++ ys)) _ (Ext.refl _) (ro.newC hc) (ro.freeW hc) (ro.free hc) upd_same ⟨_, rfl, r1.append r2⟩ q
/-- a new list, frozen -/
theorem PostE.lst {w : Wd} {Q : BV → OO → Prop} {R : V → Hp → Prop} (po : PostE w Q R) : PostC w (fun m O => ∃ ds, m = .lst ds ∧ Q (.d (.lst ds)) O) R := fun p u H' w' m O' x ro n1 n2 hu cr ⟨ds, e, q⟩ => by
  subst e
  obtain ⟨vs, rfl, r⟩ := cr
  have x2 := ext_put (c := .frz (.lst vs)) n1
  exact po _ _ _ _ _ (x.trans x2) (ro.tell n1 n2 hu) (.d (.lst put_same (r.mono x2.l))) q
theorem o_addL : DOp X (binaryOp .Add) wAddL := by
  obtain ⟨t, p, h⟩ := (n_addL (X := X)).ex
  exact ⟨t, p, fun w H O x y vx vy Q R ro rx ry ⟨xs, ys, ex, ey, l, q⟩ po => h w H O x y vx vy _ R ro rx ry ⟨xs, ys, ex, ey, l, ⟨_, rfl, q⟩⟩ po.lst⟩
theorem o_add : DOp X (binaryOp .Add) wAdd := by
  refine (((o_addI.or o_addS).or o_addT).or o_addL).imp fun x y O Q h => ?_
  unfold wAdd at h
  split at h
  · exact .inl (.inl (.inl ⟨trivial, h⟩))
  · exact .inl (.inl (.inr ⟨_, _, rfl, rfl, h⟩))
  · exact .inl (.inr ⟨_, _, rfl, rfl, h⟩)
  · exact .inr h

/-! ### order -/
def wLt : DOF := fun x y O Q => match x, y with | .d (.int i), .d (.int j) => Q (.d (.bl (decide (i < j)))) O | .d (.str a), .d (.str b) => Q (.d (.bl (decide (a.cps.toList < b.cps.toList)))) O | _, _ => False
def wLe : DOF := fun x y O Q => match x, y with | .d (.int i), .d (.int j) => Q (.d (.bl (decide (i ≤ j)))) O | .d (.str a), .d (.str b) => Q (.d (.bl (!decide (b.cps.toList < a.cps.toList)))) O | _, _ => False
def wGt : DOF := fun x y O Q => match x, y with | .d (.int i), .d (.int j) => Q (.d (.bl (decide (j < i)))) O | .d (.str a), .d (.str b) => Q (.d (.bl (decide (b.cps.toList < a.cps.toList)))) O | _, _ => False
def wGe : DOF := fun x y O Q => match x, y with | .d (.int i), .d (.int j) => Q (.d (.bl (decide (j ≤ i)))) O | .d (.str a), .d (.str b) => Q (.d (.bl (!decide (a.cps.toList < b.cps.toList)))) O | _, _ => False
def wStr2 (f : Str → Str → Bool) : DOF := fun x y O Q => ∃ a b, x = .d (.str a) ∧ y = .d (.str b) ∧ Q (.d (.bl (f a b))) O
theorem dop_str {f : Value → Value → Sem Value} {g : Str → Str → Bool} (h : OpR X f (fun x y H Q => ∃ i j, x = .str i ∧ y = .str j ∧ Q (.bl (g i j)) H)) : DOp X f (wStr2 g) := by
  refine ⟨_, h, fun w H O x y vx vy Q R ro rx ry q po => ?_⟩
  obtain ⟨a, b, rfl, rfl, q⟩ := q
  cases rx.toD; cases ry.toD
  exact ⟨a, b, rfl, rfl, po _ _ _ _ _ (Ext.refl _) ro (.d .bl) q⟩
theorem o_lt : DOp X (compareOp .Lt) wLt := ((dop_cmpI op_lt).or (dop_str op_lt_str)).imp fun x y O Q h => by
  unfold wLt at h
  split at h
  · exact .inl h
  · exact .inr ⟨_, _, rfl, rfl, h⟩
  · exact h.elim
theorem o_le : DOp X (compareOp .LtE) wLe := ((dop_cmpI op_le).or (dop_str op_le_str)).imp fun x y O Q h => by
  unfold wLe at h
  split at h
  · exact .inl h
  · exact .inr ⟨_, _, rfl, rfl, h⟩
  · exact h.elim
theorem o_gt : DOp X (compareOp .Gt) wGt := ((dop_cmpI op_gt).or (dop_str op_gt_str)).imp fun x y O Q h => by
  unfold wGt at h
  split at h
  · exact .inl h
  · exact .inr ⟨_, _, rfl, rfl, h⟩
  · exact h.elim
theorem o_ge : DOp X (compareOp .GtE) wGe := ((dop_cmpI op_ge).or (dop_str op_ge_str)).imp fun x y O Q h => by
  unfold wGe at h
  split at h
  · exact .inl h
  · exact .inr ⟨_, _, rfl, rfl, h⟩
  · exact h.elim
/-! ### is None -/
def isNonD : D → Bool | .non => true | _ => false
def isNonB : BV → Bool | .d d => isNonD d | .c _ _ => false
def wIsN : DOF := fun x y O Q => match y with | .d .non => Q (.d (.bl (isNonB x))) O | _ => False
def wNotN : DOF := fun x y O Q => match y with | .d .non => Q (.d (.bl (!isNonB x))) O | _ => False
theorem BRep.non_iff {w d v} (r : BRep w d v) : decide (v = V.non) = isNonB d := by
  cases r with
  | d r => cases r <;> simp [isNonB, isNonD]
  | own => simp [isNonB]
  | fix => simp [isNonB]
theorem o_isN : DOp X (compareOp .Is) wIsN := by
  refine ⟨_, op_isN, fun w H O x y vx vy Q R ro rx ry q po => ?_⟩
  unfold wIsN at q
  split at q
  · cases ry.toD
    refine ⟨rfl, ?_⟩
    rw [rx.non_iff]
    exact po _ _ _ _ _ (Ext.refl _) ro (.d .bl) q
  · exact q.elim
theorem o_notN : DOp X (compareOp .IsNot) wNotN := by
  refine ⟨_, op_notN, fun w H O x y vx vy Q R ro rx ry q po => ?_⟩
  unfold wNotN at q
  split at q
  · cases ry.toD
    refine ⟨rfl, ?_⟩
    rw [rx.non_iff]
    exact po _ _ _ _ _ (Ext.refl _) ro (.d .bl) q
  · exact q.elim
end
end VD

set_option Elab.async false
set_option linter.all false
set_option maxRecDepth 100000
/-! VD: == and repr of trees -/
namespace VD
open PySem PySem.Spec PyProof.Rows L2

mutual
def eqvD : D → D → Bool
  | .tup xs, .tup ys => eqvL xs ys
  | .lst xs, .lst ys => eqvL xs ys
  | .dic xs, .dic ys => xs.length == ys.length && eqvK xs ys
  | .int i, .int j => i == j
  | .str a, .str b => a == b
  | .bl a, .bl b => a == b
  | .int i, .bl b => i == (if b then 1 else 0)
  | .bl a, .int j => (if a then 1 else 0) == j
  | .non, .non => true
  | _, _ => false
def eqvL : List D → List D → Bool
  | [], [] => true
  | x :: xs, y :: ys => eqvD x y && eqvL xs ys
  | _, _ => false
def eqvK : List (Key × D) → List (Key × D) → Bool
  | [], _ => true
  | (k, d) :: r, ys => (match valG ys k with | some e => eqvD d e | none => false) && eqvK r ys
end
mutual
/-- trees whose == is told -/
def cmpD : D → D → Bool
  | .tup xs, .tup ys => cmpL xs ys
  | .lst xs, .lst ys => cmpL xs ys
  | .dic xs, .dic ys => cmpK xs ys
  | .dic _, _ => false
  | .dct _, _ => false
  | .ref _, _ => false
  | .tape, _ => false
  | .ty _, _ => false
  | _, .dic _ => false
  | _, .dct _ => false
  | _, .ref _ => false
  | _, .tape => false
  | _, .ty _ => false
  | _, _ => true
def cmpL : List D → List D → Bool
  | x :: xs, y :: ys => cmpD x y && cmpL xs ys
  | _, _ => true
def cmpK : List (Key × D) → List (Key × D) → Bool
  | [], _ => true
  | (k, d) :: r, ys => (match valG ys k with | some e => cmpD d e | none => true) && cmpK r ys
end
mutual
def dpD : D → Nat
  | .tup xs => dpL xs + 1
  | .lst xs => dpL xs + 1
  | .dic xs => dpK xs + 1
  | _ => 0
def dpL : List D → Nat
  | [] => 0
  | x :: xs => max (dpD x) (dpL xs)
def dpK : List (Key × D) → Nat
  | [] => 0
  | (_, d) :: r => max (dpD d) (dpK r)
end

theorem nodup_val {us : List (Key × V)} (h : (us.map (·.1)).Nodup) : ∀ {k v}, (k, v) ∈ us → valV us k = some v := by
  induction us with
  | nil => intro k v hm; cases hm
  | cons p r ih =>
    intro k v hm
    rw [List.map_cons, List.nodup_cons] at h
    rcases List.mem_cons.mp hm with e | hm
    · subst e
      exact valV_pos rfl
    · have hne : ¬ p.1 = k := fun e => h.1 (by rw [e]; exact List.mem_map.mpr ⟨_, hm, rfl⟩)
      rw [valV_neg hne]
      exact ih h.2 hm
/-! two trees of one value -/
mutual
theorem eqv_same {w : Wd} (nd : ∀ p o us, w p = some (.frz (.frz o (.dK us))) → (us.map (·.1)).Nodup) : ∀ (d e : D) {v}, cmpD d e = true → Rep w d v → Rep w e v → eqvD d e = true
  | .tup xs, e, v, c, r, k => by
    cases r with
    | tup z r =>
      cases k with
      | tup z2 k =>
        rw [z] at z2
        cases z2
        exact eqvL_same nd xs _ (by simpa [cmpD] using c) r k
      | lst z2 k => rw [z] at z2; cases z2
      | dic z2 k => rw [z] at z2; cases z2
      | dct z2 k => rw [z] at z2; cases z2
      | ref => simp [cmpD] at c
      | tape => simp [cmpD] at c
  | .lst xs, e, v, c, r, k => by
    cases r with
    | lst z r =>
      cases k with
      | lst z2 k =>
        rw [z] at z2
        cases z2
        exact eqvL_same nd xs _ (by simpa [cmpD] using c) r k
      | tup z2 k => rw [z] at z2; cases z2
      | dic z2 k => rw [z] at z2; cases z2
      | dct z2 k => rw [z] at z2; cases z2
      | ref => simp [cmpD] at c
      | tape => simp [cmpD] at c
  | .dic xs, e, v, c, r, k => by
    cases r with
    | @dic p _ us _ z r =>
      cases k with
      | dic z2 k =>
        rw [z] at z2
        cases z2
        simp only [eqvD, Bool.and_eq_true, beq_iff_eq]
        exact ⟨r.length.trans k.length.symm, eqvK_same nd xs _ us us (fun kv h => h) (nd _ _ _ z) (by simpa [cmpD] using c) r k⟩
      | tup z2 k => rw [z] at z2; cases z2
      | lst z2 k => rw [z] at z2; cases z2
      | dct z2 k => rw [z] at z2; cases z2
      | ref => simp [cmpD] at c
      | tape => simp [cmpD] at c
  | .non, e, v, c, r, k => by cases r; cases k; rfl
  | .bl _, e, v, c, r, k => by cases r; cases k; simp [eqvD]
  | .int _, e, v, c, r, k => by cases r; cases k; simp [eqvD]
  | .str _, e, v, c, r, k => by cases r; cases k; simp [eqvD]
  | .ty _, e, v, c, r, k => by simp [cmpD] at c
  | .ref _, e, v, c, r, k => by simp [cmpD] at c
  | .dct _, e, v, c, r, k => by simp [cmpD] at c
  | .tape, e, v, c, r, k => by simp [cmpD] at c
theorem eqvL_same {w : Wd} (nd : ∀ p o us, w p = some (.frz (.frz o (.dK us))) → (us.map (·.1)).Nodup) : ∀ (ds es : List D) {vs}, cmpL ds es = true → Reps w ds vs → Reps w es vs → eqvL ds es = true
  | [], _, _, _, .nil, .nil => rfl
  | x :: xs, es, _, c, r, k => by
    cases r with
    | cons a r =>
      cases k with
      | @cons y _ ys _ b k =>
        have c' : cmpD x y = true ∧ cmpL xs ys = true := by simpa [cmpL] using c
        simp only [eqvL, Bool.and_eq_true]
        exact ⟨eqv_same nd x y c'.1 a b, eqvL_same nd xs ys c'.2 r k⟩
theorem eqvK_same {w : Wd} (nd : ∀ p o us, w p = some (.frz (.frz o (.dK us))) → (us.map (·.1)).Nodup) : ∀ (ds es : List (Key × D)) (us ws : List (Key × V)), (∀ kv, kv ∈ us → kv ∈ ws) → (ws.map (·.1)).Nodup → cmpK ds es = true → RepK w ds us → RepK w es ws → eqvK ds es = true
  | [], _, _, _, _, _, _, .nil, _ => rfl
  | (k, x) :: xs, ys, us, ws, sub, no, c, r, rk => by
    cases r with
    | cons a r =>
      have hv := nodup_val no (sub _ List.mem_cons_self)
      have q := rk.val (k := k)
      cases e : valG ys k with
      | none =>
        rw [e] at q
        rw [hv] at q
        cases q
      | some y =>
        rw [e] at q
        obtain ⟨u, h1, h2⟩ := q
        rw [hv] at h1
        cases h1
        have c' : cmpD x y = true ∧ cmpK xs ys = true := by simpa [cmpK, e] using c
        simp only [eqvK, e, Bool.and_eq_true]
        exact ⟨eqv_same nd x y c'.1 a h2, eqvK_same nd xs ys _ ws (fun kv h => sub kv (List.mem_cons_of_mem _ h)) no c'.2 r rk⟩
end

def SubW (w : Wd) (H : Hp) : Prop := ∀ p u, w p = some (.frz u) → H p = some u
theorem RelO.sub {w : Wd} {H : Hp} {O : OO} (ro : RelO w H O) : SubW w H := fun _ _ e => ro.frz e
theorem KV.keys {us : List (Key × V)} {vs : List (Key × Value)} (h : KV us vs) : us.map (·.1) = vs.map (·.1) := by
  unfold KV at h
  induction h with
  | nil => rfl
  | cons h t ih => rw [List.map_cons, List.map_cons, h.1, ih]
theorem range_all_succ (n : Nat) (e : Nat → Bool) : (List.range (n + 1)).all e = (e 0 && (List.range n).all fun j => e (j + 1)) := by
  rw [List.range_succ_eq_map, List.all_cons, List.all_map]
  rfl
section
variable {X : Cx} {pins : List (Addr × Obj)} {σ : L2.St} {H : Hp} {w : Wd} {s : Shared}
theorem nodup_Z (I : Inv X pins σ H s) (sub : SubW w H) : ∀ p o us, w p = some (.frz (.frz o (.dK us))) → (us.map (·.1)).Nodup := fun p o us e => by
  have rd : Rd H p (.dK us) := .inr ⟨o, sub _ _ e⟩
  obtain ⟨_, _, vs, kv, o, es, ep, _, _, _, _, _, nd⟩ := rd.ok I.hok
  have ek := KV.keys kv
  rw [ek]
  exact nd
theorem rd_of (sub : SubW w H) {p o us} (e : w p = some (.frz (.frz o (.dK us)))) : Rd H p (.dK us) := .inr ⟨o, sub _ _ e⟩
theorem depth_step {n m k : Nat} (h : n + (max m k + 1) < cLine) : n + 1 + m < cLine ∧ n + 1 + k < cLine := by
  have := Nat.le_max_left m k
  have := Nat.le_max_right m k
  omega
/-- the item-wise == of two rows -/
def ItemsEq (P : Program) (w : World) (A : Around) (s : Shared) (us ws : List Value) (n m : Nat) (r : Bool) : Prop :=
  ∃ e : Nat → Bool, (∀ j (h1 : j < us.length) (h2 : j < ws.length), SeqAt.EqIn P w A s us[j] ws[j] (e j)) ∧ ((List.range (min n m)).all e && n == m) = r
theorem ItemsEq.cons {P w A s u us y ys n m b r} (h : SeqAt.EqIn P w A s u y b) (t : ItemsEq P w A s us ys n m r) : ItemsEq P w A s (u :: us) (y :: ys) (n + 1) (m + 1) (b && r) := by
  obtain ⟨e, he, hr⟩ := t
  refine ⟨fun j => match j with | 0 => b | j + 1 => e j, fun j h1 h2 => ?_, ?_⟩
  · cases j with
    | zero => exact h
    | succ j => exact he j (Nat.lt_of_succ_lt_succ h1) (Nat.lt_of_succ_lt_succ h2)
  · have e1 : min (n + 1) (m + 1) = min n m + 1 := by omega
    rw [e1, range_all_succ, ← hr]
    have e2 : (n + 1 == m + 1) = (n == m) := by simp
    rw [e2, Bool.and_assoc]
open SeqAt (EqIn EqAt) in
mutual
theorem eq_run (I : Inv X pins σ H s) (sub : SubW w H) : ∀ (d e : D) (A : Around) {v u : V} {v' u' : Value}, cmpD d e = true → A.units + dpD d < cLine → Rep w d v → Rep w e u → RelV v v' → RelV u u' → EqIn X.prog X.w A s v' u' (eqvD d e)
  | .tup xs, e, A, v, u, v', u', c, hu, r, k, rv, ru => by
    cases r with
    | @tup p vs _ z r =>
      cases (show v' = Value.ref p from rv)
      obtain ⟨us, rl, pl, _⟩ := I.tuple (H := H) (.inl (.inl (sub _ _ z)))
      have hu0 : A.units < cLine := by simp only [dpD] at hu; omega
      cases k with
      | @tup p2 ws ys z2 k =>
        cases (show u' = Value.ref p2 from ru)
        by_cases hp : p = p2
        · subst hp
          rw [eqv_same (nodup_Z I sub) (.tup xs) (.tup ys) c (.tup z r) (.tup z2 k)]
          exact (EqAt.same _).inModel _ _
        · obtain ⟨us2, rl2, pl2, _⟩ := I.tuple (H := H) (.inl (.inl (sub _ _ z2)))
          obtain ⟨f, hf, hr⟩ := eqL_run I sub xs ys A.in1 (by simpa [cmpD] using c) (by simp only [dpD] at hu; show A.units + 1 + _ < _; omega) r k rl rl2
          refine SeqAt.EqIn.of_refs hp fun E Q h => SeqAt.rcIn_tuples pl pl2 hu0 (fun j h1 h2 => hf j (by simpa using h1) (by simpa using h2)) ?_
          rw [List.size_toArray, List.size_toArray, ← rl.length, ← rl2.length, ← r.length, ← k.length, hr]
          exact h
      | @lst p2 ws ys z2 k =>
        cases (show u' = Value.ref p2 from ru)
        obtain ⟨us2, rl2, pl2, _⟩ := I.list (H := H) (.inl (.inl (sub _ _ z2)))
        exact (EqAt.tuple_list pl pl2.isList hu0).inModel _ _
      | non => cases ru; exact (EqAt.tuple_none pl hu0).inModel _ _
      | bl => cases ru; exact (EqAt.tuple_bool _ pl hu0).inModel _ _
      | int => obtain ⟨t, rfl⟩ := ru; exact (EqAt.tuple_int _ _ pl hu0).inModel _ _
      | str => obtain ⟨t, rfl⟩ := ru; exact (EqAt.tuple_str _ _ pl hu0).inModel _ _
      | _ => simp [cmpD] at c
  | .lst xs, e, A, v, u, v', u', c, hu, r, k, rv, ru => by
    cases r with
    | @lst p vs _ z r =>
      cases (show v' = Value.ref p from rv)
      obtain ⟨us, rl, pl, _⟩ := I.list (H := H) (.inl (.inl (sub _ _ z)))
      have hu0 : A.units < cLine := by simp only [dpD] at hu; omega
      cases k with
      | @lst p2 ws ys z2 k =>
        cases (show u' = Value.ref p2 from ru)
        by_cases hp : p = p2
        · subst hp
          rw [eqv_same (nodup_Z I sub) (.lst xs) (.lst ys) c (.lst z r) (.lst z2 k)]
          exact (EqAt.same _).inModel _ _
        · obtain ⟨us2, rl2, pl2, _⟩ := I.list (H := H) (.inl (.inl (sub _ _ z2)))
          obtain ⟨f, hf, hr⟩ := eqL_run I sub xs ys A.in1 (by simpa [cmpD] using c) (by simp only [dpD] at hu; show A.units + 1 + _ < _; omega) r k rl rl2
          show EqIn _ _ _ _ _ _ (eqvL xs ys)
          by_cases hl : xs.length = ys.length
          · have hsz : us.toArray.size = us2.toArray.size := by rw [List.size_toArray, List.size_toArray, ← rl.length, ← rl2.length, ← r.length, ← k.length, hl]
            refine SeqAt.EqIn.of_refs hp fun E Q h => SeqAt.rcIn_lists pl.isList pl2.isList hsz hu0 (fun j h1 h2 => hf j (by simpa using h1) (by simpa using h2)) ?_
            rw [← hr] at h
            rw [List.size_toArray, ← rl.length, ← r.length]
            rw [hl, Nat.min_self, beq_self_eq_true, Bool.and_true] at h
            rw [hl]
            exact h
          · have hsz : (us.toArray.size != us2.toArray.size) = true := by
              rw [List.size_toArray, List.size_toArray, ← rl.length, ← rl2.length, ← r.length, ← k.length]
              simpa using hl
            have e0 : eqvL xs ys = false := by
              rw [← hr, beq_eq_false_iff_ne.mpr hl, Bool.and_false]
            rw [e0]
            exact (EqAt.of_refs hp (SeqAt.RcAt.lists_lengths pl.isList pl2.isList hsz hu0)).inModel _ _
      | @tup p2 ws ys z2 k =>
        cases (show u' = Value.ref p2 from ru)
        obtain ⟨us2, rl2, pl2, _⟩ := I.tuple (H := H) (.inl (.inl (sub _ _ z2)))
        exact (EqAt.list_tuple pl.isList pl2 hu0).inModel _ _
      | non => cases ru; exact (EqAt.list_none pl.isList hu0).inModel _ _
      | bl => cases ru; exact (EqAt.list_bool _ pl.isList hu0).inModel _ _
      | int => obtain ⟨t, rfl⟩ := ru; exact (EqAt.list_int _ _ pl.isList hu0).inModel _ _
      | str => obtain ⟨t, rfl⟩ := ru; exact (EqAt.list_str _ _ pl.isList hu0).inModel _ _
      | _ => simp [cmpD] at c
  | .dic xs, e, A, v, u, v', u', c, hu, r, k, rv, ru => by
    cases r with
    | @dic p _ vs _ z r =>
      cases (show v' = Value.ref p from rv)
      have hu0 : A.units < cLine := by simp only [dpD] at hu; omega
      cases k with
      | @dic p2 _ ws ys z2 k =>
        cases (show u' = Value.ref p2 from ru)
        by_cases hp : p = p2
        · subst hp
          rw [eqv_same (nodup_Z I sub) (.dic xs) (.dic ys) c (.dic z r) (.dic z2 k)]
          exact (EqAt.same _).inModel _ _
        · obtain ⟨_, s1, va, ra, da⟩ := dk_rd I.hok (rd_of sub z)
          obtain ⟨_, s2, vb, rb, db⟩ := dk_rd I.hok (rd_of sub z2)
          have hits := eqK_run I sub xs ys A.in1 (by simpa [cmpD] using c) (by simp only [dpD] at hu; show A.units + 1 + _ < _; omega) r k ra rb
          refine SeqAt.EqIn.of_refs hp fun E Q h => PySem.W.keq_eqIn s1 s2 da db hu0 (fun _ => hits) ?_
          rw [← ra.length, ← rb.length, ← r.length, ← k.length]
          exact h
      | _ => simp [cmpD] at c
  | .non, e, A, v, u, v', u', c, hu, r, k, rv, ru => by
    cases r
    cases (show v' = Value.none from rv)
    have hu0 : A.units < cLine := by simp only [dpD] at hu; omega
    cases k with
    | non => cases ru; exact (EqAt.same _).inModel _ _
    | bl => cases ru; exact (EqAt.none_bool _).inModel _ _
    | int => obtain ⟨t, rfl⟩ := ru; exact (EqAt.none_int _ _).inModel _ _
    | str => obtain ⟨t, rfl⟩ := ru; exact (EqAt.none_str _ _).inModel _ _
    | @tup p2 ws ys z2 k =>
      cases (show u' = Value.ref p2 from ru)
      obtain ⟨us2, rl2, pl2, _⟩ := I.tuple (H := H) (.inl (.inl (sub _ _ z2)))
      exact (EqAt.none_tuple pl2 hu0).inModel _ _
    | @lst p2 ws ys z2 k =>
      cases (show u' = Value.ref p2 from ru)
      obtain ⟨us2, rl2, pl2, _⟩ := I.list (H := H) (.inl (.inl (sub _ _ z2)))
      exact (EqAt.none_list pl2.isList hu0).inModel _ _
    | _ => simp [cmpD] at c
  | .bl a, e, A, v, u, v', u', c, hu, r, k, rv, ru => by
    cases r
    cases (show v' = Value.bool a from rv)
    have hu0 : A.units < cLine := by simp only [dpD] at hu; omega
    cases k with
    | non => cases ru; exact (EqAt.bool_none _).inModel _ _
    | bl => cases ru; exact (EqAt.bool_bool _ _).inModel _ _
    | int => obtain ⟨t, rfl⟩ := ru; exact (EqAt.bool_int _ _ _).inModel _ _
    | str => obtain ⟨t, rfl⟩ := ru; exact (EqAt.bool_str _ _ _).inModel _ _
    | @tup p2 ws ys z2 k =>
      cases (show u' = Value.ref p2 from ru)
      obtain ⟨us2, rl2, pl2, _⟩ := I.tuple (H := H) (.inl (.inl (sub _ _ z2)))
      exact (EqAt.bool_tuple _ pl2 hu0).inModel _ _
    | @lst p2 ws ys z2 k =>
      cases (show u' = Value.ref p2 from ru)
      obtain ⟨us2, rl2, pl2, _⟩ := I.list (H := H) (.inl (.inl (sub _ _ z2)))
      exact (EqAt.bool_list _ pl2.isList hu0).inModel _ _
    | _ => simp [cmpD] at c
  | .int a, e, A, v, u, v', u', c, hu, r, k, rv, ru => by
    cases r
    obtain ⟨ta, rfl⟩ := (show ∃ t, v' = Value.int a t from rv)
    have hu0 : A.units < cLine := by simp only [dpD] at hu; omega
    cases k with
    | non => cases ru; exact (EqAt.int_none _ _).inModel _ _
    | bl => cases ru; exact (EqAt.int_bool _ _ _).inModel _ _
    | int => obtain ⟨t, rfl⟩ := ru; exact (EqAt.int_int _ _ _ _).inModel _ _
    | str => obtain ⟨t, rfl⟩ := ru; exact (EqAt.int_str _ _ _ _).inModel _ _
    | @tup p2 ws ys z2 k =>
      cases (show u' = Value.ref p2 from ru)
      obtain ⟨us2, rl2, pl2, _⟩ := I.tuple (H := H) (.inl (.inl (sub _ _ z2)))
      exact (EqAt.int_tuple _ _ pl2 hu0).inModel _ _
    | @lst p2 ws ys z2 k =>
      cases (show u' = Value.ref p2 from ru)
      obtain ⟨us2, rl2, pl2, _⟩ := I.list (H := H) (.inl (.inl (sub _ _ z2)))
      exact (EqAt.int_list _ _ pl2.isList hu0).inModel _ _
    | _ => simp [cmpD] at c
  | .str a, e, A, v, u, v', u', c, hu, r, k, rv, ru => by
    cases r
    obtain ⟨ta, rfl⟩ := (show ∃ t, v' = Value.str a t from rv)
    have hu0 : A.units < cLine := by simp only [dpD] at hu; omega
    cases k with
    | non => cases ru; exact (EqAt.str_none _ _).inModel _ _
    | bl => cases ru; exact (EqAt.str_bool _ _ _).inModel _ _
    | int => obtain ⟨t, rfl⟩ := ru; exact (EqAt.str_int _ _ _ _).inModel _ _
    | str => obtain ⟨t, rfl⟩ := ru; exact (EqAt.str_str _ _ _ _).inModel _ _
    | @tup p2 ws ys z2 k =>
      cases (show u' = Value.ref p2 from ru)
      obtain ⟨us2, rl2, pl2, _⟩ := I.tuple (H := H) (.inl (.inl (sub _ _ z2)))
      exact (EqAt.str_tuple _ _ pl2 hu0).inModel _ _
    | @lst p2 ws ys z2 k =>
      cases (show u' = Value.ref p2 from ru)
      obtain ⟨us2, rl2, pl2, _⟩ := I.list (H := H) (.inl (.inl (sub _ _ z2)))
      exact (EqAt.str_list _ _ pl2.isList hu0).inModel _ _
    | _ => simp [cmpD] at c
  | .ty _, _, _, _, _, _, _, c, _, _, _, _, _ => by simp [cmpD] at c
  | .ref _, _, _, _, _, _, _, c, _, _, _, _, _ => by simp [cmpD] at c
  | .dct _, _, _, _, _, _, _, c, _, _, _, _, _ => by simp [cmpD] at c
  | .tape, _, _, _, _, _, _, c, _, _, _, _, _ => by simp [cmpD] at c
theorem eqL_run (I : Inv X pins σ H s) (sub : SubW w H) : ∀ (ds es : List D) (A : Around) {vs us : List V} {vs' us' : List Value}, cmpL ds es = true → A.units + dpL ds < cLine → Reps w ds vs → Reps w es us → Vals vs vs' → Vals us us' → ItemsEq X.prog X.w A s vs' us' ds.length es.length (eqvL ds es)
  | [], es, A, vs, us, vs', us', c, hu, r, k, rv, ru => by
    cases r
    cases rv
    refine ⟨fun _ => true, fun j h1 h2 => absurd h1 (Nat.not_lt_zero j), ?_⟩
    cases es <;> simp [eqvL]
  | x :: xs, es, A, vs, us, vs', us', c, hu, r, k, rv, ru => by
    cases es with
    | nil =>
      cases k
      cases ru
      exact ⟨fun _ => true, fun j h1 h2 => absurd h2 (Nat.not_lt_zero j), by simp [eqvL]⟩
    | cons y ys =>
      have c' : cmpD x y = true ∧ cmpL xs ys = true := by simpa [cmpL] using c
      cases r with
      | cons a r =>
        cases k with
        | cons b k =>
          cases rv with
          | cons va rv =>
            cases ru with
            | cons vb ru =>
              have hd : A.units + dpD x < cLine ∧ A.units + dpL xs < cLine := by
                simp only [dpL] at hu
                have := Nat.le_max_left (dpD x) (dpL xs)
                have := Nat.le_max_right (dpD x) (dpL xs)
                omega
              exact ItemsEq.cons (eq_run I sub x y A c'.1 hd.1 a b va vb) (eqL_run I sub xs ys A c'.2 hd.2 r k rv ru)
theorem eqK_run (I : Inv X pins σ H s) (sub : SubW w H) : ∀ (ds es : List (Key × D)) (A : Around) {vs us : List (Key × V)} {vs' us' : List (Key × Value)}, cmpK ds es = true → A.units + dpK ds < cLine → RepK w ds vs → RepK w es us → KV vs vs' → KV us us' → PySem.W.KeqHitsIn X.prog X.w A s us' vs' (eqvK ds es)
  | [], es, A, vs, us, vs', us', c, hu, r, k, rv, ru => by
    cases r
    cases rv
    exact .nil
  | (kx, x) :: xs, es, A, vs, us, vs', us', c, hu, r, k, rv, ru => by
    cases r with
    | cons a r =>
      cases rv with
      | @cons _ q _ qs va rv =>
        obtain ⟨kq, vq⟩ := q
        obtain ⟨ek, va⟩ := va
        cases (show kx = kq from ek)
        have hv := ru.val kx
        have hd : A.units + dpD x < cLine ∧ A.units + dpK xs < cLine := by
          simp only [dpK] at hu
          have := Nat.le_max_left (dpD x) (dpK xs)
          have := Nat.le_max_right (dpD x) (dpK xs)
          omega
        have q := k.val (k := kx)
        cases e : valG es kx with
        | none =>
          rw [e] at q
          rw [q] at hv
          simp only [eqvK, e, Bool.false_and]
          refine .miss ?_
          cases z : valueAt us' kx with
          | none => rfl
          | some _ => rw [z] at hv; exact hv.elim
        | some y =>
          rw [e] at q
          obtain ⟨u, h1, h2⟩ := q
          rw [h1] at hv
          have c' : cmpD x y = true ∧ cmpK xs es = true := by simpa [cmpK, e] using c
          simp only [eqvK, e]
          cases z : valueAt us' kx with
          | none => rw [z] at hv; exact hv.elim
          | some u' =>
            rw [z] at hv
            exact .hit z (eq_run I sub x y A c'.1 hd.1 a h2 va hv) (eqK_run I sub xs es A c'.2 hd.2 r k rv ru)
end
end
end VD

set_option Elab.async false
set_option linter.all false
set_option maxRecDepth 100000
/-! VD: repr of trees -/
namespace VD
open PySem PySem.Spec PyProof.Rows L2

def keyPy : Key → PyData
  | .inl i => .int i
  | .inr x => .str x
mutual
def toPy : D → PyData
  | .bl b => .bool b
  | .int i => .int i
  | .str x => .str x
  | .tup ds => .tuple (toPyL ds)
  | .lst ds => .list (toPyL ds)
  | .dic kvs => .dict (toPyK kvs)
  | _ => .none
def toPyL : List D → List PyData
  | [] => []
  | d :: r => toPy d :: toPyL r
def toPyK : List (Key × D) → List (PyData × PyData)
  | [] => []
  | (k, d) :: r => (keyPy k, toPy d) :: toPyK r
end
mutual
/-- trees that are data -/
def datD : D → Bool
  | .tup ds => datL ds
  | .lst ds => datL ds
  | .dic kvs => datK kvs
  | .ref _ => false
  | .ty _ => false
  | .dct _ => false
  | .tape => false
  | _ => true
def datL : List D → Bool
  | [] => true
  | d :: r => datD d && datL r
def datK : List (Key × D) → Bool
  | [] => true
  | (_, d) :: r => datD d && datK r
end
theorem toPyK_fst : ∀ kvs, (toPyK kvs).map (·.1) = kvs.map fun kv => keyPy kv.1
  | [] => rfl
  | (k, d) :: r => by simp [toPyK, toPyK_fst r]
theorem toPyK_snd : ∀ kvs, (toPyK kvs).map (·.2) = toPyL (kvs.map (·.2))
  | [] => rfl
  | (k, d) :: r => by simp [toPyK, toPyL, toPyK_snd r]
theorem datK_snd : ∀ kvs, datK kvs = datL (kvs.map (·.2))
  | [] => rfl
  | (k, d) :: r => by simp [datK, datL, datK_snd r]
/-- no list or dict on the way is sys.modules -/
def Safe (as : List Addr) : Prop := sysModules ∉ as
theorem Safe.app {as bs} (a : Safe as) (b : Safe bs) : Safe (as ++ bs) := fun h => (List.mem_append.mp h).elim a b
theorem Safe.cons {a : Addr} {as} (h : a ≠ sysModules) (b : Safe as) : Safe (a :: as) := fun m => (List.mem_cons.mp m).elim (fun e => h e.symm) b
theorem keys_read {P : Program} {w : World} {h : Heap} : ∀ {es : List DictEntry} {vs : List (Key × Value)}, Pairs (mixKind P w) es vs → ∃ as, Safe as ∧ ReadsAll h (es.map (·.key)) (vs.map fun kv => keyPy kv.1) as
  | _, _, .nil => ⟨[], (fun h => nomatch h), .nil⟩
  | _, _, .cons (kv := kv) hk _ t => by
    obtain ⟨as, sa, ra⟩ := keys_read (h := h) t
    rcases keyIs_shape hk with ⟨i, t, e1, e2⟩ | ⟨x, t, e1, e2⟩
    · refine ⟨[] ++ as, sa, .cons ?_ ra⟩
      simp only [e1, e2]
      exact .int _ _
    · refine ⟨[] ++ as, sa, .cons ?_ ra⟩
      simp only [e1, e2]
      exact .str _ _
theorem vals_eq {P : Program} {w : World} : ∀ {es : List DictEntry} {vs : List (Key × Value)}, Pairs (mixKind P w) es vs → es.map (·.val) = vs.map (·.2)
  | _, _, .nil => rfl
  | _, _, .cons hk hv t => by simp [hv, vals_eq t]
theorem RepK.snd {w : Wd} : ∀ {kvs us}, RepK w kvs us → Reps w (kvs.map (·.2)) (us.map (·.2))
  | _, _, .nil => .nil
  | _, _, .cons a r => .cons a (RepK.snd r)
theorem KV.snd {us : List (Key × V)} {vs : List (Key × Value)} (h : KV us vs) : Vals (us.map (·.2)) (vs.map (·.2)) := by
  unfold KV at h
  induction h with
  | nil => exact .nil
  | cons h t ih => exact .cons h.2 ih
section
variable {X : Cx} {pins : List (Addr × Obj)} {σ : L2.St} {H : Hp} {w : Wd} {s : Shared} {b : Bool}
mutual
theorem reads_run (I : Inv X pins σ H s) (sub : SubW w H) (big : b = true → ∀ p xs, H p = some (.lst xs) → p ≠ sysModules) : ∀ (d : D) {v : V} {v' : Value}, datD d = true → Rep w d v → RelV v v' → ∃ as, (b = true → Safe as) ∧ Reads s.heap v' (toPy d) as
  | .tup xs, v, v', c, r, rv => by
    cases r with
    | @tup p vs _ z r =>
      cases (show v' = Value.ref p from rv)
      obtain ⟨us, rl, pl, _⟩ := I.tuple (H := H) (.inl (.inl (sub _ _ z)))
      obtain ⟨as, sa, ra⟩ := readsL_run I sub big xs (by simpa [datD] using c) r rl
      obtain ⟨o, ho, hc, n, hd⟩ := pl
      exact ⟨as, sa, .tuple ho hc hd (by simpa using ra)⟩
  | .lst xs, v, v', c, r, rv => by
    cases r with
    | @lst p vs _ z r =>
      cases (show v' = Value.ref p from rv)
      have hH := sub _ _ z
      obtain ⟨us, rl, pl, _⟩ := I.list (H := H) (.inl (.inl hH))
      obtain ⟨as, sa, ra⟩ := readsL_run I sub big xs (by simpa [datD] using c) r rl
      obtain ⟨o, ho, hc, n, hd⟩ := pl.isList
      exact ⟨p :: as, fun hb => (sa hb).cons (big hb _ _ hH), .list ho hc hd (by simpa using ra)⟩
  | .dic xs, v, v', c, r, rv => by
    cases r with
    | @dic p _ vs _ z r =>
      cases (show v' = Value.ref p from rv)
      obtain ⟨_, s1, va, ra, o, es, ep, ho, hx, hd, hk, hp, _⟩ := dk_rd I.hok (rd_of sub z)
      obtain ⟨as, sa, ka⟩ := keys_read (h := s.heap) hp
      obtain ⟨bs, sb, kb⟩ := readsK_run I sub big xs (by simpa [datD] using c) r ra
      have e1 : (va.map fun kv => keyPy kv.1) = (toPyK xs).map (·.1) := by
        rw [toPyK_fst]
        have q := congrArg (List.map keyPy) ((KV.keys ra).symm.trans r.keys.symm)
        simpa [List.map_map, Function.comp_def] using q
      refine ⟨p :: as ++ bs, fun hb => (sa.cons (fun e => by simp [e] at s1)).app (sb hb), .dict ho hx.1 hd ?_ ?_⟩
      · rw [← e1]; exact ka
      · rw [vals_eq hp]; exact kb
  | .non, v, v', c, r, rv => by cases r; cases rv; exact ⟨[], (fun _ h => nomatch h), .none⟩
  | .bl _, v, v', c, r, rv => by cases r; cases rv; exact ⟨[], (fun _ h => nomatch h), .bool _⟩
  | .int i, v, v', c, r, rv => by cases r; obtain ⟨t, rfl⟩ := rv; exact ⟨[], (fun _ h => nomatch h), .int i t⟩
  | .str x, v, v', c, r, rv => by cases r; obtain ⟨t, rfl⟩ := rv; exact ⟨[], (fun _ h => nomatch h), .str x t⟩
  | .ty _, _, _, c, _, _ => by simp [datD] at c
  | .ref _, _, _, c, _, _ => by simp [datD] at c
  | .dct _, _, _, c, _, _ => by simp [datD] at c
  | .tape, _, _, c, _, _ => by simp [datD] at c
theorem readsL_run (I : Inv X pins σ H s) (sub : SubW w H) (big : b = true → ∀ p xs, H p = some (.lst xs) → p ≠ sysModules) : ∀ (ds : List D) {vs : List V} {vs' : List Value}, datL ds = true → Reps w ds vs → Vals vs vs' → ∃ as, (b = true → Safe as) ∧ ReadsAll s.heap vs' (toPyL ds) as
  | [], vs, vs', c, r, rv => by
    cases r
    cases rv
    exact ⟨[], (fun _ h => nomatch h), .nil⟩
  | x :: xs, vs, vs', c, r, rv => by
    cases r with
    | cons a r =>
      cases rv with
      | cons va rv =>
        have c' : datD x = true ∧ datL xs = true := by simpa [datL] using c
        obtain ⟨as, sa, ra⟩ := reads_run I sub big x c'.1 a va
        obtain ⟨bs, sb, rb⟩ := readsL_run I sub big xs c'.2 r rv
        exact ⟨as ++ bs, fun hb => (sa hb).app (sb hb), .cons ra rb⟩
theorem readsK_run (I : Inv X pins σ H s) (sub : SubW w H) (big : b = true → ∀ p xs, H p = some (.lst xs) → p ≠ sysModules) : ∀ (ds : List (Key × D)) {vs : List (Key × V)} {vs' : List (Key × Value)}, datK ds = true → RepK w ds vs → KV vs vs' → ∃ as, (b = true → Safe as) ∧ ReadsAll s.heap (vs'.map (·.2)) ((toPyK ds).map (·.2)) as
  | [], vs, vs', c, r, rv => by
    cases r
    cases rv
    exact ⟨[], (fun _ h => nomatch h), .nil⟩
  | (k, x) :: xs, vs, vs', c, r, rv => by
    cases r with
    | cons a r =>
      cases rv with
      | cons va rv =>
        have c' : datD x = true ∧ datK xs = true := by simpa [datK] using c
        obtain ⟨as, sa, ra⟩ := reads_run I sub big x c'.1 a va.2
        obtain ⟨bs, sb, rb⟩ := readsK_run I sub big xs c'.2 r rv
        exact ⟨as ++ bs, fun hb => (sa hb).app (sb hb), .cons ra rb⟩
end
end

/-! ### repr(x) -/
def reprD (d : D) : Str := (toPy d).shown
def showD (d : D) : Bool := (toPy d).showable
section
variable {X : Cx}
def refD : D → Bool | .tup _ => true | .lst _ => true | .dic _ => true | _ => false
def rReprT : List V → Hp → VK → Prop := fun xs H Q => ∃ w d v, xs = [v] ∧ SubW w H ∧ Rep w d v ∧ refD d = true ∧ (toPy d).hasDict = false ∧ datD d = true ∧ showD d = true ∧ (toPy d).depth ≤ 60 ∧ (reprD d).length ≤ sizeLine ∧ Q (.str (reprD d)) H
theorem cr_reprT (hg : X.A.guards = some []) (hu : X.A.units + 64 < cLine) : CallR X (.builtin "repr") rReprT := by
  intro pins s σ H xs us Q I rv h
  obtain ⟨Z, d, v, rfl, sub, r, rf, nd, dt, sh, dp, sz, q⟩ := h
  obtain ⟨v', rfl, rv1⟩ := vals1 rv
  obtain ⟨as, _, rd⟩ := reads_run (b := false) I sub (fun h => by cases h) d dt r rv1
  obtain ⟨a, rfl⟩ : ∃ a, v' = .ref a := by
    cases r with
    | tup => exact ⟨_, rv1⟩
    | lst => exact ⟨_, rv1⟩
    | dic => exact ⟨_, rv1⟩
    | _ => simp [refD] at rf
  refine repr_of_reads' rd sh (PyData.noDict_hsm nd) hg (by omega) (fun _ _ e => e) (fun h' u tk hk => ?_) sz
  exact ⟨.str _, H, I.kept hk, ⟨_, rfl⟩, q⟩
/-- all that is told, as frozen -/
def allf : Option Cell → Option Cell
  | some (.own u) => some (.frz u)
  | some (.fix u) => some (.frz u)
  | x => x
def Wd.view (w : Wd) : Wd := fun a => allf (w a)
theorem view_le {w : Wd} : Le0 w w.view := ⟨fun a u e => by unfold Wd.view; rw [e]; rfl, fun a e => by unfold Wd.view; rw [e]; rfl⟩
theorem view_sub {w : Wd} {H : Hp} {O : OO} (ro : RelO w H O) : SubW w.view H := fun p u e => by
  have e' : allf (w p) = some (.frz u) := e
  cases q : w p with
  | none => rw [q] at e'; cases e'
  | some c =>
    rw [q] at e'
    have k := ro.cell p c q
    cases c with
    | own u' => cases e'; exact k
    | fix u' => cases e'; exact k
    | frz u' => cases e'; exact k
    | tape => cases e'
    | tab q => cases e'
/-- a tree, or a lent list or locked dict as a tree -/
def eqB (x : BV) (K : D → Prop) : Prop := match x with
  | .d d => K d
  | .c _ (.lst ds) => K (.lst ds)
  | .c _ (.ldic kvs) => K (.dic kvs)
  | _ => False
theorem eqB_ok {w : Wd} {x : BV} {v : V} {K : D → Prop} (r : BRep w x v) (h : eqB x K) : ∃ d, Rep w.view d v ∧ K d := by
  cases r with
  | d r => exact ⟨_, r.mono view_le, h⟩
  | @own m p u e c =>
    have e' : w.view p = some (.frz u) := by unfold Wd.view; rw [e]; rfl
    cases m with
    | lst ds => obtain ⟨vs, rfl, r⟩ := c; exact ⟨_, .lst e' (r.mono view_le), h⟩
    | ldic ds => obtain ⟨o, vs, rfl, r⟩ := c; exact ⟨_, .dic e' (r.mono view_le), h⟩
    | _ => exact h.elim
  | @fix m p u e c =>
    have e' : w.view p = some (.frz u) := by unfold Wd.view; rw [e]; rfl
    cases m with
    | lst ds => obtain ⟨vs, rfl, r⟩ := c; exact ⟨_, .lst e' (r.mono view_le), h⟩
    | ldic ds => obtain ⟨o, vs, rfl, r⟩ := c; exact ⟨_, .dic e' (r.mono view_le), h⟩
    | _ => exact h.elim
def wRepr1 (d : D) (O : OO) (Q : BV → OO → Prop) : Prop := match d with
  | .int i => i.natAbs.log2 < 1920 ∧ Q (.d (.str (toString i))) O
  | d => refD d = true ∧ (toPy d).hasDict = false ∧ datD d = true ∧ showD d = true ∧ (toPy d).depth ≤ 60 ∧ (reprD d).length ≤ sizeLine ∧ Q (.d (.str (reprD d))) O
def wRepr : DLF := fun ds O Q => match ds with
  | [x] => eqB x fun d => wRepr1 d O Q
  | _ => False
theorem c_repr (hg : X.A.guards = some []) (hu : X.A.units + 64 < cLine) : DCall X (.builtin "repr") wRepr := by
  refine ⟨_, CallR.or SkE.call_repr_int (cr_reprT hg hu), fun w H O ds vs Q R ro r q po => ?_⟩
  obtain ⟨x, v, rfl, rfl, r1⟩ : ∃ x v, ds = [x] ∧ vs = [v] ∧ BRep w x v := by
    cases r with
    | nil => exact q.elim
    | cons r rr => cases rr with
      | nil => exact ⟨_, _, rfl, rfl, r⟩
      | cons _ _ => exact q.elim
  clear r
  obtain ⟨d, r, q⟩ := eqB_ok r1 (show eqB x fun d => wRepr1 d O Q from q)
  by_cases hi : ∃ i, d = .int i
  · obtain ⟨i, rfl⟩ := hi
    cases r
    exact .inl ⟨i, rfl, q.1, po _ _ _ _ _ (Ext.refl _) ro (.d .str) q.2⟩
  · have w' : refD d = true ∧ (toPy d).hasDict = false ∧ datD d = true ∧ showD d = true ∧ (toPy d).depth ≤ 60 ∧ (reprD d).length ≤ sizeLine ∧ Q (.d (.str (reprD d))) O := by
      unfold wRepr1 at q
      split at q
      · exact absurd ⟨_, rfl⟩ hi
      · exact q
    obtain ⟨h1, h0, h2, h3, h4, h5, q⟩ := w'
    exact .inr ⟨w.view, d, v, rfl, view_sub ro, r, h1, h0, h2, h3, h4, h5, po _ _ _ _ _ (Ext.refl _) ro (.d .str) q⟩
end
end VD

set_option Elab.async false
set_option linter.all false
set_option maxRecDepth 100000
/-! VD: ==, !=, in as operators -/
namespace VD
open PySem PySem.Spec PyProof.Rows L2
mutual
/-- data without dicts -/
def pln : D → Bool
  | .non => true
  | .bl _ => true
  | .int _ => true
  | .str _ => true
  | .tup ds => plnL ds
  | .lst ds => plnL ds
  | _ => false
def plnL : List D → Bool
  | [] => true
  | d :: r => pln d && plnL r
end
@[simp] theorem pln_non : pln .non = true := rfl
@[simp] theorem pln_bl {b} : pln (.bl b) = true := rfl
@[simp] theorem pln_int {i} : pln (.int i) = true := rfl
@[simp] theorem pln_str {x} : pln (.str x) = true := rfl
theorem plnL_all : ∀ ds, plnL ds = ds.all pln
  | [] => rfl
  | d :: r => by rw [plnL, plnL_all r, List.all_cons]
@[simp] theorem pln_tup {ds} : pln (.tup ds) = ds.all pln := by rw [pln, plnL_all]
@[simp] theorem pln_lst {ds} : pln (.lst ds) = ds.all pln := by rw [pln, plnL_all]
@[simp] theorem pln_dic {ds} : pln (.dic ds) = false := by rw [pln] <;> simp
mutual
theorem pln_ok : ∀ d, pln d = true → datD d = true ∧ (toPy d).plain = true ∧ (toPy d).depth = dpD d
  | .non, _ => ⟨rfl, rfl, by simp [toPy, PyData.depth, dpD]⟩
  | .bl _, _ => ⟨rfl, rfl, by simp [toPy, PyData.depth, dpD]⟩
  | .int _, _ => ⟨rfl, rfl, by simp [toPy, PyData.depth, dpD]⟩
  | .str _, _ => ⟨rfl, rfl, by simp [toPy, PyData.depth, dpD]⟩
  | .tup ds, h => by
    obtain ⟨a, b, c⟩ := plnL_ok ds (by simpa [pln] using h)
    simp only [datD, toPy, PyData.plain, PyData.depth, dpD]
    exact ⟨a, b, by omega⟩
  | .lst ds, h => by
    obtain ⟨a, b, c⟩ := plnL_ok ds (by simpa [pln] using h)
    simp only [datD, toPy, PyData.plain, PyData.depth, dpD]
    exact ⟨a, b, by omega⟩
  | .dic _, h => by simp [pln] at h
  | .dct _, h => by simp [pln] at h
  | .ty _, h => by simp [pln] at h
  | .ref _, h => by simp [pln] at h
  | .tape, h => by simp [pln] at h
theorem plnL_ok : ∀ ds, plnL ds = true → datL ds = true ∧ PyData.plainAll (toPyL ds) = true ∧ PyData.depthAll (toPyL ds) = dpL ds
  | [], _ => ⟨rfl, rfl, by simp [toPyL, PyData.depthAll, dpL]⟩
  | d :: r, h => by
    simp only [plnL, Bool.and_eq_true] at h
    obtain ⟨a, b, c⟩ := pln_ok d h.1
    obtain ⟨a', b', c'⟩ := plnL_ok r h.2
    exact ⟨by simp [datL, a, a'], by simp [toPyL, PyData.plainAll, b, b'], by simp only [toPyL, PyData.depthAll, dpL, c, c']⟩
end
mutual
theorem eqv_py : ∀ d e, pln d = true → pln e = true → PyData.eqv (toPy d) (toPy e) = eqvD d e
  | .non, e, _, h => by cases e <;> first | (simp [toPy, PyData.eqv, eqvD]; done) | simp [pln] at h
  | .bl _, e, _, h => by cases e <;> first | (simp [toPy, PyData.eqv, eqvD]; done) | simp [pln] at h
  | .int _, e, _, h => by cases e <;> first | (simp [toPy, PyData.eqv, eqvD]; done) | simp [pln] at h
  | .str _, e, _, h => by cases e <;> first | (simp [toPy, PyData.eqv, eqvD]; done) | simp [pln] at h
  | .tup ds, .tup es, h, k => by
    simp only [toPy, PyData.eqv, eqvD]
    exact eqvL_py ds es (by simpa [pln] using h) (by simpa [pln] using k)
  | .lst ds, .lst es, h, k => by
    simp only [toPy, PyData.eqv, eqvD]
    exact eqvL_py ds es (by simpa [pln] using h) (by simpa [pln] using k)
  | .tup _, .non, _, _ => by simp [toPy, PyData.eqv, eqvD]
  | .tup _, .bl _, _, _ => by simp [toPy, PyData.eqv, eqvD]
  | .tup _, .int _, _, _ => by simp [toPy, PyData.eqv, eqvD]
  | .tup _, .str _, _, _ => by simp [toPy, PyData.eqv, eqvD]
  | .tup _, .lst _, _, _ => by simp [toPy, PyData.eqv, eqvD]
  | .lst _, .non, _, _ => by simp [toPy, PyData.eqv, eqvD]
  | .lst _, .bl _, _, _ => by simp [toPy, PyData.eqv, eqvD]
  | .lst _, .int _, _, _ => by simp [toPy, PyData.eqv, eqvD]
  | .lst _, .str _, _, _ => by simp [toPy, PyData.eqv, eqvD]
  | .lst _, .tup _, _, _ => by simp [toPy, PyData.eqv, eqvD]
  | .tup _, .dic _, _, h => by simp [pln] at h
  | .tup _, .dct _, _, h => by simp [pln] at h
  | .tup _, .ty _, _, h => by simp [pln] at h
  | .tup _, .ref _, _, h => by simp [pln] at h
  | .tup _, .tape, _, h => by simp [pln] at h
  | .lst _, .dic _, _, h => by simp [pln] at h
  | .lst _, .dct _, _, h => by simp [pln] at h
  | .lst _, .ty _, _, h => by simp [pln] at h
  | .lst _, .ref _, _, h => by simp [pln] at h
  | .lst _, .tape, _, h => by simp [pln] at h
  | .dic _, _, h, _ => by simp [pln] at h
  | .dct _, _, h, _ => by simp [pln] at h
  | .ty _, _, h, _ => by simp [pln] at h
  | .ref _, _, h, _ => by simp [pln] at h
  | .tape, _, h, _ => by simp [pln] at h
theorem eqvL_py : ∀ ds es, plnL ds = true → plnL es = true → PyData.eqvAll (toPyL ds) (toPyL es) = eqvL ds es
  | [], [], _, _ => by simp [toPyL, PyData.eqvAll, eqvL]
  | [], _ :: _, _, _ => by simp [toPyL, PyData.eqvAll, eqvL]
  | _ :: _, [], _, _ => by simp [toPyL, PyData.eqvAll, eqvL]
  | d :: ds, e :: es, h, k => by
    simp only [plnL, Bool.and_eq_true] at h k
    simp only [toPyL, PyData.eqvAll, eqvL, eqv_py d e h.1 k.1, eqvL_py ds es h.2 k.2]
end
theorem dpL_le {n : Nat} : ∀ {ds}, dpL ds ≤ n ↔ ∀ d ∈ ds, dpD d ≤ n
  | [] => by simp [dpL]
  | d :: r => by simp [dpL, dpL_le (ds := r), Nat.max_le]
section
variable {X : Cx} {pins : List (Addr × Obj)} {σ : L2.St} {H : Hp} {w : Wd} {s : Shared}
theorem toPyL_any (d : D) (hd : pln d = true) : ∀ ds, plnL ds = true → ((toPyL ds).any fun y => PyData.eqv y (toPy d)) = ds.any fun y => eqvD y d
  | [], _ => rfl
  | y :: r, h => by
    simp only [plnL, Bool.and_eq_true] at h
    simp only [toPyL, List.any_cons, eqv_py y d h.1 hd, toPyL_any d hd r h.2]
theorem ne_dicts {P : Program} {w : World} {K : Type} [DecidableEq K] {knd : KeyKind P w K} {A : Around} {E : Value → Shared → Prop} {a b : Addr} {ka kb : List (K × Value)} {r : Bool} {Q : Value → Shared → Prop} (ha : (a == sysModules) = false) (hb : (b == sysModules) = false)
    (da : s.heap.DictOf knd a ka) (db : s.heap.DictOf knd b kb) (hu : A.units < cLine) (hits : ka.length = kb.length → PySem.W.KeqHitsIn P w A.in1 s kb ka r) (h : Q (.bool (!(ka.length == kb.length && r))) s) :
    wpAny (model P w) A (richCompare .NotEq (.ref a) (.ref b)) Q E s := by
  refine wpAny_richCompare_same_room (op := .NotEq) da.typeIs db.typeIs PySem.F.slot_dict_ne (wpAny_call_entry PySem.F.slot_dict_ne da.typeIs PySem.F.entry_dict_ne ?_ (PySem.F.args_dict_ne_2 _ _)) hu
  show wpAny _ _ (Builtin.Dict.dictSlotArgs "__ne__" ⟨[.ref a, .ref b], []⟩ >>= _) _ _ s
  unfold Builtin.Dict.dictSlotArgs
  refine wpAny_bind (wpAny_bind (wpAny_notOrdered_dict da.typeIs (wpAny_pure (wpAny_bind (wpAny_isInstance (T := "dict") db.typeIs PySem.F.sub_dict_dict ?_)))))
  simp only [Bool.not_true, Bool.false_eq_true, if_false]
  refine wpAny_bind (wpAny_pure ?_)
  refine wpAny_bind (wpAny_pure ?_)
  refine wpAny_bind (PySem.W.keq_samePairsIn ha hb da db hits ?_)
  refine wpAny_pure ⟨_, rfl, ?_, ?_⟩
  · exact fun x => nomatch x
  · simpa using h

/-- what == asks of two trees -/
def isDicD : D → Bool | .dic _ => true | _ => false
def eqC (d e : D) : Prop := dpD d ≤ 60 ∧ ((pln d && pln e) || (isDicD d && isDicD e && cmpD d e)) = true
theorem dic_ex {d} (h : isDicD d = true) : ∃ k, d = .dic k := by
  cases d with
  | dic k => exact ⟨k, rfl⟩
  | _ => cases h
def rEqT (f : Bool → Bool) : R2 := fun x y H Q => ∃ w d e, SubW w H ∧ Rep w d x ∧ Rep w e y ∧ eqC d e ∧ Q (.bl (f (eqvD d e))) H
theorem plain_two (I : Inv X pins σ H s) (sub : SubW w H) {d e : D} {x y : V} {v u : Value} (r1 : Rep w d x) (r2 : Rep w e y) (rx : RelV x v) (ry : RelV y u) (h : (pln d && pln e) = true) :
    ∃ as bs, Reads s.heap v (toPy d) as ∧ Reads s.heap u (toPy e) bs ∧ (toPy d).plain = true ∧ (toPy e).plain = true ∧ (toPy d).depth = dpD d ∧ PyData.eqv (toPy d) (toPy e) = eqvD d e := by
  obtain ⟨h1, h2⟩ := Bool.and_eq_true_iff.mp h
  obtain ⟨a1, b1, c1⟩ := pln_ok d h1
  obtain ⟨a2, b2, _⟩ := pln_ok e h2
  obtain ⟨as, _, ra⟩ := reads_run (b := false) I sub (fun h => by cases h) d a1 r1 rx
  obtain ⟨bs, _, rb⟩ := reads_run (b := false) I sub (fun h => by cases h) e a2 r2 ry
  exact ⟨as, bs, ra, rb, b1, b2, c1, eqv_py d e h1 h2⟩
theorem op_eqT (hu : X.A.units + 64 < cLine) : OpR X (compareOp .Eq) (rEqT id) := by
  intro pins s σ H x y v u Q I rx ry h
  obtain ⟨w, d, e, sub, r1, r2, ⟨hd, c⟩, q⟩ := h
  rcases Bool.or_eq_true_iff.mp c with c | c
  · obtain ⟨as, bs, ra, rb, h1, h2, h3, h4⟩ := plain_two I sub r1 r2 rx ry c
    refine PySem.SeqAt.eq_plain ra rb h1 h2 (by rw [h3]; have := Nat.min_le_left (dpD d) (toPy e).depth; omega) ?_
    rw [h4]
    exact ⟨.bl _, H, I, rfl, q⟩
  · obtain ⟨c1, c2⟩ := Bool.and_eq_true_iff.mp c
    obtain ⟨c3, c4⟩ := Bool.and_eq_true_iff.mp c1
    obtain ⟨xs, rfl⟩ := dic_ex c3
    obtain ⟨ys, rfl⟩ := dic_ex c4
    cases r1 with
    | @dic p _ us _ z r =>
    cases r2 with
    | @dic p2 _ ws _ z2 k =>
      cases (show v = Value.ref p from rx)
      cases (show u = Value.ref p2 from ry)
      obtain ⟨_, s1, va, ra, da⟩ := dk_rd I.hok (rd_of sub z)
      obtain ⟨_, s2, vb, rb, db⟩ := dk_rd I.hok (rd_of sub z2)
      have hits := eqK_run I sub xs ys X.A.in1 (by simpa [cmpD] using c2) (by simp only [dpD] at hd; show X.A.units + 1 + _ < _; omega) r k ra rb
      refine PySem.W.keq_eqIn s1 s2 da db (by omega) (fun _ => hits) ?_
      rw [← ra.length, ← rb.length, ← r.length, ← k.length]
      exact ⟨.bl _, H, I, rfl, q⟩
theorem op_neT (hu : X.A.units + 64 < cLine) : OpR X (compareOp .NotEq) (rEqT (!·)) := by
  intro pins s σ H x y v u Q I rx ry h
  obtain ⟨w, d, e, sub, r1, r2, ⟨hd, c⟩, q⟩ := h
  rcases Bool.or_eq_true_iff.mp c with c | c
  · obtain ⟨as, bs, ra, rb, h1, h2, h3, h4⟩ := plain_two I sub r1 r2 rx ry c
    refine PySem.SeqAt.ne_plain ra rb h1 h2 (by rw [h3]; have := Nat.min_le_left (dpD d) (toPy e).depth; omega) ?_
    rw [h4]
    exact ⟨.bl _, H, I, rfl, q⟩
  · obtain ⟨c1, c2⟩ := Bool.and_eq_true_iff.mp c
    obtain ⟨c3, c4⟩ := Bool.and_eq_true_iff.mp c1
    obtain ⟨xs, rfl⟩ := dic_ex c3
    obtain ⟨ys, rfl⟩ := dic_ex c4
    cases r1 with
    | @dic p _ us _ z r =>
    cases r2 with
    | @dic p2 _ ws _ z2 k =>
      cases (show v = Value.ref p from rx)
      cases (show u = Value.ref p2 from ry)
      obtain ⟨_, s1, va, ra, da⟩ := dk_rd I.hok (rd_of sub z)
      obtain ⟨_, s2, vb, rb, db⟩ := dk_rd I.hok (rd_of sub z2)
      have hits := eqK_run I sub xs ys X.A.in1 (by simpa [cmpD] using c2) (by simp only [dpD] at hd; show X.A.units + 1 + _ < _; omega) r k ra rb
      refine ne_dicts s1 s2 da db (by omega) (fun _ => hits) ?_
      rw [← ra.length, ← rb.length, ← r.length, ← k.length]
      exact ⟨.bl _, H, I, rfl, q⟩
def wEq : DOF := fun x y O Q => eqB x fun d => eqB y fun e => eqC d e ∧ Q (.d (.bl (eqvD d e))) O
def wNe : DOF := fun x y O Q => eqB x fun d => eqB y fun e => eqC d e ∧ Q (.d (.bl (!eqvD d e))) O
theorem o_eq (hu : X.A.units + 64 < cLine) : DOp X (compareOp .Eq) wEq := by
  refine ⟨_, op_eqT hu, fun w H O x y vx vy Q R ro rx ry q po => ?_⟩
  obtain ⟨d, r1, q⟩ := eqB_ok rx q
  obtain ⟨e, r2, c, q⟩ := eqB_ok ry q
  exact ⟨_, d, e, view_sub ro, r1, r2, c, po _ _ _ _ _ (Ext.refl _) ro (.d .bl) q⟩
theorem o_ne (hu : X.A.units + 64 < cLine) : DOp X (compareOp .NotEq) wNe := by
  refine ⟨_, op_neT hu, fun w H O x y vx vy Q R ro rx ry q po => ?_⟩
  obtain ⟨d, r1, q⟩ := eqB_ok rx q
  obtain ⟨e, r2, c, q⟩ := eqB_ok ry q
  exact ⟨_, d, e, view_sub ro, r1, r2, c, po _ _ _ _ _ (Ext.refl _) ro (.d .bl) q⟩

/-! ### in -/
def keyD : D → Option Key
  | .int i => some (.inl i)
  | .str x => some (.inr x)
  | _ => none
theorem keyD_ok {w d v k} (r : Rep w d v) (h : keyD d = some k) : v = kV k := by
  cases d <;> first | cases h | skip
  · cases r; rfl
  · cases r; rfl
def keyE : Key → D
  | .inl i => .int i
  | .inr x => .str x
@[simp] theorem keyD_keyE (k : Key) : keyD (keyE k) = some k := by cases k <;> rfl
theorem rep_keyE {w : Wd} (k : Key) : Rep w (keyE k) (kV k) := by cases k; exact .int; exact .str
/-- the key that a tuple is -/
def keyL : List D → Option (List Key)
  | [] => some []
  | d :: r => match keyD d, keyL r with | some k, some ks => some (k :: ks) | _, _ => none
def keyT : D → Option (List Key)
  | .tup ds => keyL ds
  | _ => none
theorem keyL_ok {w : Wd} : ∀ {ds vs ks}, Reps w ds vs → keyL ds = some ks → vs = ks.map kV
  | _, _, _, .nil, h => by cases h; rfl
  | d :: ds, _, _, .cons a r, h => by
    simp only [keyL] at h
    cases e1 : keyD d with
    | none => rw [e1] at h; cases h
    | some k =>
      cases e2 : keyL ds with
      | none => rw [e1, e2] at h; cases h
      | some ks' =>
        rw [e1, e2] at h
        cases h
        rw [keyD_ok a e1, keyL_ok r e2]
        rfl
theorem keyL_keyE : ∀ ks : List Key, keyL (ks.map keyE) = some ks
  | [] => rfl
  | k :: r => by simp [keyL, keyL_keyE r]
theorem keyT_ok {w : Wd} {H : Hp} {O : OO} {d : D} {v : V} {k : List Key} (ro : RelO w H O) (r : Rep w d v) (h : keyT d = some k) : ∃ b, v = .ref b ∧ H b = some (.tup (k.map kV)) := by
  cases d <;> first | cases h | skip
  obtain ⟨p, vs, rfl, hp, r1⟩ := tup_ok ro r
  rw [keyL_ok r1 h] at hp
  exact ⟨p, rfl, hp⟩
end
/-- a list or tuple -/
def asS (d : BV) (O : OO) : Option (List D) := match d with
  | .d (.lst ds) => some ds
  | .d (.tup ds) => some ds
  | .d (.ref a) => asLM (O a)
  | .c _ (.lst ds) => some ds
  | _ => none
theorem asS_cases {d : BV} {O : OO} {ds : List D} (h : asS d O = some ds) : d = .d (.tup ds) ∨ asL d O = some ds := by
  unfold asS at h
  split at h
  · exact .inr h
  · cases h; exact .inl rfl
  · exact .inr h
  · exact .inr h
  · cases h
theorem asS_ok {w : Wd} {H : Hp} {O : OO} {d : BV} {v : V} {ds : List D} (K : PySem.W.Frag) (ro : RelO w H O) (r : BRep w d v) (h : asS d O = some ds) : ∃ p vs, v = .ref p ∧ (SqL K H p vs ∨ SqT K H p vs) ∧ Reps w ds vs := by
  rcases asS_cases h with rfl | h
  · obtain ⟨p, vs, rfl, hp, r1⟩ := tup_ok ro r.toD
    exact ⟨p, vs, rfl, .inr (.inl (.inl hp)), r1⟩
  · obtain ⟨p, vs, rfl, hp, r1⟩ := asL_ok ro r h
    exact ⟨p, vs, rfl, .inl (.inl (.inl hp)), r1⟩
section
variable {X : Cx}
theorem RepK.val_some {w : Wd} {kvs us} {k : Key} {d : D} (r : RepK w kvs us) (h : valG kvs k = some d) : ∃ v, valV us k = some v ∧ Rep w d v := by
  have q := r.val (k := k); rw [h] at q; exact q
theorem RepK.val_none {w : Wd} {kvs us} {k : Key} (r : RepK w kvs us) (h : valG kvs k = none) : valV us k = none := by
  have q := r.val (k := k); rw [h] at q; exact q
theorem RepT.val_some {w : Wd} {kvs us} {k : List Key} {d : D} (r : RepT w kvs us) (h : valG kvs k = some d) : ∃ v, valV us k = some v ∧ Rep w d v := by
  have q := r.val (k := k); rw [h] at q; exact q
theorem RepT.val_none {w : Wd} {kvs us} {k : List Key} (r : RepT w kvs us) (h : valG kvs k = none) : valV us k = none := by
  have q := r.val (k := k); rw [h] at q; exact q
/-- what is under the key y of the dict x -/
def getQ (x : BV) (y : D) (O : OO) (Q : Option D → Prop) : Prop := (∃ kvs k, asK x O = some kvs ∧ keyD y = some k ∧ Q (valG kvs k)) ∨ ∃ kvs k, asT x O = some kvs ∧ keyT y = some k ∧ Q (valG kvs k)
theorem getQ_ok {w : Wd} {H : Hp} {O : OO} {x : BV} {y : D} {vx vy : V} {Q} (ro : RelO w H O) (rx : BRep w x vx) (ry : Rep w y vy) (h : getQ x y O Q) : ∃ a o d, vx = .ref a ∧ DGet H a vy o ∧ Q d ∧ o.isSome = d.isSome ∧ (∀ e, d = some e → ∃ v, o = some v ∧ Rep w e v) := by
  rcases h with ⟨kvs, k, h1, h2, q⟩ | ⟨kvs, k, h1, h2, q⟩
  · obtain ⟨p, us, rfl, hp, r1⟩ := asK_ok ro rx h1
    have := keyD_ok ry h2
    subst this
    refine ⟨p, valV us k, _, rfl, .inl ⟨us, k, hp, rfl, rfl⟩, q, ?_, fun e he => r1.val_some he⟩
    cases e : valG kvs k with
    | none => rw [r1.val_none e]; rfl
    | some d => obtain ⟨v, hv, _⟩ := r1.val_some e; rw [hv]; rfl
  · obtain ⟨p, us, rfl, hp, r1⟩ := asT_ok ro rx h1
    obtain ⟨b, rfl, hb⟩ := keyT_ok ro ry h2
    refine ⟨p, valV us k, _, rfl, .inr ⟨us, k, b, hp, rfl, hb, rfl⟩, q, ?_, fun e he => r1.val_some he⟩
    cases e : valG kvs k with
    | none => rw [r1.val_none e]; rfl
    | some d => obtain ⟨v, hv, _⟩ := r1.val_some e; rw [hv]; rfl
theorem op_in_dict (hu : X.A.units + 1 < cLine) : OpR X (compareOp .In) (fun y x H Q => ∃ a o, x = .ref a ∧ DGet H a y o ∧ Q (.bl o.isSome) H) := by
  intro pins s σ H y x u v Q I ry rx h
  obtain ⟨a, o, rfl, g, q⟩ := h
  obtain rfl : v = Value.ref a := rx
  exact d_in hu I g ry fun s3 I3 => ⟨.bl o.isSome, H, I3, rfl, q⟩
theorem op_notIn_dict (hu : X.A.units + 1 < cLine) : OpR X (compareOp .NotIn) (fun y x H Q => ∃ a o, x = .ref a ∧ DGet H a y o ∧ Q (.bl (!o.isSome)) H) := by
  intro pins s σ H y x u v Q I ry rx h
  obtain ⟨a, o, rfl, g, q⟩ := h
  obtain rfl : v = Value.ref a := rx
  exact d_notIn hu I g ry fun s3 I3 => ⟨.bl (!o.isSome), H, I3, rfl, q⟩
def rInT (f : Bool → Bool) : R2 := fun y x H Q => ∃ w d e ds, SubW w H ∧ Rep w d y ∧ Rep w e x ∧ (e = .lst ds ∨ e = .tup ds) ∧ pln d = true ∧ ds.all pln = true ∧ dpD d ≤ 60 ∧ Q (.bl (f (ds.any fun z => eqvD z d))) H
theorem op_inT (hu : X.A.units + 64 < cLine) : OpR X (compareOp .In) (rInT id) := by
  intro pins s σ H y x u v Q I ry rx h
  obtain ⟨w, d, e, ds, sub, r1, r2, he, h1, h2, hd, q⟩ := h
  rw [← plnL_all] at h2
  obtain ⟨a1, b1, c1⟩ := pln_ok d h1
  obtain ⟨a2, b2, _⟩ := plnL_ok ds h2
  obtain ⟨as, _, ra⟩ := reads_run (b := false) I sub (fun h => by cases h) d a1 r1 ry
  have hm : X.A.units + 1 + min (PyData.depthAll (toPyL ds)) (toPy d).depth < cLine := by have := Nat.min_le_right (PyData.depthAll (toPyL ds)) (toPy d).depth; omega
  rcases he with rfl | rfl
  · obtain ⟨bs, _, rb⟩ := reads_run (b := false) I sub (fun h => by cases h) (.lst ds) (by simpa [datD] using a2) r2 rx
    refine PySem.SeqAt.in_list_data rb ra b2 b1 hm ?_
    rw [toPyL_any d h1 ds h2]
    exact ⟨.bl _, H, I, rfl, q⟩
  · obtain ⟨bs, _, rb⟩ := reads_run (b := false) I sub (fun h => by cases h) (.tup ds) (by simpa [datD] using a2) r2 rx
    refine PySem.SeqAt.in_tuple_data rb ra b2 b1 hm ?_
    rw [toPyL_any d h1 ds h2]
    exact ⟨.bl _, H, I, rfl, q⟩
theorem op_notInT (hu : X.A.units + 64 < cLine) : OpR X (compareOp .NotIn) (rInT (!·)) := by
  intro pins s σ H y x u v Q I ry rx h
  obtain ⟨w, d, e, ds, sub, r1, r2, he, h1, h2, hd, q⟩ := h
  rw [← plnL_all] at h2
  obtain ⟨a1, b1, c1⟩ := pln_ok d h1
  obtain ⟨a2, b2, _⟩ := plnL_ok ds h2
  obtain ⟨as, _, ra⟩ := reads_run (b := false) I sub (fun h => by cases h) d a1 r1 ry
  have hm : X.A.units + 1 + min (PyData.depthAll (toPyL ds)) (toPy d).depth < cLine := by have := Nat.min_le_right (PyData.depthAll (toPyL ds)) (toPy d).depth; omega
  rcases he with rfl | rfl
  · obtain ⟨bs, _, rb⟩ := reads_run (b := false) I sub (fun h => by cases h) (.lst ds) (by simpa [datD] using a2) r2 rx
    refine PySem.SeqAt.notIn_list_data rb ra b2 b1 hm ?_
    rw [toPyL_any d h1 ds h2]
    exact ⟨.bl _, H, I, rfl, q⟩
  · obtain ⟨bs, _, rb⟩ := reads_run (b := false) I sub (fun h => by cases h) (.tup ds) (by simpa [datD] using a2) r2 rx
    refine PySem.SeqAt.notIn_tuple_data rb ra b2 b1 hm ?_
    rw [toPyL_any d h1 ds h2]
    exact ⟨.bl _, H, I, rfl, q⟩
def viewL {w : Wd} {H : Hp} {O : OO} (a : Addr) : Prop := True
/-- what `in` asks: keys of a dict, or plain items -/
def inL (ds : List D) (y : D) (Q : Bool → Prop) : Prop := pln y = true ∧ ds.all pln = true ∧ dpD y ≤ 60 ∧ Q (ds.any fun z => eqvD z y)
def inK (kvs : List (Key × D)) (y : D) (Q : Bool → Prop) : Prop := match keyD y with | some k => Q (valG kvs k).isSome | none => False
def inT (kvs : List (List Key × D)) (y : D) (Q : Bool → Prop) : Prop := match keyT y with | some k => Q (valG kvs k).isSome | none => False
def inM (y : D) (Q : Bool → Prop) : Option MO → Prop
  | some (.lst ds) => inL ds y Q
  | some (.dic kvs) => inK kvs y Q
  | some (.lkd _ _ kvs) => inK kvs y Q
  | some (.dct kvs) => inT kvs y Q
  | some (.lkt _ _ kvs) => inT kvs y Q
  | _ => False
def inD (y : D) (x : BV) (O : OO) (Q : Bool → Prop) : Prop := match x with
  | .d (.tup ds) => inL ds y Q
  | .d (.lst ds) => inL ds y Q
  | .d (.dic kvs) => inK kvs y Q
  | .d (.dct kvs) => inT kvs y Q
  | .d (.ref a) => inM y Q (O a)
  | .c _ (.lst ds) => inL ds y Q
  | .c _ (.dic kvs) => inK kvs y Q
  | .c _ (.ldic kvs) => inK kvs y Q
  | .c _ (.dct kvs) => inT kvs y Q
  | .c _ (.ldct kvs) => inT kvs y Q
  | _ => False
def wIn : DOF := fun y x O Q => isD y fun y => inD y x O fun b => Q (.d (.bl b)) O
def wNotIn : DOF := fun y x O Q => isD y fun y => inD y x O fun b => Q (.d (.bl (!b))) O
theorem inK_ok {kvs y Q} (h : inK kvs y Q) : ∃ k, keyD y = some k ∧ Q (valG kvs k).isSome := by
  unfold inK at h
  split at h
  · exact ⟨_, by assumption, h⟩
  · exact h.elim
theorem inT_ok {kvs y Q} (h : inT kvs y Q) : ∃ k, keyT y = some k ∧ Q (valG kvs k).isSome := by
  unfold inT at h
  split at h
  · exact ⟨_, by assumption, h⟩
  · exact h.elim
theorem inD_cases {y x O Q} (h : inD y x O Q) : (∃ ds, asS x O = some ds ∧ inL ds y Q) ∨ getQ x y O fun o => Q o.isSome := by
  have hk : ∀ kvs, inK kvs y Q → asK x O = some kvs → getQ x y O fun o => Q o.isSome := fun kvs h e => by
    obtain ⟨k, h1, h2⟩ := inK_ok h
    exact .inl ⟨kvs, k, e, h1, h2⟩
  have ht : ∀ kvs, inT kvs y Q → asT x O = some kvs → getQ x y O fun o => Q o.isSome := fun kvs h e => by
    obtain ⟨k, h1, h2⟩ := inT_ok h
    exact .inr ⟨kvs, k, e, h1, h2⟩
  unfold inD at h
  split at h
  · exact .inl ⟨_, rfl, h⟩
  · exact .inl ⟨_, rfl, h⟩
  · exact .inr (hk _ h rfl)
  · exact .inr (ht _ h rfl)
  · rename_i a
    unfold inM at h
    split at h
    · rename_i e; exact .inl ⟨_, by show asLM (O a) = _; rw [e]; rfl, h⟩
    · rename_i e; exact .inr (hk _ h (by show asKM (O a) = _; rw [e]; rfl))
    · rename_i e; exact .inr (hk _ h (by show asKM (O a) = _; rw [e]; rfl))
    · rename_i e; exact .inr (ht _ h (by show asTM (O a) = _; rw [e]; rfl))
    · rename_i e; exact .inr (ht _ h (by show asTM (O a) = _; rw [e]; rfl))
    · exact h.elim
  · exact .inl ⟨_, rfl, h⟩
  · exact .inr (hk _ h rfl)
  · exact .inr (hk _ h rfl)
  · exact .inr (ht _ h rfl)
  · exact .inr (ht _ h rfl)
  · exact h.elim
/-- a list or tuple that is read, as a tree of a wider view -/
theorem asS_view {w : Wd} {H : Hp} {O : OO} {d : BV} {v : V} {ds : List D} (ro : RelO w H O) (r : BRep w d v) (h : asS d O = some ds) : ∃ w', SubW w' H ∧ Le0 w w' ∧ ∃ e, Rep w' e v ∧ (e = .lst ds ∨ e = .tup ds) := by
  rcases asS_cases h with rfl | h
  · exact ⟨w, ro.sub, Le0.refl _, _, r.toD, .inr rfl⟩
  · obtain ⟨p, vs, rfl, hp, r1⟩ := asL_ok ro r h
    have l : Le0 w (w.view.put p (.frz (.lst vs))) := by
      refine ⟨fun a u e => ?_, fun a e => ?_⟩
      · by_cases ha : a = p
        · subst ha
          have := ro.frz e
          rw [hp] at this
          cases this
          exact put_same
        · rw [put_ne ha]; exact view_le.frz _ _ e
      · by_cases ha : a = p
        · subst ha
          exfalso
          cases d with
          | d d =>
            have q := r.toD
            cases q with
            | lst e' _ => rw [e] at e'; cases e'
            | ref =>
              replace h : asLM (O a) = some ds := h
              cases e2 : O a with
              | none => rw [e2] at h; cases h
              | some m => rw [ro.off _ _ e2] at e; cases e
            | _ => cases h
          | c o m =>
            cases r with
            | own e' _ => rw [e] at e'; cases e'
            | fix e' _ => rw [e] at e'; cases e'
        · rw [put_ne ha]; exact view_le.tape _ e
    refine ⟨_, fun a u e => ?_, l, .lst ds, .lst put_same (r1.mono l), .inl rfl⟩
    by_cases ha : a = p
    · subst ha; rw [put_same] at e; cases e; exact hp
    · rw [put_ne ha] at e; exact view_sub ro a u e
theorem o_in (hu : X.A.units + 64 < cLine) : DOp X (compareOp .In) wIn := by
  refine ⟨_, OpR.or (op_inT hu) (op_in_dict (by omega)), fun w H O y x vy vx Q R ro ry rx q po => ?_⟩
  obtain ⟨y, rfl, q⟩ := isD_ex q
  have fin : ∀ b, Q (.d (.bl b)) O → R (.bl b) H := fun b q => po _ _ _ _ _ (Ext.refl _) ro (.d .bl) q
  rcases inD_cases q with ⟨ds, hs, h1, h2, h3, q⟩ | h
  · obtain ⟨w', sub, l, e, re, he⟩ := asS_view ro rx hs
    exact .inl ⟨w', y, e, ds, sub, ry.toD.mono l, re, he, h1, h2, h3, fin _ q⟩
  · obtain ⟨a, o, d, rfl, g, q, e, _⟩ := getQ_ok ro rx ry.toD h
    exact .inr ⟨a, o, rfl, g, fin _ (by rw [e]; exact q)⟩
theorem o_notIn (hu : X.A.units + 64 < cLine) : DOp X (compareOp .NotIn) wNotIn := by
  refine ⟨_, OpR.or (op_notInT hu) (op_notIn_dict (by omega)), fun w H O y x vy vx Q R ro ry rx q po => ?_⟩
  obtain ⟨y, rfl, q⟩ := isD_ex q
  have fin : ∀ b, Q (.d (.bl b)) O → R (.bl b) H := fun b q => po _ _ _ _ _ (Ext.refl _) ro (.d .bl) q
  rcases inD_cases q with ⟨ds, hs, h1, h2, h3, q⟩ | h
  · obtain ⟨w', sub, l, e, re, he⟩ := asS_view ro rx hs
    exact .inl ⟨w', y, e, ds, sub, ry.toD.mono l, re, he, h1, h2, h3, fin _ q⟩
  · obtain ⟨a, o, d, rfl, g, q, e, _⟩ := getQ_ok ro rx ry.toD h
    exact .inr ⟨a, o, rfl, g, fin _ (by rw [e]; exact q)⟩
end
end VD

set_option Elab.async false
set_option linter.all false
set_option maxRecDepth 100000
/-! VD: subscripts, slices -/
namespace VD
open PySem PySem.Spec PyProof.Rows L2
theorem atI_rep {w : Wd} {ds : List D} {vs : List V} {i : Int} {d : D} (r : Reps w ds vs) (h : atI ds i = some d) : ∃ v, atI vs i = some v ∧ Rep w d v := by
  unfold atI at h ⊢
  rw [← r.length]
  cases e : ixN ds.length i with
  | none => rw [e] at h; cases h
  | some j =>
    rw [e] at h
    obtain ⟨v, h1, h2⟩ := r.get h
    exact ⟨v, h1, h2⟩
/-! ### a[i] -/
def ixL (ds : List D) (k : D) (Q : D → Prop) : Prop := match k with | .int i => ∃ d, atI ds i = some d ∧ Q d | _ => False
def ixK (kvs : List (Key × D)) (k : D) (Q : D → Prop) : Prop := match keyD k with | some k => ∃ d, valG kvs k = some d ∧ Q d | none => False
def ixT (kvs : List (List Key × D)) (k : D) (Q : D → Prop) : Prop := match keyT k with | some k => ∃ d, valG kvs k = some d ∧ Q d | none => False
def ixM (k : D) (Q : D → Prop) : Option MO → Prop
  | some (.lst ds) => ixL ds k Q
  | some (.dic kvs) => ixK kvs k Q
  | some (.lkd _ _ kvs) => ixK kvs k Q
  | some (.dct kvs) => ixT kvs k Q
  | some (.lkt _ _ kvs) => ixT kvs k Q
  | _ => False
def ixS (z : Str) (k : D) (Q : D → Prop) : Prop := match k with | .int i => z.length ≤ sizeLine ∧ ∃ c, atI z.cps.toList i = some c ∧ Q (.str ⟨#[c]⟩) | _ => False
def ixB (x : BV) (k : D) (O : OO) (Q : D → Prop) : Prop := match x with
  | .d (.tup ds) => ixL ds k Q
  | .d (.lst ds) => ixL ds k Q
  | .d (.dic kvs) => ixK kvs k Q
  | .d (.dct kvs) => ixT kvs k Q
  | .d (.str z) => ixS z k Q
  | .d (.ref a) => ixM k Q (O a)
  | .c _ (.lst ds) => ixL ds k Q
  | .c _ (.dic kvs) => ixK kvs k Q
  | .c _ (.ldic kvs) => ixK kvs k Q
  | .c _ (.dct kvs) => ixT kvs k Q
  | .c _ (.ldct kvs) => ixT kvs k Q
  | _ => False
def wIx : DOF := fun x k O Q => isD k fun k => ixB x k O fun d => Q (.d d) O
theorem ixL_ex {ds k Q} (h : ixL ds k Q) : ∃ i d, k = .int i ∧ atI ds i = some d ∧ Q d := by
  unfold ixL at h
  split at h
  · obtain ⟨d, h1, h2⟩ := h; exact ⟨_, d, rfl, h1, h2⟩
  · exact h.elim
theorem ixB_cases {x k O Q} (h : ixB x k O Q) : (∃ ds i d, asS x O = some ds ∧ k = .int i ∧ atI ds i = some d ∧ Q d) ∨ (getQ x k O fun o => ∃ d, o = some d ∧ Q d) ∨
    (∃ z i c, x = .d (.str z) ∧ k = .int i ∧ z.length ≤ sizeLine ∧ atI z.cps.toList i = some c ∧ Q (.str ⟨#[c]⟩)) := by
  have hl : ∀ ds, ixL ds k Q → asS x O = some ds → (∃ ds i d, asS x O = some ds ∧ k = .int i ∧ atI ds i = some d ∧ Q d) := fun ds h e => by
    obtain ⟨i, d, h1, h2, h3⟩ := ixL_ex h
    exact ⟨ds, i, d, e, h1, h2, h3⟩
  have hk : ∀ kvs, ixK kvs k Q → asK x O = some kvs → getQ x k O fun o => ∃ d, o = some d ∧ Q d := fun kvs h e => by
    unfold ixK at h
    split at h
    · rename_i k' hk'; exact .inl ⟨kvs, k', e, hk', h⟩
    · exact h.elim
  have ht : ∀ kvs, ixT kvs k Q → asT x O = some kvs → getQ x k O fun o => ∃ d, o = some d ∧ Q d := fun kvs h e => by
    unfold ixT at h
    split at h
    · rename_i k' hk'; exact .inr ⟨kvs, k', e, hk', h⟩
    · exact h.elim
  unfold ixB at h
  split at h
  · exact .inl (hl _ h rfl)
  · exact .inl (hl _ h rfl)
  · exact .inr (.inl (hk _ h rfl))
  · exact .inr (.inl (ht _ h rfl))
  · unfold ixS at h
    split at h
    · obtain ⟨h1, c, h2, h3⟩ := h
      exact .inr (.inr ⟨_, _, c, rfl, rfl, h1, h2, h3⟩)
    · exact h.elim
  · rename_i a
    unfold ixM at h
    split at h
    · rename_i e; exact .inl (hl _ h (by show asLM (O a) = _; rw [e]; rfl))
    · rename_i e; exact .inr (.inl (hk _ h (by show asKM (O a) = _; rw [e]; rfl)))
    · rename_i e; exact .inr (.inl (hk _ h (by show asKM (O a) = _; rw [e]; rfl)))
    · rename_i e; exact .inr (.inl (ht _ h (by show asTM (O a) = _; rw [e]; rfl)))
    · rename_i e; exact .inr (.inl (ht _ h (by show asTM (O a) = _; rw [e]; rfl)))
    · exact h.elim
  · exact .inl (hl _ h rfl)
  · exact .inr (.inl (hk _ h rfl))
  · exact .inr (.inl (hk _ h rfl))
  · exact .inr (.inl (ht _ h rfl))
  · exact .inr (.inl (ht _ h rfl))
  · exact h.elim
/-- a[y] of a dict by values -/
theorem ix_dict {X : Cx} (hu : X.A.units + 1 < cLine) : IxR X (fun x y H Q => ∃ a v, x = .ref a ∧ DGet H a y (some v) ∧ Q v H) := by
  intro value slice pins s σ H x y v u Q I rx ry h hs
  obtain ⟨a, r, rfl, g, q⟩ := h
  obtain rfl : v = Value.ref a := rx
  exact tail_any (dict_typeIs I g) PySem.F.slot_dict_getitem.lookup (d_getItem hu I g ry fun w' s' I' rw' => ⟨r, H, I', rw', q⟩) hs
section
variable {X : Cx} {P : PX} {pos : Pos} {a b : Expr} {Wa Wb : WE}
theorem de_ix (hu : X.A.units + 1 < cLine) (ha : DE X P a Wa) (hb : DE X P b Wb) (hs : PlainIx b := by exact fun _ _ => rfl) : DE X P (.Subscript a b pos) (wOp wIx Wa Wb) := by
  obtain ⟨ta, pa, ha⟩ := ha.ex
  obtain ⟨tb, pb, hb⟩ := hb.ex
  refine ⟨_, pe_ix (ix_seq.or (ix_dict hu)) pa pb hs, fun w σ s H O Q R rs ro w po => ?_⟩
  refine ha _ _ _ _ _ _ _ rs ro w fun v H1 Z1 d O1 s1 r1 e1 w1 => ?_
  refine hb _ _ _ _ _ _ _ (rs.mono s1) r1 w1 fun u H2 Z2 e O2 s2 r2 e2 w2 => ?_
  have po2 := po.mono (s1.trans s2)
  obtain ⟨e, rfl, w2⟩ := isD_ex w2
  rcases ixB_cases w2 with ⟨ds, i, x, hd, rfl, hi, q⟩ | h | ⟨z, i, c, rfl, rfl, hz, hc, q⟩
  · obtain ⟨p, vs, rfl, hp, r⟩ := asS_ok X.K r2 (e1.mono s2) hd
    obtain ⟨w, hw, rw'⟩ := atI_rep r hi
    cases e2.toD
    have fin := po2 _ _ _ _ _ (Ext.refl _) r2 (.d rw') q
    rcases hp with hp | hp
    · exact .inl (.inl ⟨p, vs, i, w, rfl, rfl, hp, hw, fin⟩)
    · exact .inl (.inr (.inl ⟨p, vs, i, w, rfl, rfl, hp, hw, fin⟩))
  · obtain ⟨p, o, d, rfl, g, ⟨d', rfl, q⟩, _, hv⟩ := getQ_ok r2 (e1.mono s2) e2.toD h
    obtain ⟨v, rfl, rv⟩ := hv _ rfl
    exact .inr ⟨p, v, rfl, g, po2 _ _ _ _ _ (Ext.refl _) r2 (.d rv) q⟩
  · cases e2.toD
    cases (e1.mono s2).toD
    exact .inl (.inr (.inr ⟨z, i, c, rfl, rfl, hz, hc, po2 _ _ _ _ _ (Ext.refl _) r2 (.d .str) q⟩))
end
/-! ### slices -/
abbrev WO := SD → OO → (Option Int → OO → Prop) → Prop
structure DO (X : Cx) (P : PX) (e : Option Expr) (W : WO) : Prop where
  ex : ∃ t, PO X e t ∧ ∀ w σ s H O Q (R : Option Int → Hp → Prop), RelS P w σ s → RelO w H O → W s O Q → (∀ i H' w' O', Ext w w' → RelO w' H' O' → Q i O' → R i H') → t σ H R
def wNoP : WO := fun _ O Q => Q none O
def intQ (x : BV) (Q : Int → Prop) : Prop := match x with | .d (.int i) => Q i | _ => False
theorem intQ_ex {x Q} (h : intQ x Q) : ∃ i, x = .d (.int i) ∧ Q i := by
  unfold intQ at h
  split at h
  · exact ⟨_, rfl, h⟩
  · exact h.elim
def wPart (W : WE) : WO := fun s O Q => W s O fun d O1 => intQ d fun i => Q (some i) O1
def cutD (xs : List D) (lo hi : Option Int) : List D := (xs.drop (HT.sIx xs.length 0 lo)).take (HT.sIx xs.length xs.length hi - HT.sIx xs.length 0 lo)
def slD (d : BV) (lo hi : Option Int) (O : OO) (Q : BV → OO → Prop) : Prop := match d with
  | .d (.tup ds) => Q (.d (.tup (cutD ds lo hi))) O
  | .d (.str z) => z.length ≤ sizeLine ∧ Q (.d (.str (cutS z lo hi))) O
  | x => ∃ ds, asL x O = some ds ∧ Q (.d (.lst (cutD ds lo hi))) O
def wSl (Wo : WE) (Wl Wh : WO) : WE := fun s O Q => Wo s O fun d O1 => Wl s O1 fun l O2 => Wh s O2 fun h O3 => slD d l h O3 Q
def wSlN (Wo : WE) (Wl Wh : WO) : WN := fun s O Q => Wo s O fun d O1 => Wl s O1 fun l O2 => Wh s O2 fun h O3 => ∃ ds, asL d O3 = some ds ∧ Q (.lst (cutD ds l h)) O3
theorem slD_cases {d lo hi O Q} (h : slD d lo hi O Q) : (∃ ds, asL d O = some ds ∧ Q (.d (.lst (cutD ds lo hi))) O) ∨ (∃ ds, d = .d (.tup ds) ∧ Q (.d (.tup (cutD ds lo hi))) O) ∨ ∃ z, d = .d (.str z) ∧ z.length ≤ sizeLine ∧ Q (.d (.str (cutS z lo hi))) O := by
  unfold slD at h
  split at h
  · exact .inr (.inl ⟨_, rfl, h⟩)
  · exact .inr (.inr ⟨_, rfl, h⟩)
  · exact .inl h
theorem Reps.cut {w : Wd} {ds vs} (r : Reps w ds vs) (lo hi : Option Int) : Reps w (cutD ds lo hi) (cutV vs lo hi) := by
  unfold cutD cutV
  rw [r.length]
  exact (r.drop _).take _
section
variable {X : Cx} {P : PX} {pos p2 : Pos} {e : Expr} {lo hi : Option Expr} {We : WE} {Wl Wh : WO}
theorem do_none : DO X P none wNoP := ⟨_, po_none, fun w σ s H O Q R rs ro q po => po _ _ _ _ (Ext.refl _) ro q⟩
theorem do_some (he : DE X P e We) : DO X P (some e) (wPart We) := by
  obtain ⟨t, q, h⟩ := he.ex
  refine ⟨_, po_some q, fun w σ s H O Q R rs ro w po => ?_⟩
  refine h _ _ _ _ _ _ _ rs ro w fun v H1 Z1 d O1 s1 r1 e1 w1 => ?_
  obtain ⟨i, rfl, q⟩ := intQ_ex w1
  cases e1.toD
  exact ⟨i, rfl, po _ _ _ _ s1 r1 q⟩
theorem de_sl (he : DE X P e We) (hl : DO X P lo Wl) (hh : DO X P hi Wh) : DE X P (.Subscript e (.Slice lo hi none p2) pos) (wSl We Wl Wh) := by
  obtain ⟨te, qe, he⟩ := he.ex
  obtain ⟨tl, ql, hl⟩ := hl.ex
  obtain ⟨th, qh, hh⟩ := hh.ex
  refine ⟨_, pe_slice (sl_list.or (sl_tupA.or sl_str)) qe ql qh, fun w σ s H O Q R rs ro w po => ?_⟩
  refine he _ _ _ _ _ _ _ rs ro w fun v H1 Z1 d O1 s1 r1 e1 w1 => ?_
  refine hl _ _ _ _ _ _ _ (rs.mono s1) r1 w1 fun l H2 Z2 O2 s2 r2 w2 => ?_
  refine hh _ _ _ _ _ _ _ (rs.mono (s1.trans s2)) r2 w2 fun h H3 Z3 O3 s3 r3 w3 => ?_
  have e3 := e1.mono (s2.trans s3)
  have po3 := po.mono (s1.trans (s2.trans s3))
  rcases slD_cases w3 with ⟨ds, hd, q⟩ | ⟨ds, rfl, q⟩ | ⟨z, rfl, hz, q⟩
  · obtain ⟨p, vs, rfl, hp, rv⟩ := asL_ok r3 e3 hd
    refine .inl ⟨p, vs, rfl, .inl (.inl hp), fun a ha => ?_⟩
    obtain ⟨s4, r4⟩ := r3.newZ (u := .lst (cutV vs l h)) ha
    exact po3 _ _ _ _ _ s4 r4 (.d (.lst put_same ((rv.cut l h).mono s4.l))) q
  · obtain ⟨p, vs, rfl, hp, rv⟩ := tup_ok r3 e3.toD
    refine .inr (.inl ⟨p, vs, rfl, .inl (.inl hp), fun hw => ?_, fun _ a ha => ?_⟩)
    · have ec : cutD ds l h = ds := by
        unfold cutD
        rw [rv.length, hw.1, hw.2, List.drop_zero, Nat.sub_zero, ← rv.length, List.take_length]
      rw [ec] at q
      exact po3 _ _ _ _ _ (Ext.refl _) r3 e3 q
    · obtain ⟨s4, r4⟩ := r3.newZ (u := .tup (cutV vs l h)) ha
      exact po3 _ _ _ _ _ s4 r4 (.d (.tup put_same ((rv.cut l h).mono s4.l))) q
  · cases e3.toD
    exact .inr (.inr ⟨z, rfl, hz, po3 _ _ _ _ _ (Ext.refl _) r3 (.d .str) q⟩)
theorem dn_sl (he : DE X P e We) (hl : DO X P lo Wl) (hh : DO X P hi Wh) : DN X P (.Subscript e (.Slice lo hi none p2) pos) (wSlN We Wl Wh) := by
  obtain ⟨te, qe, he⟩ := he.ex
  obtain ⟨tl, ql, hl⟩ := hl.ex
  obtain ⟨th, qh, hh⟩ := hh.ex
  refine ⟨_, pe_slice sl_list qe ql qh, fun w σ s H O Q R rs ro w po => ?_⟩
  refine he _ _ _ _ _ _ _ rs ro w fun v H1 Z1 d O1 s1 r1 e1 w1 => ?_
  refine hl _ _ _ _ _ _ _ (rs.mono s1) r1 w1 fun l H2 Z2 O2 s2 r2 w2 => ?_
  refine hh _ _ _ _ _ _ _ (rs.mono (s1.trans s2)) r2 w2 fun h H3 Z3 O3 s3 r3 w3 => ?_
  have e3 := e1.mono (s2.trans s3)
  obtain ⟨ds, hd, q⟩ := w3
  obtain ⟨p, vs, rfl, hp, rv⟩ := asL_ok r3 e3 hd
  refine ⟨p, vs, rfl, .inl (.inl hp), fun a ha => ?_⟩
  exact po a _ _ _ (.lst (cutD ds l h)) _ (s1.trans (s2.trans s3)) (r3.newC ha) (r3.freeW ha) (r3.free ha) upd_same ⟨_, rfl, rv.cut l h⟩ q
end
end VD

set_option Elab.async false
set_option linter.all false
set_option maxRecDepth 100000
/-! VD: built-ins that are called -/
namespace VD
open PySem PySem.Spec PyProof.Rows L2

def wCB (o : DLF) (W : WA) : WE := fun s O Q => W s O fun ds O1 => o ds O1 Q
def wCN (o : NLF) (W : WA) : WN := fun s O Q => W s O fun ds O1 => o ds O1 Q
section
variable {X : Cx} {P : PX} {pos p : Pos} {x : Str} {e : Expr} {es : List Expr} {W : WA} {o : DLF} {on : NLF}
theorem de_cb {id : String} (h : DCall X (.builtin id) o) (hg : Gl X x) (hm : X.mg x = none) (hv : bootBuiltins x = some (.builtin id)) (ha : DA X P (e :: es) W) (hn : x ≠ "__name__" := by decide) (hdb : (x == ("__debug__" : Str)) = false := by decide)
    (he : starEach (e :: es) X.env = (false, eval e X.env) :: starEach es X.env := by rfl) (hpl : (backTo pos (starEach es X.env)).any (·.1) = false := by rfl) : DE X P (.Call (.Name x p) (e :: es) [] pos) (wCB o W) := by
  obtain ⟨r, q, h⟩ := h.ex
  obtain ⟨t, pa, ha⟩ := ha.ex
  refine ⟨_, pe_callB q hg hm hv pa hn hdb he hpl, fun w σ s H O Q R rs ro w po => ?_⟩
  exact ha _ _ _ _ _ _ _ rs ro w fun vs H1 Z1 ds O1 l1 s1 r1 e1 w1 => h _ _ _ _ _ _ _ r1 e1 w1 (po.mono s1)
theorem dn_cb {id : String} (h : NCall X (.builtin id) on) (hg : Gl X x) (hm : X.mg x = none) (hv : bootBuiltins x = some (.builtin id)) (ha : DA X P (e :: es) W) (hn : x ≠ "__name__" := by decide) (hdb : (x == ("__debug__" : Str)) = false := by decide)
    (he : starEach (e :: es) X.env = (false, eval e X.env) :: starEach es X.env := by rfl) (hpl : (backTo pos (starEach es X.env)).any (·.1) = false := by rfl) : DN X P (.Call (.Name x p) (e :: es) [] pos) (wCN on W) := by
  obtain ⟨r, q, h⟩ := h.ex
  obtain ⟨t, pa, ha⟩ := ha.ex
  refine ⟨_, pe_callB q hg hm hv pa hn hdb he hpl, fun w σ s H O Q R rs ro w po => ?_⟩
  exact ha _ _ _ _ _ _ _ rs ro w fun vs H1 Z1 ds O1 l1 s1 r1 e1 w1 => h _ _ _ _ _ _ _ r1 e1 w1 (po.mono s1)
theorem de_ct {T : String} (h : DCall X (.type T) o) (hg : Gl X x) (hm : X.mg x = none) (hv : bootBuiltins x = some (.type T)) (ha : DA X P (e :: es) W) (hn : x ≠ "__name__" := by decide) (hdb : (x == ("__debug__" : Str)) = false := by decide)
    (he : starEach (e :: es) X.env = (false, eval e X.env) :: starEach es X.env := by rfl) (hpl : (backTo pos (starEach es X.env)).any (·.1) = false := by rfl) : DE X P (.Call (.Name x p) (e :: es) [] pos) (wCB o W) := by
  obtain ⟨r, q, h⟩ := h.ex
  obtain ⟨t, pa, ha⟩ := ha.ex
  refine ⟨_, pe_callTy q hg hm hv pa hn hdb he hpl, fun w σ s H O Q R rs ro w po => ?_⟩
  exact ha _ _ _ _ _ _ _ rs ro w fun vs H1 Z1 ds O1 l1 s1 r1 e1 w1 => h _ _ _ _ _ _ _ r1 e1 w1 (po.mono s1)
theorem dn_ct {T : String} (h : NCall X (.type T) on) (hg : Gl X x) (hm : X.mg x = none) (hv : bootBuiltins x = some (.type T)) (ha : DA X P (e :: es) W) (hn : x ≠ "__name__" := by decide) (hdb : (x == ("__debug__" : Str)) = false := by decide)
    (he : starEach (e :: es) X.env = (false, eval e X.env) :: starEach es X.env := by rfl) (hpl : (backTo pos (starEach es X.env)).any (·.1) = false := by rfl) : DN X P (.Call (.Name x p) (e :: es) [] pos) (wCN on W) := by
  obtain ⟨r, q, h⟩ := h.ex
  obtain ⟨t, pa, ha⟩ := ha.ex
  refine ⟨_, pe_callTy q hg hm hv pa hn hdb he hpl, fun w σ s H O Q R rs ro w po => ?_⟩
  exact ha _ _ _ _ _ _ _ rs ro w fun vs H1 Z1 ds O1 l1 s1 r1 e1 w1 => h _ _ _ _ _ _ _ r1 e1 w1 (po.mono s1)
end
def w1 (f : DUF) : DLF := fun ds O Q => match ds with | [d] => f d O Q | _ => False
def w2 (f : DOF) : DLF := fun ds O Q => match ds with | [d, e] => f d e O Q | _ => False
def n1 (f : BV → OO → (CM → OO → Prop) → Prop) : NLF := fun ds O Q => match ds with | [d] => f d O Q | _ => False
theorem one_ex {ds : List BV} {O Q} {f : DUF} (h : w1 f ds O Q) : ∃ d, ds = [d] ∧ f d O Q := by
  match ds, h with
  | [d], h => exact ⟨d, rfl, h⟩
theorem two_ex {ds : List BV} {O Q} {f : DOF} (h : w2 f ds O Q) : ∃ d e, ds = [d, e] ∧ f d e O Q := by
  match ds, h with
  | [d, e], h => exact ⟨d, e, rfl, h⟩
theorem n1_ex {ds : List BV} {O Q} {f} (h : n1 f ds O Q) : ∃ d, ds = [d] ∧ f d O Q := by
  match ds, h with
  | [d], h => exact ⟨d, rfl, h⟩
theorem BReps.one_ex {w d vs} (r : BReps w [d] vs) : ∃ v, vs = [v] ∧ BRep w d v := by
  cases r with
  | cons a r => cases r; exact ⟨_, rfl, a⟩
theorem BReps.two_ex {w d e vs} (r : BReps w [d, e] vs) : ∃ v u, vs = [v, u] ∧ BRep w d v ∧ BRep w e u := by
  cases r with
  | cons a r =>
    obtain ⟨u, rfl, b⟩ := BReps.one_ex r
    exact ⟨_, _, rfl, a, b⟩
theorem Reps.one_ex {w d vs} (r : Reps w [d] vs) : ∃ v, vs = [v] ∧ Rep w d v := by
  cases r with
  | cons a r => cases r; exact ⟨_, rfl, a⟩
/-! ### len -/
def lenM (Q : Nat → Prop) : Option MO → Prop
  | some (.lst ds) => Q ds.length
  | some (.dic kvs) => Q kvs.length
  | some (.lkd _ _ kvs) => Q kvs.length
  | some (.dct kvs) => Q kvs.length
  | some (.lkt _ _ kvs) => Q kvs.length
  | _ => False
def lenD (d : BV) (O : OO) (Q : Nat → Prop) : Prop := match d with
  | .d (.str y) => y.length ≤ sizeLine ∧ Q y.length
  | .d (.tup ds) => Q ds.length
  | .d (.lst ds) => Q ds.length
  | .d (.dic kvs) => Q kvs.length
  | .d (.dct kvs) => Q kvs.length
  | .d (.ref a) => lenM Q (O a)
  | .c _ (.lst ds) => Q ds.length
  | .c _ (.dic kvs) => Q kvs.length
  | .c _ (.ldic kvs) => Q kvs.length
  | .c _ (.dct kvs) => Q kvs.length
  | .c _ (.ldct kvs) => Q kvs.length
  | _ => False
def wLen : DLF := w1 fun d O Q => lenD d O fun n => Q (.d (.int n)) O
theorem lenD_cases {d O Q} (h : lenD d O Q) : (∃ y, d = .d (.str y) ∧ y.length ≤ sizeLine ∧ Q y.length) ∨ (∃ ds, asS d O = some ds ∧ Q ds.length) ∨ (∃ kvs, asK d O = some kvs ∧ Q kvs.length) ∨ ∃ kvs, asT d O = some kvs ∧ Q kvs.length := by
  unfold lenD at h
  split at h
  · exact .inl ⟨_, rfl, h⟩
  · exact .inr (.inl ⟨_, rfl, h⟩)
  · exact .inr (.inl ⟨_, rfl, h⟩)
  · exact .inr (.inr (.inl ⟨_, rfl, h⟩))
  · exact .inr (.inr (.inr ⟨_, rfl, h⟩))
  · rename_i a
    unfold lenM at h
    split at h
    · rename_i e; exact .inr (.inl ⟨_, by show asLM (O a) = _; rw [e]; rfl, h⟩)
    · rename_i e; exact .inr (.inr (.inl ⟨_, by show asKM (O a) = _; rw [e]; rfl, h⟩))
    · rename_i e; exact .inr (.inr (.inl ⟨_, by show asKM (O a) = _; rw [e]; rfl, h⟩))
    · rename_i e; exact .inr (.inr (.inr ⟨_, by show asTM (O a) = _; rw [e]; rfl, h⟩))
    · rename_i e; exact .inr (.inr (.inr ⟨_, by show asTM (O a) = _; rw [e]; rfl, h⟩))
    · exact h.elim
  · exact .inr (.inl ⟨_, rfl, h⟩)
  · exact .inr (.inr (.inl ⟨_, rfl, h⟩))
  · exact .inr (.inr (.inl ⟨_, rfl, h⟩))
  · exact .inr (.inr (.inr ⟨_, rfl, h⟩))
  · exact .inr (.inr (.inr ⟨_, rfl, h⟩))
  · exact h.elim
theorem call_lenRdT {X : Cx} : CallR X (.builtin "len") (fun xs H Q => ∃ a kvs, xs = [V.ref a] ∧ Rd H a (.dT kvs) ∧ Q (.int kvs.length) H) := by
  rintro own s σ H xs us Q J rel ⟨a, kvs, rfl, e, q⟩
  obtain ⟨u, rfl, ru⟩ := vals1 rel
  cases (show u = Value.ref a from ru)
  obtain ⟨z, hd, ys, kt, dd⟩ := dt_rd J.hok e
  have len : kvs.length = ys.length := Paired.length kt
  refine call_len_dictH hd dd (by rw [← len]; rw [sizeLine_eq] at z; omega) ?_
  rw [← len]
  exact ⟨.int kvs.length, H, J.tok _, ⟨_, rfl⟩, q⟩
theorem call_lenRd {X : Cx} : CallR X (.builtin "len") (fun xs H Q => ∃ a kvs, xs = [V.ref a] ∧ Rd H a (.dK kvs) ∧ Q (.int kvs.length) H) := by
  intro pins s σ H xs us Q I r h
  obtain ⟨a, kvs, rfl, e, q⟩ := h
  obtain ⟨u, rfl, ru⟩ := vals1 r
  obtain rfl : u = Value.ref a := ru
  exact d_len I e fun t s' I' => ⟨.int kvs.length, H, I', ⟨t, rfl⟩, q⟩
section
variable {X : Cx}
theorem c_len : DCall X (.builtin "len") wLen := by
  refine ⟨_, CallR.or (CallR.or call_len call_lenRd) call_lenRdT, fun w H O ds vs Q R ro rr q po => ?_⟩
  obtain ⟨d, rfl, q⟩ := one_ex q
  obtain ⟨v, rfl, r⟩ := rr.one_ex
  rcases lenD_cases (Q := fun n => Q (.d (.int n)) O) q with ⟨y, rfl, hl, q⟩ | ⟨es, he, q⟩ | ⟨kvs, hk, q⟩ | ⟨kvs, hd, q⟩
  · cases r.toD
    exact .inl (.inl ⟨_, _, rfl, ⟨hl, rfl⟩, po _ _ _ _ _ (Ext.refl _) ro (.d .int) q⟩)
  · obtain ⟨p, ws, rfl, hp, r1⟩ := asS_ok X.K ro r he
    refine .inl (.inl ⟨_, ws.length, rfl, ?_, ?_⟩)
    · exact hp.elim (fun h => .inl ⟨_, h, rfl⟩) fun h => .inr ⟨_, h, rfl⟩
    · rw [← r1.length]
      exact po _ _ _ _ _ (Ext.refl _) ro (.d .int) q
  · obtain ⟨p, us, rfl, hp, r1⟩ := asK_ok ro r hk
    refine .inl (.inr ⟨_, us, rfl, hp, ?_⟩)
    rw [← r1.length]
    exact po _ _ _ _ _ (Ext.refl _) ro (.d .int) q
  · obtain ⟨p, us, rfl, hp, r1⟩ := asT_ok ro r hd
    refine .inr ⟨_, us, rfl, hp, ?_⟩
    rw [← r1.length]
    exact po _ _ _ _ _ (Ext.refl _) ro (.d .int) q

/-! ### int, abs, max, min -/
def wInt1 : DLF := fun ds O Q => match ds with | [.d (.int i)] => Q (.d (.int i)) O | [.d (.bl b)] => Q (.d (.int (if b then 1 else 0))) O | _ => False
theorem c_int : DCall X (.type "int") wInt1 := by
  refine ⟨_, call_int1, fun w H O ds vs Q R ro rr q po => ?_⟩
  unfold wInt1 at q
  split at q
  · obtain ⟨v, rfl, r⟩ := rr.one_ex
    cases r.toD
    exact .inl ⟨_, rfl, po _ _ _ _ _ (Ext.refl _) ro (.d .int) q⟩
  · obtain ⟨v, rfl, r⟩ := rr.one_ex
    cases r.toD
    exact .inr ⟨_, rfl, po _ _ _ _ _ (Ext.refl _) ro (.d .int) q⟩
  · exact q.elim
def wAbs : DLF := fun ds O Q => match ds with | [.d (.int i)] => Q (.d (.int (if i < 0 then -i else i))) O | _ => False
theorem c_abs : DCall X (.builtin "abs") wAbs := by
  refine ⟨_, call_abs, fun w H O ds vs Q R ro rr q po => ?_⟩
  unfold wAbs at q
  split at q
  · obtain ⟨v, rfl, r⟩ := rr.one_ex
    cases r.toD
    exact ⟨_, rfl, po _ _ _ _ _ (Ext.refl _) ro (.d .int) q⟩
  · exact q.elim

/-! ### isinstance -/
def tyL : List String := ["NoneType", "bool", "int", "str", "list", "tuple", "dict"]
def isaB (t c : String) : Bool := t == c || (t == "bool" && c == "int")
theorem isa_ok (K : PySem.W.Frag) : ∀ t ∈ tyL, ∀ c ∈ ["bool", "int", "str", "list", "tuple", "dict"], PySem.W.kitOne K (.type t) (.type c) = some (isaB t c) := by
  intro t ht c hc
  simp only [tyL, List.mem_cons, List.mem_nil_iff, or_false] at ht hc
  rcases ht with rfl | rfl | rfl | rfl | rfl | rfl | rfl <;> rcases hc with rfl | rfl | rfl | rfl | rfl | rfl <;> rfl
def tyM : Option MO → Option String
  | some (.lst _) => some "list"
  | some (.dic _) => some "dict"
  | some (.dct _) => some "dict"
  | some (.lkd _ _ _) => some "dict"
  | some (.lkt _ _ _) => some "dict"
  | _ => none
def tyD (d : BV) (O : OO) : Option String := match d with
  | .d .non => some "NoneType"
  | .d (.bl _) => some "bool"
  | .d (.int _) => some "int"
  | .d (.str _) => some "str"
  | .d (.tup _) => some "tuple"
  | .d (.lst _) => some "list"
  | .d (.dic _) => some "dict"
  | .d (.dct _) => some "dict"
  | .d (.ref a) => tyM (O a)
  | .c _ (.lst _) => some "list"
  | .c _ _ => some "dict"
  | _ => none
/-- is x a frozen dict with tuple keys -/
def FDT (H : Hp) (v : V) : Prop := ∃ a o kvs, v = .ref a ∧ H a = some (.frz o (.dT kvs))
theorem call_isiT {X : Cx} : CallR X (.builtin "isinstance") (fun xs H Q => ∃ v c b, xs = [v, .ty c] ∧ FDT H v ∧ PySem.W.kitOne X.K (.type "dict") (.type c) = some b ∧ Q (.bl b) H) := by
  intro pins s σ H xs us Q I r h
  obtain ⟨_, c, b, rfl, ⟨a, o, kvs, rfl, ea⟩, e, q⟩ := h
  cases r with
  | cons rx rr =>
    obtain ⟨u, rfl, rt⟩ := vals1 rr
    cases rx
    cases rt
    obtain ⟨_, _, _, xs, _, o', es, ep, h1, h2, _⟩ := (show ObjOk X.prog X.w H s.heap a (.frz o (.dT kvs)) from I.hok a _ ea)
    exact PySem.W.kia_one PySem.W.kitx_dict I.kIn ⟨o', h1, h2.1⟩ e (fun z => nomatch z) fun tk => ⟨.bl b, H, I.kept (t' := tk) fun _ _ z => z, rfl, q⟩
theorem tyD_ok {w : Wd} {H : Hp} {O : OO} {d : BV} {v : V} {t : String} {K : PySem.W.Frag} (ro : RelO w H O) (r : BRep w d v) (h : tyD d O = some t) : (TyX K H v (.type t) ∧ t ∈ tyL) ∨ (FDT H v ∧ t = "dict") := by
  cases d with
  | c o m =>
    obtain ⟨p, u, rfl, hp, c⟩ := r.cell ro
    cases m with
    | lst ds => cases h; obtain ⟨vs, rfl, _⟩ := c; exact .inl ⟨.base (.lst hp), by decide⟩
    | dic ds => cases h; obtain ⟨vs, rfl, _⟩ := c; exact .inl ⟨.base (.dK hp), by decide⟩
    | dct ds => cases h; obtain ⟨vs, rfl, _⟩ := c; exact .inl ⟨.base (.dT hp), by decide⟩
    | ldic ds => cases h; obtain ⟨o, vs, rfl, _⟩ := c; exact .inl ⟨.fDict hp, by decide⟩
    | ldct ds => cases h; obtain ⟨o, vs, rfl, _⟩ := c; exact .inr ⟨⟨_, _, _, rfl, hp⟩, rfl⟩
  | d d =>
    have r := r.toD
    rename_i r0
    clear r0
    cases r with
    | non => cases h; exact .inl ⟨.base .non, by decide⟩
    | bl => cases h; exact .inl ⟨.base (.bl _), by decide⟩
    | int => cases h; exact .inl ⟨.base (.int _), by decide⟩
    | str => cases h; exact .inl ⟨.base (.str _), by decide⟩
    | tup e r => cases h; exact .inl ⟨.base (.tup (ro.frz e)), by decide⟩
    | lst e r => cases h; exact .inl ⟨.base (.lst (ro.frz e)), by decide⟩
    | dic e r => cases h; exact .inl ⟨.fDict (ro.frz e), by decide⟩
    | dct e r => cases h; exact .inr ⟨⟨_, _, _, rfl, ro.frz e⟩, rfl⟩
    | @ref a =>
      replace h : tyM (O a) = some t := h
      cases e : O a with
      | none => rw [e] at h; cases h
      | some m =>
        rw [e] at h
        have q := ro.own _ _ e
        cases m with
        | lst ds => cases h; obtain ⟨vs, q, _⟩ := q; exact .inl ⟨.base (.lst q), by decide⟩
        | dic ds => cases h; obtain ⟨vs, q, _⟩ := q; exact .inl ⟨.base (.dK q), by decide⟩
        | dct ds => cases h; obtain ⟨vs, q, _⟩ := q; exact .inl ⟨.base (.dT q), by decide⟩
        | lkd _ _ ds => cases h; obtain ⟨q, _⟩ := q; exact .inl ⟨.fDict q, by decide⟩
        | lkt _ _ ds => cases h; obtain ⟨hp, _⟩ := q; exact .inr ⟨⟨_, _, _, rfl, hp⟩, rfl⟩
        | _ => cases h
    | _ => cases h

def tyN : List String := ["bool", "int", "str", "list", "tuple", "dict"]
def isaQ (t : Option String) (c : String) (Q : Bool → Prop) : Prop := match t with | some t => c ∈ tyN ∧ Q (isaB t c) | none => False
/-- one class, or a tuple of classes -/
def wIsi : DLF := fun ds O Q => match ds with | [x, .d (.ty c)] => isaQ (tyD x O) c fun b => Q (.d (.bl b)) O | _ => False
theorem c_isi : DCall X (.builtin "isinstance") wIsi := by
  refine ⟨_, CallR.or call_isi call_isiT, fun w H O ds vs Q R ro rr q po => ?_⟩
  unfold wIsi at q
  split at q
  · rename_i x c
    obtain ⟨v, u, rfl, rx, rc⟩ := rr.two_ex
    cases rc.toD
    unfold isaQ at q
    split at q
    · rename_i t e
      obtain ⟨hc, q⟩ := q
      have fin := po _ _ _ _ _ (Ext.refl _) ro (.d .bl) q
      rcases tyD_ok (K := X.K) ro rx e with ⟨ht, hm⟩ | ⟨hf, rfl⟩
      · exact .inl ⟨_, _, _, _, _, rfl, .ty _, ht, isa_ok X.K _ hm c hc, fin⟩
      · exact .inr ⟨_, _, _, rfl, hf, isa_ok X.K "dict" (by decide) c hc, fin⟩
    · exact q.elim
  · exact q.elim

/-! ### list, tuple, dict -/
def wList : NLF := n1 fun d O Q => ∃ es, asS d O = some es ∧ Q (.lst es) O
theorem c_list : NCall X (.type "list") wList := by
  refine ⟨_, call_list_of, fun w H O ds vs Q R ro rr q po => ?_⟩
  obtain ⟨d, rfl, es, he, q⟩ := n1_ex q
  obtain ⟨v, rfl, r⟩ := rr.one_ex
  obtain ⟨p, ws, rfl, hp, r1⟩ := asS_ok X.K ro r he
  exact ⟨p, ws, rfl, hp, fun l hl => po l _ _ _ (.lst es) _ (Ext.refl _) (ro.newC hl) (ro.freeW hl) (ro.free hl) upd_same ⟨ws, rfl, r1⟩ q⟩
/-- tuple(x): the result is told as a tuple -/
def wTuple : DLF := w1 fun d O Q => ∃ es, asS d O = some es ∧ Q (.d (.tup es)) O
theorem c_tuple : DCall X (.type "tuple") wTuple := by
  refine ⟨_, call_tuple_of, fun w H O ds vs Q R ro rr q po => ?_⟩
  obtain ⟨d, rfl, es, he, q2⟩ := one_ex q
  obtain ⟨v, rfl, r⟩ := rr.one_ex
  rcases asS_cases he with rfl | he'
  · obtain ⟨p, ws, rfl, hp, r1⟩ := tup_ok ro r.toD
    exact ⟨p, ws, rfl, .inr ⟨.inl (.inl hp), po _ _ _ _ _ (Ext.refl _) ro r q2⟩⟩
  · obtain ⟨p, ws, rfl, hp, r1⟩ := asL_ok ro r he'
    refine ⟨p, ws, rfl, .inl ⟨.inl (.inl hp), fun l hl => ?_⟩⟩
    obtain ⟨s3, r3⟩ := ro.newZ (u := .tup ws) hl
    exact po _ _ _ _ _ s3 r3 (.d (.tup put_same (r1.mono s3.l))) q2
/-- dict(d): a copy; dict of pairs -/
theorem call_dict_copy : CallR X (.type "dict") (fun xs H Q => ∃ a kvs, xs = [V.ref a] ∧ Rd H a (.dK kvs) ∧ ∀ p, H p = none → Q (.ref p) (upd H p (.dK kvs))) := by
  intro pins s σ H xs us Q I r h
  obtain ⟨a, kvs, rfl, e, q⟩ := h
  obtain ⟨u, rfl, ru⟩ := vals1 r
  obtain rfl : u = Value.ref a := ru
  exact d_copyOf I e fun p s' hp I' => ⟨.ref p, _, I', rfl, q p hp⟩
def mergeG {κ ν : Type} [DecidableEq κ] (kvs more : List (κ × ν)) : List (κ × ν) := more.foldl (fun acc kv => putG acc kv.1 kv.2) kvs
theorem RepK.merge {w : Wd} : ∀ {more ms kvs us}, RepK w more ms → RepK w kvs us → RepK w (mergeG kvs more) (mergeK us ms)
  | _, _, _, _, .nil, h => h
  | _, _, _, _, .cons a r, h => RepK.merge (kvs := putG _ _ _) (us := putK _ _ _) r (h.put a)
def asP : List D → Option (List (Key × D))
  | [] => some []
  | .tup [k, v] :: r => match keyD k, asP r with | some k, some kvs => some ((k, v) :: kvs) | _, _ => none
  | _ :: _ => none
theorem asP_ok {w : Wd} {H : Hp} {O : OO} {K : PySem.W.Frag} (ro : RelO w H O) : ∀ {ds kvs vs}, asP ds = some kvs → Reps w ds vs → ∃ (ps : List Addr) (us : List (Key × V)), vs = ps.map V.ref ∧ Paired (fun p kv => SqT K H p [kV kv.1, kv.2]) ps us ∧ RepK w kvs us
  | [], _, _, h, .nil => by cases h; exact ⟨[], [], rfl, .nil, .nil⟩
  | d :: r, kvs, _, h, .cons rd rr => by
    unfold asP at h
    split at h
    · exact nomatch (show d :: r = [] by assumption)
    · rename_i k v r' e
      cases e
      cases rd with
      | tup e rp =>
        obtain _ | ⟨rk, rp⟩ := rp
        obtain ⟨_, rfl, rv⟩ := rp.one_ex
        split at h
        · rename_i k' kvs' e1 e2
          cases h
          obtain ⟨ps, us, rfl, hp, hr⟩ := asP_ok ro e2 rr
          have := keyD_ok rk e1
          subst this
          exact ⟨_ :: ps, (k', _) :: us, rfl, .cons (.inl (.inl (ro.frz e))) hp, .cons rv hr⟩
        · cases h
    · cases h
def wDict2 : NLF := n1 fun d O Q => (∃ kvs, asK d O = some kvs ∧ Q (.dic kvs) O) ∨ ∃ ds kvs, asL d O = some ds ∧ asP ds = some kvs ∧ Q (.dic (mergeG [] kvs)) O
theorem c_dict2 (hc : X.calm = true) : NCall X (.type "dict") wDict2 := by
  refine ⟨_, CallR.or call_dict_copy (call_dictP hc), fun w H O ds vs Q R ro rr q po => ?_⟩
  obtain ⟨d, rfl, q⟩ := n1_ex q
  obtain ⟨v, rfl, r⟩ := rr.one_ex
  rcases q with ⟨kvs, he, q⟩ | ⟨ds, kvs, he, hp, q⟩
  · obtain ⟨p, us, rfl, hp, r1⟩ := asK_ok ro r he
    exact .inl ⟨p, us, rfl, hp, fun l hl => po l _ _ _ (.dic kvs) _ (Ext.refl _) (ro.newC hl) (ro.freeW hl) (ro.free hl) upd_same ⟨us, rfl, r1⟩ q⟩
  · obtain ⟨p, ws, rfl, hpp, r1⟩ := asL_ok ro r he
    obtain ⟨ps, us, rfl, h2, h3⟩ := asP_ok (K := X.K) ro hp r1
    exact .inr ⟨p, ps, us, rfl, .inl (.inl hpp), h2, fun l hl => po l _ _ _ (.dic (mergeG [] kvs)) _ (Ext.refl _) (ro.newC hl) (ro.freeW hl) (ro.free hl) upd_same ⟨_, rfl, h3.merge .nil⟩ q⟩

/-! ### all, any, sum, max, min -/
def asB : List D → Option (List Bool)
  | [] => some []
  | .bl b :: r => (asB r).map (b :: ·)
  | _ :: _ => none
def asI : List D → Option (List Int)
  | [] => some []
  | .int b :: r => (asI r).map (b :: ·)
  | _ :: _ => none
theorem asB_ok : ∀ {ds bs}, asB ds = some bs → ds = bs.map D.bl
  | [], _, h => by cases h; rfl
  | d :: r, bs, h => by
    unfold asB at h
    split at h
    · exact nomatch (show d :: r = [] by assumption)
    · rename_i e; cases e
      obtain ⟨c, hc, rfl⟩ := Option.map_eq_some_iff.mp h
      rw [asB_ok hc]; rfl
    · cases h
theorem asI_ok : ∀ {ds bs}, asI ds = some bs → ds = bs.map D.int
  | [], _, h => by cases h; rfl
  | d :: r, bs, h => by
    unfold asI at h
    split at h
    · exact nomatch (show d :: r = [] by assumption)
    · rename_i e; cases e
      obtain ⟨c, hc, rfl⟩ := Option.map_eq_some_iff.mp h
      rw [asI_ok hc]; rfl
    · cases h
@[simp] theorem asI_nil : asI [] = some [] := rfl
@[simp] theorem asB_nil : asB [] = some [] := rfl
@[simp] theorem asI_cons {i r} : asI (.int i :: r) = (asI r).map (i :: ·) := rfl
@[simp] theorem asB_cons {i r} : asB (.bl i :: r) = (asB r).map (i :: ·) := rfl
@[simp] theorem asI_map {α : Type} (f : α → Int) (ns : List α) : asI (ns.map fun x => D.int (f x)) = some (ns.map f) := by
  induction ns with
  | nil => rfl
  | cons a r ih => simp [ih]
@[simp] theorem asB_map {α : Type} (f : α → Bool) (ns : List α) : asB (ns.map fun x => D.bl (f x)) = some (ns.map f) := by
  induction ns with
  | nil => rfl
  | cons a r ih => simp [ih]
@[simp] theorem asI_mapI (ns : List Int) : asI (ns.map D.int) = some ns := by simpa using asI_map id ns
@[simp] theorem asB_mapB (ns : List Bool) : asB (ns.map D.bl) = some ns := by simpa using asB_map id ns
theorem asI_app {a b : List D} {x y} (h : asI a = some x) (k : asI b = some y) : asI (a ++ b) = some (x ++ y) := by
  rw [asI_ok h, asI_ok k, ← List.map_append, asI_mapI]
def wAll : DLF := w1 fun d O Q => ∃ es bs, asL d O = some es ∧ asB es = some bs ∧ Q (.d (.bl (bs.all id))) O
def wAny : DLF := w1 fun d O Q => ∃ es bs, asL d O = some es ∧ asB es = some bs ∧ Q (.d (.bl (bs.any id))) O
theorem c_all (hc : X.calm = true) : DCall X (.builtin "all") wAll := by
  refine ⟨_, cr_all hc, fun w H O ds vs Q R ro rr q po => ?_⟩
  obtain ⟨d, rfl, es, bs, he, hb, q⟩ := one_ex q
  obtain ⟨v, rfl, r⟩ := rr.one_ex
  obtain ⟨p, ws, rfl, hp, r1⟩ := asL_ok ro r he
  rw [asB_ok hb] at r1
  rw [r1.bls] at hp
  exact ⟨p, bs, rfl, .inl (.inl hp), po _ _ _ _ _ (Ext.refl _) ro (.d .bl) q⟩
theorem c_any (hc : X.calm = true) : DCall X (.builtin "any") wAny := by
  refine ⟨_, cr_any hc, fun w H O ds vs Q R ro rr q po => ?_⟩
  obtain ⟨d, rfl, es, bs, he, hb, q⟩ := one_ex q
  obtain ⟨v, rfl, r⟩ := rr.one_ex
  obtain ⟨p, ws, rfl, hp, r1⟩ := asL_ok ro r he
  rw [asB_ok hb] at r1
  rw [r1.bls] at hp
  exact ⟨p, bs, rfl, .inl (.inl hp), po _ _ _ _ _ (Ext.refl _) ro (.d .bl) q⟩
def wSum : DLF := w1 fun d O Q => ∃ es bs, asL d O = some es ∧ asI es = some bs ∧ Q (.d (.int bs.sum)) O
theorem c_sum (hc : X.calm = true) : DCall X (.builtin "sum") wSum := by
  refine ⟨_, cr_sum hc, fun w H O ds vs Q R ro rr q po => ?_⟩
  obtain ⟨d, rfl, es, bs, he, hb, q⟩ := one_ex q
  obtain ⟨v, rfl, r⟩ := rr.one_ex
  obtain ⟨p, ws, rfl, hp, r1⟩ := asL_ok ro r he
  rw [asI_ok hb] at r1
  rw [r1.ints] at hp
  exact ⟨p, bs, rfl, .inl (.inl hp), po _ _ _ _ _ (Ext.refl _) ro (.d .int) q⟩
def maxL (ns : List Int) : Int := ns.tail.foldl max (ns.headD 0)
def minL (ns : List Int) : Int := ns.tail.foldl min (ns.headD 0)
theorem foldl_max_ge : ∀ (r : List Int) (a : Int), a ≤ r.foldl max a ∧ (∀ x ∈ r, x ≤ r.foldl max a) ∧ (r.foldl max a = a ∨ r.foldl max a ∈ r)
  | [], a => by simp
  | b :: r, a => by
    obtain ⟨h1, h2, h3⟩ := foldl_max_ge r (max a b)
    simp only [List.foldl_cons, List.mem_cons]
    refine ⟨by omega, fun x hx => ?_, ?_⟩
    · rcases hx with rfl | hx
      · omega
      · exact h2 x hx
    · rcases h3 with h3 | h3
      · rcases Int.le_total a b with q | q
        · exact .inr (.inl (by omega))
        · exact .inl (by omega)
      · exact .inr (.inr h3)
theorem foldl_min_le : ∀ (r : List Int) (a : Int), r.foldl min a ≤ a ∧ (∀ x ∈ r, r.foldl min a ≤ x) ∧ (r.foldl min a = a ∨ r.foldl min a ∈ r)
  | [], a => by simp
  | b :: r, a => by
    obtain ⟨h1, h2, h3⟩ := foldl_min_le r (min a b)
    simp only [List.foldl_cons, List.mem_cons]
    refine ⟨by omega, fun x hx => ?_, ?_⟩
    · rcases hx with rfl | hx
      · omega
      · exact h2 x hx
    · rcases h3 with h3 | h3
      · rcases Int.le_total a b with q | q
        · exact .inl (by omega)
        · exact .inr (.inl (by omega))
      · exact .inr (.inr h3)
theorem maxL_ge {ns : List Int} {x : Int} (h : x ∈ ns) : x ≤ maxL ns := by
  cases ns with
  | nil => cases h
  | cons a r =>
    obtain ⟨h1, h2, _⟩ := foldl_max_ge r a
    rcases List.mem_cons.mp h with rfl | h
    · exact h1
    · exact h2 x h
theorem maxL_mem {ns : List Int} (h : ns ≠ []) : maxL ns ∈ ns := by
  cases ns with
  | nil => exact absurd rfl h
  | cons a r =>
    obtain ⟨_, _, h3⟩ := foldl_max_ge r a
    rcases h3 with h3 | h3
    · exact List.mem_cons.mpr (.inl h3)
    · exact List.mem_cons_of_mem _ h3
theorem minL_le {ns : List Int} {x : Int} (h : x ∈ ns) : minL ns ≤ x := by
  cases ns with
  | nil => cases h
  | cons a r =>
    obtain ⟨h1, h2, _⟩ := foldl_min_le r a
    rcases List.mem_cons.mp h with rfl | h
    · exact h1
    · exact h2 x h
theorem minL_mem {ns : List Int} (h : ns ≠ []) : minL ns ∈ ns := by
  cases ns with
  | nil => exact absurd rfl h
  | cons a r =>
    obtain ⟨_, _, h3⟩ := foldl_min_le r a
    rcases h3 with h3 | h3
    · exact List.mem_cons.mpr (.inl h3)
    · exact List.mem_cons_of_mem _ h3
/-- max, min of two ints, or of a list of ints -/
def wMax : DLF := fun ds O Q => match ds with
  | [.d (.int m), .d (.int n)] => Q (.d (.int (max m n))) O
  | [x] => ∃ es bs, asL x O = some es ∧ asI es = some bs ∧ 0 < bs.length ∧ Q (.d (.int (maxL bs))) O
  | _ => False
def wMin : DLF := fun ds O Q => match ds with
  | [.d (.int m), .d (.int n)] => Q (.d (.int (min m n))) O
  | [x] => ∃ es bs, asL x O = some es ∧ asI es = some bs ∧ 0 < bs.length ∧ Q (.d (.int (minL bs))) O
  | _ => False
theorem c_max (hc : X.calm = true) : DCall X (.builtin "max") wMax := by
  refine ⟨_, CallR.or (call_max2 hc) (cr_max hc), fun w H O ds vs Q R ro rr q po => ?_⟩
  unfold wMax at q
  split at q
  · rename_i m n
    obtain ⟨v, u, rfl, rx, ry⟩ := rr.two_ex
    cases rx.toD
    cases ry.toD
    refine .inl ⟨m, n, rfl, ?_⟩
    have e : (if n > m then n else m) = max m n := by split <;> omega
    rw [e]
    exact po _ _ _ _ _ (Ext.refl _) ro (.d .int) q
  · obtain ⟨es, bs, he, hb, hl, q⟩ := q
    obtain ⟨v, rfl, r⟩ := rr.one_ex
    obtain ⟨p, ws, rfl, hp, r1⟩ := asL_ok ro r he
    rw [asI_ok hb] at r1
    rw [r1.ints] at hp
    refine .inr ⟨p, bs, rfl, .inl (.inl hp), hl, fun m hm hle => ?_⟩
    have hne : bs ≠ [] := fun z => by subst z; simp at hl
    have e : m = maxL bs := by
      have h1 := hle _ (maxL_mem hne)
      have h2 := maxL_ge hm
      omega
    rw [e]
    exact po _ _ _ _ _ (Ext.refl _) ro (.d .int) q
  · exact q.elim
theorem c_min (hc : X.calm = true) : DCall X (.builtin "min") wMin := by
  refine ⟨_, CallR.or (call_min2 hc) (cr_min hc), fun w H O ds vs Q R ro rr q po => ?_⟩
  unfold wMin at q
  split at q
  · rename_i m n
    obtain ⟨v, u, rfl, rx, ry⟩ := rr.two_ex
    cases rx.toD
    cases ry.toD
    refine .inl ⟨m, n, rfl, ?_⟩
    have e : (if n < m then n else m) = min m n := by split <;> omega
    rw [e]
    exact po _ _ _ _ _ (Ext.refl _) ro (.d .int) q
  · obtain ⟨es, bs, he, hb, hl, q⟩ := q
    obtain ⟨v, rfl, r⟩ := rr.one_ex
    obtain ⟨p, ws, rfl, hp, r1⟩ := asL_ok ro r he
    rw [asI_ok hb] at r1
    rw [r1.ints] at hp
    refine .inr ⟨p, bs, rfl, .inl (.inl hp), hl, fun m hm hle => ?_⟩
    have hne : bs ≠ [] := fun z => by subst z; simp at hl
    have e : m = minL bs := by
      have h1 := hle _ (minL_mem hne)
      have h2 := minL_le hm
      omega
    rw [e]
    exact po _ _ _ _ _ (Ext.refl _) ro (.d .int) q
  · exact q.elim

end
/-! ### sorted -/
def ins1 {α : Type} (le : α → α → Bool) (a : α) : List α → List α
  | [] => [a]
  | b :: r => if le a b = true then a :: b :: r else b :: ins1 le a r
def isort {α : Type} (le : α → α → Bool) : List α → List α
  | [] => []
  | a :: r => ins1 le a (isort le r)
theorem ins1_perm {α : Type} (le : α → α → Bool) (a : α) : ∀ r, (ins1 le a r).Perm (a :: r)
  | [] => .refl _
  | b :: r => by
    unfold ins1
    split
    · exact .refl _
    · exact ((ins1_perm le a r).cons b).trans (.swap ..)
theorem isort_perm {α : Type} (le : α → α → Bool) : ∀ r, (isort le r).Perm r
  | [] => .refl _
  | a :: r => (ins1_perm le a _).trans ((isort_perm le r).cons a)
theorem ins1_pw {α : Type} {le : α → α → Bool} (tot : ∀ a b, le a b = true ∨ le b a = true) (tr : ∀ a b c, le a b = true → le b c = true → le a c = true) (a : α) : ∀ r, r.Pairwise (fun a b => le a b = true) → (ins1 le a r).Pairwise (fun a b => le a b = true)
  | [], _ => by simp [ins1]
  | b :: r, h => by
    unfold ins1
    have h1 := List.pairwise_cons.mp h
    split
    · rename_i q
      refine List.pairwise_cons.mpr ⟨fun c hc => ?_, h⟩
      rcases List.mem_cons.mp hc with rfl | hc
      · exact q
      · exact tr _ _ _ q (h1.1 c hc)
    · rename_i q
      refine List.pairwise_cons.mpr ⟨fun c hc => ?_, ins1_pw tot tr a r h1.2⟩
      rcases List.mem_cons.mp ((ins1_perm le a r).mem_iff.mp hc) with rfl | hc
      · exact (tot c b).resolve_left q
      · exact h1.1 c hc
theorem isort_pw {α : Type} {le : α → α → Bool} (tot : ∀ a b, le a b = true ∨ le b a = true) (tr : ∀ a b c, le a b = true → le b c = true → le a c = true) : ∀ r, (isort le r).Pairwise (fun a b => le a b = true)
  | [] => .nil
  | a :: r => ins1_pw tot tr a _ (isort_pw tot tr r)
theorem isort_eq {α : Type} {le : α → α → Bool} (tot : ∀ a b, le a b = true ∨ le b a = true) (tr : ∀ a b c, le a b = true → le b c = true → le a c = true) (anti : ∀ a b, le a b = true → le b a = true → a = b) {ms ns : List α} (hp : ms.Perm ns)
    (hs : ms.Pairwise (fun a b => le a b = true)) : ms = isort le ns :=
  List.Perm.eq_of_pairwise (le := fun a b => le a b = true) (fun a b _ _ h h' => anti a b h h') hs (isort_pw tot tr ns) (hp.trans (isort_perm le ns).symm)
theorem isort_congr {α : Type} {le : α → α → Bool} (tot : ∀ a b, le a b = true ∨ le b a = true) (tr : ∀ a b c, le a b = true → le b c = true → le a c = true) (anti : ∀ a b, le a b = true → le b a = true → a = b) {ms ns : List α} (hp : ms.Perm ns) : isort le ms = isort le ns :=
  isort_eq tot tr anti ((isort_perm le ms).trans hp) (isort_pw tot tr ms)
def leI (a b : Int) : Bool := decide (a ≤ b)
theorem leI_tot (a b : Int) : leI a b = true ∨ leI b a = true := by unfold leI; rcases Int.le_total a b with h | h <;> simp [h]
theorem leI_tr (a b c : Int) : leI a b = true → leI b c = true → leI a c = true := by unfold leI; simp only [decide_eq_true_eq]; omega
theorem leI_anti (a b : Int) : leI a b = true → leI b a = true → a = b := by unfold leI; simp only [decide_eq_true_eq]; omega
theorem ltCps_irr : ∀ a, ltCps a a = false
  | [] => rfl
  | a :: r => by simp [ltCps, ltCps_irr r]
theorem ltCps_tri : ∀ a b, ltCps a b = true ∨ ltCps b a = true ∨ a = b
  | [], [] => .inr (.inr rfl)
  | [], _ :: _ => .inl rfl
  | _ :: _, [] => .inr (.inl rfl)
  | a :: r, b :: t => by
    rcases Nat.lt_trichotomy a b with h | h | h
    · exact .inl (by simp [ltCps, h])
    · subst h
      rcases ltCps_tri r t with q | q | q
      · exact .inl (by simp [ltCps, q])
      · exact .inr (.inl (by simp [ltCps, q]))
      · exact .inr (.inr (by rw [q]))
    · exact .inr (.inl (by simp [ltCps, h]))
theorem ltCps_tr : ∀ a b c, ltCps a b = true → ltCps b c = true → ltCps a c = true
  | [], [], _, h, _ => by cases h
  | [], _ :: _, [], _, h => by cases h
  | [], _ :: _, _ :: _, _, _ => rfl
  | _ :: _, [], _, h, _ => by cases h
  | _ :: _, _ :: _, [], _, h => by cases h
  | a :: r, b :: t, c :: u, h, h' => by
    simp only [ltCps, Bool.or_eq_true, decide_eq_true_eq, Bool.and_eq_true, beq_iff_eq] at h h' ⊢
    rcases h with h | ⟨rfl, h⟩
    · rcases h' with h' | ⟨rfl, h'⟩
      · exact .inl (by omega)
      · exact .inl h
    · rcases h' with h' | ⟨rfl, h'⟩
      · exact .inl h'
      · exact .inr ⟨rfl, ltCps_tr r t u h h'⟩
def leS (a b : Str) : Bool := !ltCps b.cps.toList a.cps.toList
theorem Str_ext {a b : Str} (h : a.cps.toList = b.cps.toList) : a = b := by
  cases a; cases b
  simp only at h
  rw [Array.toList_inj.mp h]
theorem leS_tot (a b : Str) : leS a b = true ∨ leS b a = true := by
  unfold leS
  rcases ltCps_tri b.cps.toList a.cps.toList with h | h | h
  · right
    cases q : ltCps a.cps.toList b.cps.toList with
    | false => rfl
    | true => have := ltCps_tr _ _ _ h q; rw [ltCps_irr] at this; cases this
  · left
    cases q : ltCps b.cps.toList a.cps.toList with
    | false => rfl
    | true => have := ltCps_tr _ _ _ h q; rw [ltCps_irr] at this; cases this
  · left; rw [h, ltCps_irr]; rfl
theorem leS_anti (a b : Str) (h : leS a b = true) (h' : leS b a = true) : a = b := by
  unfold leS at h h'
  rcases ltCps_tri b.cps.toList a.cps.toList with q | q | q
  · rw [q] at h; cases h
  · rw [q] at h'; cases h'
  · exact (Str_ext q).symm
theorem leS_tr (a b c : Str) (h : leS a b = true) (h' : leS b c = true) : leS a c = true := by
  unfold leS at *
  cases q : ltCps c.cps.toList a.cps.toList with
  | false => rfl
  | true =>
    rcases ltCps_tri b.cps.toList a.cps.toList with z | z | z
    · rw [z] at h; cases h
    · have := ltCps_tr _ _ _ q z
      rw [this] at h'; cases h'
    · rw [← z] at q
      rw [q] at h'; cases h'
theorem sortedS_pw : ∀ (l : List Str), sortedS l = true → l.Pairwise (fun a b => leS a b = true) := by
  have go : ∀ (r : List Str) (p : Str), risingS p r = true → (p :: r).Pairwise (fun a b => leS a b = true) := fun r => by
    induction r with
    | nil => intro p _; exact List.pairwise_singleton ..
    | cons x r ih =>
      intro p h
      replace h : (!ltCps x.cps.toList p.cps.toList && risingS x r) = true := h
      rw [Bool.and_eq_true] at h
      have q := ih x h.2
      refine List.pairwise_cons.mpr ⟨fun c hc => ?_, q⟩
      rcases List.mem_cons.mp hc with rfl | hc
      · exact h.1
      · exact leS_tr _ _ _ h.1 ((List.pairwise_cons.mp q).1 c hc)
  intro l h
  cases l with
  | nil => exact .nil
  | cons x r => exact go r x h
def sortI (ns : List Int) : List Int := isort leI ns
def sortS (ns : List Str) : List Str := isort leS ns
theorem sortI_of {ms ns : List Int} (hp : ms.Perm ns) (hs : ms.Pairwise (· ≤ ·)) : ms = sortI ns := isort_eq leI_tot leI_tr leI_anti hp (hs.imp fun h => by simpa [leI] using h)
theorem sortS_of {ms ns : List Str} (hp : ms.Perm ns) (hs : sortedS ms = true) : ms = sortS ns := isort_eq leS_tot leS_tr leS_anti hp (sortedS_pw ms hs)
theorem sortI_perm {ms ns : List Int} (hp : ms.Perm ns) : sortI ms = sortI ns := isort_congr leI_tot leI_tr leI_anti hp
theorem sortS_perm {ms ns : List Str} (hp : ms.Perm ns) : sortS ms = sortS ns := isort_congr leS_tot leS_tr leS_anti hp
def asStr : List D → Option (List Str)
  | [] => some []
  | .str b :: r => (asStr r).map (b :: ·)
  | _ :: _ => none
theorem asStr_ok : ∀ {ds bs}, asStr ds = some bs → ds = bs.map D.str
  | [], _, h => by cases h; rfl
  | .str b :: r, bs, h => by
    obtain ⟨c, hc, rfl⟩ := Option.map_eq_some_iff.mp h
    rw [asStr_ok hc]; rfl
  | .non :: _, _, h => nomatch h
  | .bl _ :: _, _, h => nomatch h
  | .int _ :: _, _, h => nomatch h
  | .ty _ :: _, _, h => nomatch h
  | .tup _ :: _, _, h => nomatch h
  | .lst _ :: _, _, h => nomatch h
  | .dic _ :: _, _, h => nomatch h
  | .dct _ :: _, _, h => nomatch h
  | .tape :: _, _, h => nomatch h
  | .ref _ :: _, _, h => nomatch h
@[simp] theorem asStr_map (ns : List Str) : asStr (ns.map D.str) = some ns := by
  induction ns with
  | nil => rfl
  | cons a r ih => simp [asStr, ih]
/-- keys that are all ints, or all texts -/
def keysI : List Key → Option (List Int)
  | [] => some []
  | .inl i :: r => (keysI r).map (i :: ·)
  | .inr _ :: _ => none
def keysS : List Key → Option (List Str)
  | [] => some []
  | .inr i :: r => (keysS r).map (i :: ·)
  | .inl _ :: _ => none
theorem keysI_ok : ∀ {ks is}, keysI ks = some is → ks = is.map Sum.inl
  | [], _, h => by cases h; rfl
  | .inl i :: r, is, h => by
    obtain ⟨c, hc, rfl⟩ := Option.map_eq_some_iff.mp h
    rw [keysI_ok hc]; rfl
  | .inr _ :: _, _, h => nomatch h
theorem keysS_ok : ∀ {ks is}, keysS ks = some is → ks = is.map Sum.inr
  | [], _, h => by cases h; rfl
  | .inr i :: r, is, h => by
    obtain ⟨c, hc, rfl⟩ := Option.map_eq_some_iff.mp h
    rw [keysS_ok hc]; rfl
  | .inl _ :: _, _, h => nomatch h
@[simp] theorem keysI_map (ns : List Int) : keysI (ns.map Sum.inl) = some ns := by
  induction ns with
  | nil => rfl
  | cons a r ih => simp [keysI, ih]
@[simp] theorem keysS_map (ns : List Str) : keysS (ns.map Sum.inr) = some ns := by
  induction ns with
  | nil => rfl
  | cons a r ih => simp [keysS, ih]
/-- sorted(x): a list of ints, of texts (fewer than 64), a dict of such keys (fewer than 64) -/
def wSorted : NLF := n1 fun d O Q =>
  (∃ es ns, asL d O = some es ∧ asI es = some ns ∧ Q (.lst ((sortI ns).map D.int)) O) ∨
  (∃ es ns, asL d O = some es ∧ asStr es = some ns ∧ ns.length < 64 ∧ Q (.lst ((sortS ns).map D.str)) O) ∨
  (∃ kvs ns, asK d O = some kvs ∧ keysI (kvs.map (·.1)) = some ns ∧ ns.length < 64 ∧ Q (.lst ((sortI ns).map D.int)) O) ∨
  (∃ kvs ns, asK d O = some kvs ∧ keysS (kvs.map (·.1)) = some ns ∧ ns.length < 64 ∧ Q (.lst ((sortS ns).map D.str)) O)
theorem c_sorted {X : Cx} (hc : X.calm = true) : NCall X (.builtin "sorted") wSorted := by
  refine ⟨_, (CallR.or cr_sortedI cr_sortedS).or (CallR.or (call_sortedDI hc) (call_sortedD hc)), fun w H O ds vs Q R ro rr q po => ?_⟩
  obtain ⟨d, rfl, q⟩ := n1_ex q
  obtain ⟨v, rfl, r⟩ := rr.one_ex
  have finI : ∀ ns, Q (.lst ((sortI ns).map D.int)) O → ∀ b, H b = none → R (.ref b) (upd H b (.lst ((sortI ns).map V.int))) := fun ns q b hb =>
    po b _ _ _ (.lst ((sortI ns).map D.int)) _ (Ext.refl _) (ro.newC hb) (ro.freeW hb) (ro.free hb) upd_same ⟨_, rfl, Reps.of_ints _⟩ q
  have finS : ∀ ns, Q (.lst ((sortS ns).map D.str)) O → ∀ b, H b = none → R (.ref b) (upd H b (.lst ((sortS ns).map V.str))) := fun ns q b hb =>
    po b _ _ _ (.lst ((sortS ns).map D.str)) _ (Ext.refl _) (ro.newC hb) (ro.freeW hb) (ro.free hb) upd_same ⟨_, rfl, Reps.of_strs _⟩ q
  rcases q with ⟨es, ns, he, hn, q⟩ | ⟨es, ns, he, hn, hl, q⟩ | ⟨kvs, ns, he, hn, hl, q⟩ | ⟨kvs, ns, he, hn, hl, q⟩
  · obtain ⟨p, ws, rfl, hp, r1⟩ := asL_ok ro r he
    rw [asI_ok hn] at r1
    rw [r1.ints] at hp
    refine .inl (.inl ⟨p, ns, rfl, .inl (.inl hp), fun ms b hm hs hb => ?_⟩)
    rw [sortI_of hm hs]
    exact finI ns q b hb
  · obtain ⟨p, ws, rfl, hp, r1⟩ := asL_ok ro r he
    rw [asStr_ok hn] at r1
    rw [r1.strs] at hp
    refine .inl (.inr ⟨p, ns, rfl, .inl (.inl hp), hl, fun ms b hm hs hb => ?_⟩)
    rw [sortS_of hm hs]
    exact finS ns q b hb
  · obtain ⟨p, us, rfl, hp, r1⟩ := asK_ok ro r he
    refine .inr (.inl ⟨p, us, ns, rfl, hp, by rw [← r1.keys]; exact keysI_ok hn, hl, fun ms b hm hs hb => ?_⟩)
    rw [sortI_of hm hs]
    exact finI ns q b hb
  · obtain ⟨p, us, rfl, hp, r1⟩ := asK_ok ro r he
    refine .inr (.inr ⟨p, us, ns, rfl, hp, by rw [← r1.keys]; exact keysS_ok hn, hl, fun ms b hm hs hb => ?_⟩)
    rw [sortS_of hm hs]
    exact finS ns q b hb
end VD

set_option Elab.async false
set_option linter.all false
set_option maxRecDepth 100000
set_option maxHeartbeats 1000000
/-! VD: methods of built-ins, stores, attributes, displays -/
namespace VD
open PySem PySem.Spec PyProof.Rows L2

/-! ### methods of live things and texts -/
abbrev DMF := BV → List BV → OO → (BV → OO → Prop) → Prop
structure DMt (X : Cx) (id : String) (m : DMF) : Prop where
  ex : ∃ r, MtR X id r ∧ ∀ w H O d v ds vs Q R, RelO w H O → BRep w d v → BReps w ds vs → m d ds O Q → PostE w Q R → r v vs H R
/-- the receiver's type -/
inductive TvD (O : OO) : String → BV → Prop
  | str {x} : TvD O "str" (.d (.str x))
  | lst {d ds} (h : asL d O = some ds) : TvD O "list" d
  | dic {a kvs} (h : O a = some (.dic kvs)) : TvD O "dict" (.d (.ref a))
def wBm (T : String) (m : DMF) (Wo : WE) (W : WA) : WE := fun s O Q => Wo s O fun d O1 => TvD O1 T d ∧ W s O1 fun ds O2 => m d ds O2 Q
theorem TvD.ok {w : Wd} {H : Hp} {O : OO} {T d v} {K : PySem.W.Frag} (ro : RelO w H O) (r : BRep w d v) (h : TvD O T d) : tyV K T v H := by
  cases h with
  | str => cases r.toD; rfl
  | lst h =>
    obtain ⟨p, vs, rfl, hp, _⟩ := asL_ok ro r h
    exact .inl ⟨rfl, vs, .inl (.inl hp)⟩
  | dic h =>
    cases r.toD
    obtain ⟨us, hp, _⟩ := ro.own _ _ h
    exact .inr (.inr (.inl ⟨rfl, .inl ⟨us, hp⟩⟩))
section
variable {X : Cx} {P : PX} {apos cpos : Pos} {o e : Expr} {es : List Expr} {W : WA} {Wo : WE} {name : Str} {T id : String} {m : DMF}
theorem de_bm0 (pa : PlainAttrs T) (slot : Slot T name id) (hty : typeOf (.builtin id) = pure (.type "method_descriptor")) (hm : DMt X id m) (ho : DE X P o Wo)
    (hbase : attributeBase o name X.env (eval o X.env) = eval o X.env := by rfl) (hline : (apos.endLine == cpos.line) = true := by rfl) : DE X P (.Call (.Attribute o name apos) [] [] cpos) (wBm T m Wo wNil) := by
  obtain ⟨r, q, h⟩ := hm.ex
  obtain ⟨to, po, k⟩ := ho.ex
  refine ⟨_, pe_bm0 pa slot hty q po hbase hline, fun w σ s H O Q R rs ro w po => ?_⟩
  refine k _ _ _ _ _ _ _ rs ro w fun v H1 Z1 d O1 s1 r1 e1 w1 => ?_
  exact ⟨w1.1.ok r1 e1, h _ _ _ _ _ _ _ _ _ r1 e1 .nil w1.2 (po.mono s1)⟩
theorem de_bm (pa : PlainAttrs T) (slot : Slot T name id) (hty : typeOf (.builtin id) = pure (.type "method_descriptor")) (hm : DMt X id m) (ho : DE X P o Wo) (ha : DA X P (e :: es) W)
    (hbase : attributeBase o name X.env (eval o X.env) = eval o X.env := by rfl)
    (hfew : ((backTo cpos (starEach (e :: es) X.env)).all (fun x => !x.1) && (backToKw cpos (keywordEach [] X.env)).all (fun x => x.1.isSome)
      && decide ((e :: es).length + ([] : List Keyword).length + (if ([] : List Keyword).isEmpty then 0 else 1) < 30)) = true := by rfl)
    (hline : (apos.endLine == cpos.line) = true := by rfl) (hs : starEach (e :: es) X.env = (false, eval e X.env) :: starEach es X.env := by rfl) (hplain : (backTo cpos (starEach es X.env)).any (·.1) = false := by rfl) :
    DE X P (.Call (.Attribute o name apos) (e :: es) [] cpos) (wBm T m Wo W) := by
  obtain ⟨r, q, h⟩ := hm.ex
  obtain ⟨to, po, k⟩ := ho.ex
  obtain ⟨t, pa2, j⟩ := ha.ex
  refine ⟨_, pe_bm pa slot hty q po pa2 hbase hfew hline hs hplain, fun w σ s H O Q R rs ro w po => ?_⟩
  refine k _ _ _ _ _ _ _ rs ro w fun v H1 Z1 d O1 s1 r1 e1 w1 => ?_
  refine ⟨w1.1.ok r1 e1, j _ _ _ _ _ _ _ (rs.mono s1) r1 w1.2 fun vs H2 Z2 ds O2 l2 s2 r2 e2 w2 => ?_⟩
  exact h _ _ _ _ _ _ _ _ _ r2 (e1.mono s2) e2 w2 (po.mono (s1.trans s2))
end
def appM (a : Addr) (y : D) (O : OO) (Q : BV → OO → Prop) : Option MO → Prop
  | some (.lst ds) => ds.length < sizeLine ∧ Q (.d .non) (updO O a (.lst (ds ++ [y])))
  | _ => False
def mApp : DMF := fun d ds O Q => match d, ds with | .d (.ref a), [.d y] => appM a y O Q (O a) | _, _ => False
def popM (a : Addr) (O : OO) (Q : BV → OO → Prop) : Option MO → Prop
  | some (.lst ds) => ∃ y, ds[ds.length - 1]? = some y ∧ Q (.d y) (updO O a (.lst ds.dropLast))
  | _ => False
def mPop : DMF := fun d ds O Q => match d, ds with | .d (.ref a), [] => popM a O Q (O a) | _, _ => False
def updM (a : Addr) (y : BV) (O : OO) (Q : BV → OO → Prop) : Option MO → Prop
  | some (.dic kvs) => ∃ more, asK y O = some more ∧ y ≠ .d (.ref a) ∧ kvs.length + more.length ≤ sizeLine ∧ Q (.d .non) (updO O a (.dic (mergeG kvs more)))
  | _ => False
def mUpd : DMF := fun d ds O Q => match d, ds with | .d (.ref a), [y] => updM a y O Q (O a) | _, _ => False
theorem mt_update {X : Cx} : MtR X "dict.update" (fun x vs H Q => ∃ a b kvs more, x = V.ref a ∧ vs = [V.ref b] ∧ a ≠ b ∧ H a = some (.dK kvs) ∧ Rd H b (.dK more) ∧ kvs.length + more.length ≤ sizeLine ∧ Q .non (upd H a (.dK (mergeK kvs more)))) := by
  intro pins s σ H x vs v us Q I rx rv h
  obtain ⟨a, b, kvs, more, rfl, rfl, hab, ha, hb, hl, q⟩ := h
  obtain rfl : v = Value.ref a := rx
  obtain ⟨u, rfl, ru⟩ := vals1 rv
  obtain rfl : u = Value.ref b := ru
  obtain ⟨z, hd, xs, rel, dd⟩ := dk_of I.hok ha
  obtain ⟨z2, hd2, xs2, rel2, dd2⟩ := dk_rd I.hok hb
  refine call_meetsIn PySem.F.slot_dict_update dd.typeIs PySem.F.entry_dict_update (PySem.F.args_dict_update_2 _ _) (meets_dict_update (mixKind X.prog X.w) a b hab hd2) ⟨xs, xs2, dd, dd2, by rw [← rel.length, ← rel2.length]; exact hl, fun h' dd' dd2' hs => ?_⟩
  have he : ∃ q, h'.get? a = some q := let ⟨q, _, _, hq, _⟩ := dd'; ⟨q, hq⟩
  refine ⟨.non, _, d_write I (by rw [ha]; exact True.intro) hs he (dk_new ?_ hd (KV.merge rel2 rel) dd'), rfl, q⟩
  exact Nat.le_trans (length_mergeK more kvs) hl
section
variable {X : Cx}
theorem m_app : DMt X "list.append" mApp := by
  refine ⟨_, mt_append, fun w H O d v ds vs Q R ro rd rs q po => ?_⟩
  unfold mApp at q
  split at q
  · rename_i a y
    cases rd.toD
    obtain ⟨u, rfl, ru⟩ := rs.one_ex
    unfold appM at q
    split at q
    · rename_i xs e
      obtain ⟨ws, hw, rw'⟩ := ro.own _ _ e
      refine ⟨a, ws, u, rfl, rfl, hw, by rw [← rw'.length]; exact q.1, ?_⟩
      exact po _ _ _ _ _ (Ext.refl _) (ro.put (m' := .lst (xs ++ [y])) e ⟨_, upd_same, rw'.append (.one ru.toD)⟩) (.d .non) q.2
    · exact q.elim
  · exact q.elim
theorem m_pop : DMt X "list.pop" mPop := by
  refine ⟨_, mt_pop, fun w H O d v ds vs Q R ro rd rs q po => ?_⟩
  unfold mPop at q
  split at q
  · rename_i a
    cases rd.toD
    cases rs
    unfold popM at q
    split at q
    · rename_i xs e
      obtain ⟨ws, hw, rw'⟩ := ro.own _ _ e
      obtain ⟨y, hy, q⟩ := q
      obtain ⟨u, hu, ru⟩ := rw'.get hy
      rw [rw'.length] at hu
      refine ⟨a, ws, u, rfl, rfl, hw, hu, ?_⟩
      exact po _ _ _ _ _ (Ext.refl _) (ro.put (m' := .lst xs.dropLast) e ⟨_, upd_same, rw'.dropLast⟩) (.d ru) q
    · exact q.elim
  · exact q.elim
theorem m_upd : DMt X "dict.update" mUpd := by
  refine ⟨_, mt_update, fun w H O d v ds vs Q R ro rd rs q po => ?_⟩
  unfold mUpd at q
  split at q
  · rename_i a y
    cases rd.toD
    obtain ⟨u, rfl, ru⟩ := rs.one_ex
    unfold updM at q
    split at q
    · rename_i kvs e
      obtain ⟨more, hm, hne, hl, q⟩ := q
      obtain ⟨us, hu, r1⟩ := ro.own _ _ e
      obtain ⟨b, ms, rfl, hb, r2⟩ := asK_ok ro ru hm
      have hab : a ≠ b := fun z => by
        subst z
        cases ru with
        | own e' _ => rw [ro.off _ _ e] at e'; cases e'
        | fix e' _ => rw [ro.off _ _ e] at e'; cases e'
        | d ru =>
          cases ru with
          | ref => exact hne rfl
          | dic ez rz => rw [ro.off _ _ e] at ez; cases ez
          | tup ez rz => rw [ro.off _ _ e] at ez; cases ez
          | lst ez rz => rw [ro.off _ _ e] at ez; cases ez
          | dct ez rz => rw [ro.off _ _ e] at ez; cases ez
          | tape ez => rw [ro.off _ _ e] at ez; cases ez
      refine ⟨a, b, us, ms, rfl, rfl, hab, hu, hb, by rw [← r1.length, ← r2.length]; exact hl, ?_⟩
      exact po _ _ _ _ _ (Ext.refl _) (ro.put (m' := .dic (mergeG kvs more)) e ⟨_, upd_same, r2.merge r1⟩) (.d .non) q
    · exact q.elim
  · exact q.elim
end
/-! ### d.get(k, x), d.get(k) -/
def wGet2 (Wo Wk Wx : WE) : WE := fun s O Q => Wo s O fun d O1 => ((∃ kvs, asK d O1 = some kvs) ∨ ∃ kvs, asT d O1 = some kvs) ∧ Wk s O1 fun y O2 => isD y fun y => Wx s O2 fun z O3 => isD z fun z => getQ d y O3 fun o => Q (.d (o.getD z)) O3
def wGet1 (Wo Wk : WE) : WE := fun s O Q => Wo s O fun d O1 => ((∃ kvs, asK d O1 = some kvs) ∨ ∃ kvs, asT d O1 = some kvs) ∧ Wk s O1 fun y O2 => isD y fun y => getQ d y O2 fun o => Q (.d (o.getD .non)) O2
theorem isD_of {w : Wd} {H : Hp} {O : OO} {d v} (ro : RelO w H O) (r : BRep w d v) (h : (∃ kvs, asK d O = some kvs) ∨ ∃ kvs, asT d O = some kvs) : ∃ p, v = V.ref p ∧ IsD H p := by
  rcases h with ⟨kvs, h⟩ | ⟨kvs, h⟩
  · obtain ⟨p, us, rfl, hp, _⟩ := asK_ok ro r h
    exact ⟨p, rfl, .inl ⟨us, hp⟩⟩
  · obtain ⟨p, us, rfl, hp, _⟩ := asT_ok ro r h
    exact ⟨p, rfl, .inr ⟨us, hp⟩⟩
theorem getD_rep {w : Wd} {o : Option V} {d : Option D} {z : D} {v : V} (e : o.isSome = d.isSome) (h : ∀ x, d = some x → ∃ v, o = some v ∧ Rep w x v) (hz : Rep w z v) : Rep w (d.getD z) (o.getD v) := by
  cases d with
  | some x => obtain ⟨v', rfl, r⟩ := h x rfl; exact r
  | none => cases o with
    | none => exact hz
    | some _ => cases e
section
variable {X : Cx} {P : PX} {apos cpos : Pos} {o e f : Expr} {Wo Wk Wx : WE}
theorem de_get2 (hu : X.A.units + 1 < cLine) (ho : DE X P o Wo) (he : DE X P e Wk) (hf : DE X P f Wx) (m : M2 X o "get" apos e f cpos := by exact ⟨rfl, rfl, rfl, rfl⟩) : DE X P (.Call (.Attribute o "get" apos) [e, f] [] cpos) (wGet2 Wo Wk Wx) := by
  obtain ⟨to, qo, ho⟩ := ho.ex
  obtain ⟨te, qe, he⟩ := he.ex
  obtain ⟨tf, qf, hf⟩ := hf.ex
  refine ⟨_, pe_dget2 hu qo qe qf m, fun w σ s H O Q R rs ro w po => ?_⟩
  refine ho _ _ _ _ _ _ _ rs ro w fun v H1 Z1 d O1 s1 r1 e1 ⟨h0, w1⟩ => ?_
  obtain ⟨p, rfl, hp⟩ := isD_of r1 e1 h0
  refine ⟨p, rfl, hp, ?_⟩
  refine he _ _ _ _ _ _ _ (rs.mono s1) r1 w1 fun u H2 Z2 y O2 s2 r2 e2 w2 => ?_
  obtain ⟨y, rfl, w2⟩ := isD_ex w2
  refine hf _ _ _ _ _ _ _ (rs.mono (s1.trans s2)) r2 w2 fun u3 H3 Z3 z O3 s3 r3 e3 w3 => ?_
  obtain ⟨z, rfl, w4⟩ := isD_ex w3
  obtain ⟨p', ov, od, ep, g, q, ei, hv⟩ := getQ_ok r3 (e1.mono (s2.trans s3)) (e2.mono s3).toD w4
  cases ep
  exact ⟨_, g, po _ _ _ _ _ (s1.trans (s2.trans s3)) r3 (.d (getD_rep ei hv e3.toD)) q⟩
theorem de_get1 (hu : X.A.units + 1 < cLine) (ho : DE X P o Wo) (he : DE X P e Wk) (m : M1 X o "get" apos e cpos := by exact ⟨rfl, rfl, rfl, rfl⟩) : DE X P (.Call (.Attribute o "get" apos) [e] [] cpos) (wGet1 Wo Wk) := by
  obtain ⟨to, qo, ho⟩ := ho.ex
  obtain ⟨te, qe, he⟩ := he.ex
  refine ⟨_, pe_dget1 hu qo qe m, fun w σ s H O Q R rs ro w po => ?_⟩
  refine ho _ _ _ _ _ _ _ rs ro w fun v H1 Z1 d O1 s1 r1 e1 ⟨h0, w1⟩ => ?_
  obtain ⟨p, rfl, hp⟩ := isD_of r1 e1 h0
  refine ⟨p, rfl, hp, ?_⟩
  refine he _ _ _ _ _ _ _ (rs.mono s1) r1 w1 fun u H2 Z2 y O2 s2 r2 e2 w2 => ?_
  obtain ⟨y, rfl, w4⟩ := isD_ex w2
  obtain ⟨p', ov, od, ep, g, q, ei, hv⟩ := getQ_ok r2 (e1.mono s2) e2.toD w4
  cases ep
  exact ⟨_, g, po _ _ _ _ _ (s1.trans s2) r2 (.d (getD_rep ei hv .non)) q⟩
end

/-! ### methods of own containers -/
abbrev OMF := CM → List BV → OO → (D → CM → Prop) → Prop
structure OMt (X : Cx) (T id : String) (f : OMF) : Prop where
  ex : ∃ r, MtR X id r ∧ ∀ w H O p m u bs vs K (R : V → Hp → Prop), RelO w H O → w p = some (.own u) → CRep w m u → BReps w bs vs → f m bs O K →
    (∀ u' m' x v, CRep w m' u' → Rep w x v → K x m' → R v (upd H p u')) → r (.ref p) vs H R
def tyC : CM → String
  | .lst _ => "list"
  | _ => "dict"
theorem tyC_ok {w : Wd} {H : Hp} {K : PySem.W.Frag} {m : CM} {u : HO} {p : Addr} (cr : CRep w m u) (hp : H p = some u) (h : ∀ kvs, m ≠ .ldic kvs) (h' : ∀ kvs, m ≠ .ldct kvs) : tyV K (tyC m) (.ref p) H := by
  cases m with
  | lst ds => obtain ⟨vs, rfl, _⟩ := cr; exact .inl ⟨rfl, vs, .inl (.inl hp)⟩
  | dic ds => obtain ⟨vs, rfl, _⟩ := cr; exact .inr (.inr (.inl ⟨rfl, .inl ⟨vs, hp⟩⟩))
  | dct ds => obtain ⟨vs, rfl, _⟩ := cr; exact .inr (.inr (.inl ⟨rfl, .inr ⟨vs, hp⟩⟩))
  | ldic kvs => exact absurd rfl (h kvs)
  | ldct kvs => exact absurd rfl (h' kvs)
def oApp : OMF := fun m bs O K => match m, bs with | .lst ds, [.d y] => ds.length < sizeLine ∧ K .non (.lst (ds ++ [y])) | _, _ => False
def oPop : OMF := fun m bs O K => match m, bs with
  | .lst ds, [] => ∃ y, ds[ds.length - 1]? = some y ∧ K y (.lst ds.dropLast)
  | _, _ => False
def oPopAt : OMF := fun m bs O K => match m, bs with
  | .lst ds, [.d (.int i)] => 0 ≤ i ∧ ds.length ≤ sizeLine ∧ ∃ y, ds[i.toNat]? = some y ∧ K y (.lst (ds.eraseIdx i.toNat))
  | _, _ => False
def oExt : OMF := fun m bs O K => match m, bs with
  | .lst ds, [x] => ∃ es, asL x O = some es ∧ (∀ o, x ≠ .c o m) ∧ ds.length + es.length ≤ sizeLine ∧ K .non (.lst (ds ++ es))
  | _, _ => False
def oUpd : OMF := fun m bs O K => match m, bs with
  | .dic ds, [x] => ∃ es, asK x O = some es ∧ (∀ o kvs, x ≠ .c o (.dic kvs)) ∧ ds.length + es.length ≤ sizeLine ∧ K .non (.dic (mergeG ds es))
  | _, _ => False
def oIns : OMF := fun m bs O K => match m, bs with
  | .lst ds, [.d (.int i), .d y] => ds.length < sizeLine ∧ 0 ≤ i ∧ i < 2 ^ 63 ∧ K .non (.lst (ds.take i.toNat ++ [y] ++ ds.drop i.toNat))
  | _, _ => False
section
variable {X : Cx}
theorem om_app : OMt X "list" "list.append" oApp := by
  refine ⟨_, mt_append, fun w H O p m u bs vs K R ro hw cr rb q k => ?_⟩
  unfold oApp at q
  split at q
  · obtain ⟨ws, rfl, r⟩ := cr
    obtain ⟨v, rfl, rv⟩ := rb.one_ex
    exact ⟨p, ws, v, rfl, rfl, ro.cell _ _ hw, by rw [← r.length]; exact q.1, k _ (.lst _) _ _ ⟨_, rfl, r.append (.one rv.toD)⟩ .non q.2⟩
  · exact q.elim
theorem om_pop : OMt X "list" "list.pop" oPop := by
  refine ⟨_, mt_pop, fun w H O p m u bs vs K R ro hw cr rb q k => ?_⟩
  unfold oPop at q
  split at q
  · obtain ⟨ws, rfl, r⟩ := cr
    cases rb
    obtain ⟨y, hy, q⟩ := q
    obtain ⟨v, hv, rv⟩ := r.get hy
    rw [r.length] at hv
    exact ⟨p, ws, v, rfl, rfl, ro.cell _ _ hw, hv, k _ (.lst _) _ _ ⟨_, rfl, r.dropLast⟩ rv q⟩
  · exact q.elim
theorem om_popAt : OMt X "list" "list.pop" oPopAt := by
  refine ⟨_, mt_popAt, fun w H O p m u bs vs K R ro hw cr rb q k => ?_⟩
  unfold oPopAt at q
  split at q
  · rename_i ds i
    obtain ⟨ws, rfl, r⟩ := cr
    obtain ⟨v0, rfl, rv0⟩ := rb.one_ex
    cases rv0.toD
    obtain ⟨h0, hz, y, hy, q⟩ := q
    obtain ⟨v, hv, rv⟩ := r.get hy
    have hl : i.toNat < ds.length := (List.getElem?_eq_some_iff.mp hy).1
    have sz := sizeLine_eq
    refine ⟨p, ws, i, i.toNat, v, rfl, rfl, ro.cell _ _ hw, by omega, by omega, ?_, hv, k _ (.lst _) _ _ ⟨_, rfl, r.eraseIdx _⟩ rv q⟩
    rw [← r.length]
    unfold seqIndex?
    have e1 : ¬ (i < 0) := by omega
    have e2 : (i : Int) < (ds.length : Int) := by omega
    simp [e1, e2, h0]
  · exact q.elim
theorem om_ext : OMt X "list" "list.extend" oExt := by
  refine ⟨_, mt_extend, fun w H O p m u bs vs K R ro hw cr rb q k => ?_⟩
  unfold oExt at q
  split at q
  · obtain ⟨ws, rfl, r⟩ := cr
    obtain ⟨v, rfl, rv⟩ := rb.one_ex
    obtain ⟨es, he, hne, hl, q⟩ := q
    obtain ⟨b, us, rfl, hb, r2⟩ := asL_ok ro rv he
    exact ⟨p, b, ws, us, rfl, rfl, ro.cell _ _ hw, hb, by rw [← r.length, ← r2.length]; exact hl, k _ (.lst _) _ _ ⟨_, rfl, r.append r2⟩ .non q⟩
  · exact q.elim
theorem om_upd : OMt X "dict" "dict.update" oUpd := by
  refine ⟨_, mt_update, fun w H O p m u bs vs K R ro hw cr rb q k => ?_⟩
  unfold oUpd at q
  split at q
  · obtain ⟨ws, rfl, r⟩ := cr
    obtain ⟨v, rfl, rv⟩ := rb.one_ex
    obtain ⟨es, he, hne, hl, q⟩ := q
    obtain ⟨b, us, rfl, hb, r2⟩ := asK_ok ro rv he
    have hp := ro.cell _ _ hw
    have hab : p ≠ b := fun z => by
      subst z
      cases rv with
      | own e' c =>
        rename_i m' u'
        rw [hw] at e'
        cases e'
        cases m' with
        | dic kvs => exact hne _ kvs rfl
        | ldic kvs => obtain ⟨o, us', e2, _⟩ := c; cases e2
        | lst _ => cases he
        | dct _ => cases he
        | ldct _ => cases he
      | fix e' c => rw [hw] at e'; cases e'
      | d rv =>
        cases rv with
        | ref =>
          rename_i ds
          replace he : asKM (O p) = some es := he
          cases e2 : O p with
          | none => rw [e2] at he; cases he
          | some m => rw [ro.off _ _ e2] at hw; cases hw
        | dic ez rz => rw [hw] at ez; cases ez
        | tup ez rz => cases he
        | lst ez rz => cases he
        | dct ez rz => cases he
        | tape ez => cases he
    exact ⟨p, b, ws, us, rfl, rfl, hab, hp, hb, by rw [← r.length, ← r2.length]; exact hl, k _ (.dic _) _ _ ⟨_, rfl, r2.merge r⟩ .non q⟩
  · exact q.elim
theorem om_ins : OMt X "list" "list.insert" oIns := by
  refine ⟨_, mt_insert, fun w H O p m u bs vs K R ro hw cr rb q k => ?_⟩
  unfold oIns at q
  split at q
  · rename_i ds i y
    obtain ⟨ws, rfl, r⟩ := cr
    obtain ⟨v, v2, rfl, rv, rv2⟩ := rb.two_ex
    cases rv.toD
    obtain ⟨hl, h0, h1, q⟩ := q
    exact ⟨p, ws, i, v2, rfl, rfl, ro.cell _ _ hw, by rw [← r.length]; exact hl, h0, h1, k _ (.lst _) _ _ ⟨_, rfl, ((r.take _).append (.one rv2.toD)).append (r.drop _)⟩ .non q⟩
  · exact q.elim
end
def ownQ (x : SV) (K : CM → Prop) : Prop := match x with | .o m => K m | _ => False
theorem ownQ_ex {x K} (h : ownQ x K) : ∃ m, x = .o m ∧ K m := by cases x with | o m => exact ⟨m, rfl, h⟩ | d => exact h.elim | b => exact h.elim
/-- x.m(..) of an own container in slot i, as an expression that changes it -/
abbrev WM := SD → OO → (D → SD → OO → Prop) → Prop
def PostM (P : PX) (w : Wd) (σ : L2.St) (Q : D → SD → OO → Prop) (R : V → Hp → Prop) : Prop := ∀ v H' w' x s' O', ExtS w w' → RelS P w' σ s' → RelO w' H' O' → Rep w' x v → Q x s' O' → R v H'
structure DM (X : Cx) (P : PX) (e : Expr) (W : WM) : Prop where
  ex : ∃ t, PE X e t ∧ ∀ w σ s H O Q R, RelS P w σ s → RelO w H O → W s O Q → PostM P w σ Q R → t σ H R
theorem dm_of {X : Cx} {P : PX} {e : Expr} {W : WE} (h : DE X P e W) : DM X P e (fun s O Q => W s O fun x O1 => isD x fun d => Q d s O1) := by
  obtain ⟨t, p, h⟩ := h.ex
  refine ⟨t, p, fun w σ s H O Q R rs ro w po => h _ _ _ _ _ _ _ rs ro w fun v H1 Z1 d O1 s1 r1 e1 w1 => ?_⟩
  obtain ⟨d, rfl, w1⟩ := isD_ex w1
  exact po _ _ _ _ _ _ s1.s (rs.mono s1) r1 e1.toD w1
def wOm (i : Nat) (T : String) (f : OMF) (W : WA) : WM := fun s O Q => (look s i fun x => ownQ x fun m => T = tyC m ∧ (∀ kvs, m ≠ .ldic kvs) ∧ (∀ kvs, m ≠ .ldct kvs)) ∧ W s O fun bs O1 => look s i fun x => ownQ x fun m => f m bs O1 fun x m' => Q x (s.set i (some (.o m'))) O1
section
variable {X : Cx} {P : PX} {apos cpos npos : Pos} {o e : Expr} {es : List Expr} {W : WA} {name x : Str} {T id : String} {f : OMF}
theorem om_fin {r : V → List V → Hp → VK → Prop} {w1 : Wd} {σ : L2.St} {s : SD} {H1 : Hp} {O1 : OO} {i : Nat} {p : Addr} {u : HO} {m : CM} {bs : List BV} {vs : List V} {Q : D → SD → OO → Prop} {R : V → Hp → Prop}
    (h : ∀ w H O p m u bs vs K (R : V → Hp → Prop), RelO w H O → w p = some (.own u) → CRep w m u → BReps w bs vs → f m bs O K → (∀ u' m' x v, CRep w m' u' → Rep w x v → K x m' → R v (upd H p u')) → r (.ref p) vs H R)
    (rs : RelS P w1 σ s) (ro : RelO w1 H1 O1) (hi : s[i]? = some (some (.o m))) (hσ : σ[i]? = some (some (.ref p))) (hw : w1 p = some (.own u)) (cr : CRep w1 m u) (rb : BReps w1 bs vs) (q : f m bs O1 fun x m' => Q x (s.set i (some (.o m'))) O1)
    (po : PostM P w1 σ Q R) : r (.ref p) vs H1 R := by
  refine h _ _ _ _ _ _ _ _ _ _ ro hw cr rb q fun u' m' x v cr' rx q' => ?_
  have ex := exts_own (u' := u') hw
  exact po _ _ _ _ _ _ ex (rs.putO hi hσ hw cr') (ro.putCell hw (fun _ z => by cases z) (fun z => by cases z) upd_same) (rx.mono ex.l) q'
theorem dm_om (i : Nat) (pa : PlainAttrs T) (slot : Slot T name id) (hty : typeOf (.builtin id) = pure (.type "method_descriptor")) (hm : OMt X T id f) (ha : DA X P (e :: es) W)
    (hN : X.N[i]? = some x := by rfl) (hv : Vis X.env.scope x := by first | exact Or.inl rfl | exact Or.inr (Or.inl rfl) | exact Or.inr (Or.inr rfl)) (hd : (x == ("__debug__" : Str)) = false := by decide) (hcd : (x == ("__classdict__" : Str)) = false := by decide)
    (hbase : attributeBase (.Name x npos) name X.env (eval (.Name x npos) X.env) = eval (.Name x npos) X.env := by rfl)
    (hfew : ((backTo cpos (starEach (e :: es) X.env)).all (fun x => !x.1) && (backToKw cpos (keywordEach [] X.env)).all (fun x => x.1.isSome)
      && decide ((e :: es).length + ([] : List Keyword).length + (if ([] : List Keyword).isEmpty then 0 else 1) < 30)) = true := by rfl)
    (hline : (apos.endLine == cpos.line) = true := by rfl) (hs : starEach (e :: es) X.env = (false, eval e X.env) :: starEach es X.env := by rfl) (hplain : (backTo cpos (starEach es X.env)).any (·.1) = false := by rfl) :
    DM X P (.Call (.Attribute (.Name x npos) name apos) (e :: es) [] cpos) (wOm i T f W) := by
  obtain ⟨r, q, h⟩ := hm.ex
  obtain ⟨t, pa2, j⟩ := ha.ex
  refine ⟨_, pe_bm pa slot hty q (pe_var hN hv hd hcd) pa2 hbase hfew hline hs hplain, fun w σ s H O Q R rs ro ⟨h0, hW⟩ po => ?_⟩
  obtain ⟨sv, e0, h0⟩ := look_ex h0
  obtain ⟨m, rfl, hT, hn1, hn2⟩ := ownQ_ex h0
  obtain ⟨v, hσ, sr⟩ := rs.at' i _ e0
  cases sr with
  | @o m p u hw cr =>
    refine ⟨_, hσ, by rw [hT]; exact tyC_ok cr (ro.cell _ _ hw) hn1 hn2, ?_⟩
    refine j _ _ _ _ _ _ _ rs ro hW fun vs H1 Z1 bs O1 l1 s1 r1 e1 w1 => ?_
    obtain ⟨sv, e2, w1⟩ := look_ex w1
    rw [e0] at e2
    cases e2
    exact om_fin h (rs.mono s1) r1 e0 hσ (s1 _ _ hw) (cr.mono s1.l) e1 w1 fun v H2 w2 x s2 O2 x2 => po v H2 w2 x s2 O2 (s1.s.trans x2)
theorem dm_om0 (i : Nat) (pa : PlainAttrs T) (slot : Slot T name id) (hty : typeOf (.builtin id) = pure (.type "method_descriptor")) (hm : OMt X T id f)
    (hN : X.N[i]? = some x := by rfl) (hv : Vis X.env.scope x := by first | exact Or.inl rfl | exact Or.inr (Or.inl rfl) | exact Or.inr (Or.inr rfl)) (hd : (x == ("__debug__" : Str)) = false := by decide) (hcd : (x == ("__classdict__" : Str)) = false := by decide)
    (hbase : attributeBase (.Name x npos) name X.env (eval (.Name x npos) X.env) = eval (.Name x npos) X.env := by rfl) (hline : (apos.endLine == cpos.line) = true := by rfl) :
    DM X P (.Call (.Attribute (.Name x npos) name apos) [] [] cpos) (wOm i T f wNil) := by
  obtain ⟨r, q, h⟩ := hm.ex
  refine ⟨_, pe_bm0 pa slot hty q (pe_var hN hv hd hcd) hbase hline, fun w σ s H O Q R rs ro ⟨h0, hW⟩ po => ?_⟩
  obtain ⟨sv, e0, h0⟩ := look_ex h0
  obtain ⟨m, rfl, hT, hn1, hn2⟩ := ownQ_ex h0
  obtain ⟨v, hσ, sr⟩ := rs.at' i _ e0
  cases sr with
  | @o m p u hw cr =>
    refine ⟨_, hσ, by rw [hT]; exact tyC_ok cr (ro.cell _ _ hw) hn1 hn2, ?_⟩
    obtain ⟨sv, e2, w1⟩ := look_ex hW
    rw [e0] at e2
    cases e2
    exact om_fin h rs ro e0 hσ hw cr .nil w1 po
/-- x.m(e), e an expression that changes own containers -/
def wOmM (i : Nat) (T : String) (f : OMF) (W : WM) : WM := fun s O Q => (look s i fun x => ownQ x fun m => T = tyC m ∧ (∀ kvs, m ≠ .ldic kvs) ∧ (∀ kvs, m ≠ .ldct kvs)) ∧ W s O fun y s1 O1 => look s1 i fun x => ownQ x fun m => f m [.d y] O1 fun x m' => Q x (s1.set i (some (.o m'))) O1
theorem dm_omM {We : WM} (i : Nat) (pa : PlainAttrs T) (slot : Slot T name id) (hty : typeOf (.builtin id) = pure (.type "method_descriptor")) (hm : OMt X T id f) (ha : DM X P e We)
    (hN : X.N[i]? = some x := by rfl) (hv : Vis X.env.scope x := by first | exact Or.inl rfl | exact Or.inr (Or.inl rfl) | exact Or.inr (Or.inr rfl)) (hd : (x == ("__debug__" : Str)) = false := by decide) (hcd : (x == ("__classdict__" : Str)) = false := by decide)
    (hbase : attributeBase (.Name x npos) name X.env (eval (.Name x npos) X.env) = eval (.Name x npos) X.env := by rfl)
    (hfew : ((backTo cpos (starEach [e] X.env)).all (fun x => !x.1) && (backToKw cpos (keywordEach [] X.env)).all (fun x => x.1.isSome)
      && decide ([e].length + ([] : List Keyword).length + (if ([] : List Keyword).isEmpty then 0 else 1) < 30)) = true := by rfl)
    (hline : (apos.endLine == cpos.line) = true := by rfl) (hs : starEach [e] X.env = (false, eval e X.env) :: starEach [] X.env := by rfl) (hplain : (backTo cpos (starEach [] X.env)).any (·.1) = false := by rfl) :
    DM X P (.Call (.Attribute (.Name x npos) name apos) [e] [] cpos) (wOmM i T f We) := by
  obtain ⟨r, q, h⟩ := hm.ex
  obtain ⟨t, pa2, j⟩ := ha.ex
  refine ⟨_, pe_bm pa slot hty q (pe_var hN hv hd hcd) (pa_cons pa2 pa_nil hs) hbase hfew hline hs hplain, fun w σ s H O Q R rs ro ⟨h0, hW⟩ po => ?_⟩
  obtain ⟨sv, e0, h0⟩ := look_ex h0
  obtain ⟨m, rfl, hT, hn1, hn2⟩ := ownQ_ex h0
  obtain ⟨v, hσ, sr⟩ := rs.at' i _ e0
  cases sr with
  | @o m p u hw cr =>
    refine ⟨_, hσ, by rw [hT]; exact tyC_ok cr (ro.cell _ _ hw) hn1 hn2, ?_⟩
    refine j _ _ _ _ _ _ _ rs ro hW fun v1 H1 Z1 y s1 O1 x1 rs1 r1 e1 w1 => ?_
    obtain ⟨sv, e2, w1⟩ := look_ex w1
    obtain ⟨m2, rfl, w1⟩ := ownQ_ex w1
    obtain ⟨v2, hσ2, sr2⟩ := rs1.at' i _ e2
    rw [hσ] at hσ2
    cases hσ2
    cases sr2 with
    | o hw2 cr2 => exact om_fin h rs1 r1 e2 hσ hw2 cr2 (.cons (.d e1) .nil) w1 fun v H2 w2 x s2 O2 x2 => po v H2 w2 x s2 O2 (x1.trans x2)
/-- a[e], e such -/
def wIxM (Wa : WE) (Wb : WM) : WM := fun s O Q => Wa s O fun x O1 => isD x fun a => Wb s O1 fun k s2 O2 => ixB (.d a) k O2 fun d => Q d s2 O2
theorem dm_ix {a b : Expr} {pos : Pos} {Wa : WE} {Wb : WM} (hu : X.A.units + 1 < cLine) (ha : DE X P a Wa) (hb : DM X P b Wb) (hs : PlainIx b := by exact fun _ _ => rfl) : DM X P (.Subscript a b pos) (wIxM Wa Wb) := by
  obtain ⟨ta, pa, ha⟩ := ha.ex
  obtain ⟨tb, pb, hb⟩ := hb.ex
  refine ⟨_, pe_ix (ix_seq.or (ix_dict hu)) pa pb hs, fun w σ s H O Q R rs ro w po => ?_⟩
  refine ha _ _ _ _ _ _ _ rs ro w fun v H1 Z1 d O1 s1 r1 e1 w1 => ?_
  obtain ⟨a, rfl, w1⟩ := isD_ex w1
  refine hb _ _ _ _ _ _ _ (rs.mono s1) r1 w1 fun u H2 Z2 k s2 O2 x2 rs2 r2 e2 w2 => ?_
  have e1' : BRep Z2 (.d a) v := .d (e1.toD.mono x2.l)
  have fin : ∀ d vd, Rep Z2 d vd → Q d s2 O2 → R vd H2 := fun d vd rd q => po _ _ _ _ _ _ (s1.s.trans x2) rs2 r2 rd q
  rcases ixB_cases w2 with ⟨ds, i, x, hd, rfl, hi, q⟩ | h | ⟨z, i, c, e', rfl, hz, hc, q⟩
  · obtain ⟨p, vs, rfl, hp, r⟩ := asS_ok X.K r2 e1' hd
    obtain ⟨w, hw, rw'⟩ := atI_rep r hi
    cases e2
    rcases hp with hp | hp
    · exact .inl (.inl ⟨p, vs, i, w, rfl, rfl, hp, hw, fin _ _ rw' q⟩)
    · exact .inl (.inr (.inl ⟨p, vs, i, w, rfl, rfl, hp, hw, fin _ _ rw' q⟩))
  · obtain ⟨p, o, d, rfl, g, ⟨d', rfl, q⟩, _, hv⟩ := getQ_ok r2 e1' e2 h
    obtain ⟨v, rfl, rv⟩ := hv _ rfl
    exact .inr ⟨p, v, rfl, g, fin _ _ rv q⟩
  · cases e2
    cases e'
    cases e1'.toD
    exact .inl (.inr (.inr ⟨z, i, c, rfl, rfl, hz, hc, fin _ _ .str q⟩))
end
section
variable {X : Cx} {P : PX} {pos : Pos} {e : Expr} {We : WM}
def wExpM (We : WM) : WS := fun D s O => We s O fun _ s1 O1 => D.nx s1 O1
def wSetM (i : Nat) (We : WM) : WS := fun D s O => We s O fun d s1 O1 => D.nx (s1.set i (some (.d d))) O1
def wRetM (We : WM) : WS := fun D s O => We s O fun d _ O1 => D.rt d O1
theorem ds_exprM (he : DM X P e We) (hs : swapsWith e none pos.line X.env = pure false := by rfl) : DS X P (.Expr e pos) (wExpM We) := by
  obtain ⟨t, p, h⟩ := he.ex
  exact ⟨_, ps_expr p hs, fun w σ s H O D E rs ro w po => h _ _ _ _ _ _ _ rs ro w fun v H1 Z1 d s1 O1 x1 rs1 r1 e1 w1 => po.nx _ _ _ _ _ x1 rs1 r1 w1⟩
theorem ds_setM (i : Nat) {x : Str} {pos' : Pos} (hN : X.N.Nodup) (he : DM X P e We) (hi : X.N[i]? = some x := by rfl) (hx : Loc X.env.scope x := by first | exact .inl rfl | exact .inr rfl) (hs : swapsWith e (some (.Name x pos')) pos.line X.env = pure false := by rfl)
    (hf : X.fn x = true ∨ X.env.scope.names.lookup x = some .local := by first | exact .inl rfl | exact .inr rfl | assumption) : DS X P (.Assign [.Name x pos'] e pos) (wSetM i We) := by
  obtain ⟨t, p, h⟩ := he.ex
  exact ⟨_, ps_set hN hi hx p hs hf, fun w σ s H O D E rs ro w po => h _ _ _ _ _ _ _ rs ro w fun v H1 Z1 d s1 O1 x1 rs1 r1 e1 w1 => po.nx _ _ _ _ _ x1 (rs1.set i e1) r1 w1⟩
theorem ds_retM (he : DM X P e We) : DS X P (.Return (some e) pos) (wRetM We) := by
  obtain ⟨t, p, h⟩ := he.ex
  exact ⟨_, ps_ret p, fun w σ s H O D E rs ro w po => h _ _ _ _ _ _ _ rs ro w fun v H1 Z1 d s1 O1 x1 rs1 r1 e1 w1 => po.rt _ _ _ _ _ x1 r1 e1 w1⟩
end
end VD

set_option Elab.async false
set_option linter.all false
set_option maxRecDepth 100000
set_option maxHeartbeats 1000000
/-! VD: item stores, attributes, displays, several names at once -/
namespace VD
open PySem PySem.Spec PyProof.Rows L2

/-! ### x[i] = v -/
def setC (m : CM) (y d : D) (K : CM → Prop) : Prop := match m with
  | .lst ds => (match y with | .int k => ∃ j, ixN ds.length k = some j ∧ K (.lst (ds.set j d)) | _ => False)
  | .dic kvs => (match keyD y with | some k => kvs.length < sizeLine ∧ K (.dic (putG kvs k d)) | none => False)
  | .dct kvs => (match keyT y with | some k => kvs.length < sizeLine ∧ K (.dct (putG kvs k d)) | none => False)
  | _ => False
def setM (a : Addr) (y d : D) (O : OO) (Q : OO → Prop) : Option MO → Prop
  | some (.lst ds) => setC (.lst ds) y d fun m => match m with | .lst ds => Q (updO O a (.lst ds)) | _ => False
  | some (.dic ds) => setC (.dic ds) y d fun m => match m with | .dic ds => Q (updO O a (.dic ds)) | _ => False
  | some (.dct ds) => setC (.dct ds) y d fun m => match m with | .dct ds => Q (updO O a (.dct ds)) | _ => False
  | _ => False
def refQ (x : BV) (K : Addr → Prop) : Prop := match x with | .d (.ref a) => K a | _ => False
theorem refQ_ex {x K} (h : refQ x K) : ∃ a, x = .d (.ref a) ∧ K a := by
  unfold refQ at h
  split at h
  · exact ⟨_, rfl, h⟩
  · exact h.elim
def wgSub (Wo Wi : WE) : WG := fun d s O Q => Wo s O fun x O1 => refQ x fun a => Wi s O1 fun y O2 => isD y fun y => setM a y d O2 (fun O3 => Q s O3) (O2 a)
def wgOSub (i : Nat) (Wi : WE) : WG := fun d s O Q => (look s i fun sv => ownQ sv fun _ => True) ∧ Wi s O fun y O1 => isD y fun y => look s i fun sv => ownQ sv fun m => setC m y d fun m' => Q (s.set i (some (.o m'))) O1
theorem pset_or {X : Cx} {t t' : TSet} (h : PSet X t) (h' : PSet X t') : PSet X (fun o i v H Q => t o i v H Q ∨ t' o i v H Q) := fun pins s σ H o i v ov iv u Q I ro ri rv q =>
  q.elim (h pins s σ H o i v ov iv u Q I ro ri rv) (h' pins s σ H o i v ov iv u Q I ro ri rv)
/-- the store, by values -/
theorem setC_ok {w : Wd} {H : Hp} {O : OO} {m : CM} {y d : D} {p : Addr} {u : HO} {vy vd : V} {K : CM → Prop} {R : Hp → Prop} (ro : RelO w H O) (hp : H p = some u) (cr : CRep w m u) (ry : Rep w y vy) (rd : Rep w d vd) (h : setC m y d K)
    (k : ∀ m' u', CRep w m' u' → K m' → R (upd H p u')) :
    (∃ l xs n j, V.ref p = .ref l ∧ vy = .int n ∧ H l = some (.lst xs) ∧ ixN xs.length n = some j ∧ R (upd H l (.lst (xs.set j vd)))) ∨ (∃ a H', V.ref p = .ref a ∧ DPut H a vy vd H' ∧ R H') := by
  unfold setC at h
  split at h
  · obtain ⟨vs, rfl, r⟩ := cr
    split at h
    · obtain ⟨j, hj, q⟩ := h
      cases ry
      exact .inl ⟨p, vs, _, j, rfl, rfl, hp, by rw [← r.length]; exact hj, k (.lst _) _ ⟨_, rfl, r.set rd j⟩ q⟩
    · exact h.elim
  · obtain ⟨us, rfl, r⟩ := cr
    split at h
    · rename_i k' hk
      exact .inr ⟨p, _, rfl, .inl ⟨us, k', hp, keyD_ok ry hk, by rw [← r.length]; exact h.1, rfl⟩, k (.dic _) _ ⟨_, rfl, r.put rd⟩ h.2⟩
    · exact h.elim
  · obtain ⟨us, rfl, r⟩ := cr
    split at h
    · rename_i k' hk
      obtain ⟨b, rfl, hb⟩ := keyT_ok ro ry hk
      exact .inr ⟨p, _, rfl, .inr ⟨us, k', b, hp, rfl, hb, by rw [← r.length]; exact h.1, rfl⟩, k (.dct _) _ ⟨_, rfl, r.put rd⟩ h.2⟩
    · exact h.elim
  · exact h.elim
section
variable {X : Cx} {P : PX} {pos npos : Pos} {o i : Expr} {Wo Wi : WE} {x : Str}
theorem dg_sub (hu : X.A.units + 1 < cLine) (ho : DE X P o Wo) (hi : DE X P i Wi)
    (ha : ∀ v, assign (.Subscript o i pos) X.env v = (do
      let ov ← holding [v] (eval o X.env)
      let iv ← holding [v, ov] (eval i X.env)
      standAt pos
      holding [v, ov, iv] (setItem ov iv v)
      release [v, ov, iv] []) := by intro _; rfl) : DG X P (.Subscript o i pos) (wgSub Wo Wi) := by
  obtain ⟨to, qo, ho⟩ := ho.ex
  obtain ⟨ti, qi, hi⟩ := hi.ex
  refine ⟨_, pg_sub qo qi (pset_or set_list (set_dict hu)) ha, fun w σ s H O d v Q R rs ro r q po => ?_⟩
  refine ho _ _ _ _ _ _ _ rs ro q fun u H1 Z1 x O1 s1 r1 e1 w1 => ?_
  obtain ⟨a, rfl, w2⟩ := refQ_ex w1
  refine hi _ _ _ _ _ _ _ (rs.mono s1) r1 w2 fun u2 H2 Z2 y O2 s2 r2 e2 w3 => ?_
  obtain ⟨y, rfl, w4⟩ := isD_ex w3
  cases e1.toD
  have sm := s1.trans s2
  unfold setM at w4
  split at w4
  · rename_i ds e
    obtain ⟨vs, hu', ru⟩ := r2.own _ _ e
    rcases setC_ok (R := fun H => R σ H) r2 hu' (m := .lst ds) ⟨vs, rfl, ru⟩ e2.toD (r.mono sm.l) w4 (fun m' u' cr q => by
      cases m' <;> first | exact q.elim | skip
      obtain ⟨vs', rfl, ru'⟩ := cr
      exact po _ _ _ _ _ sm.s (rs.mono sm) (r2.put (m' := .lst _) e ⟨vs', upd_same, ru'⟩) q) with z | z
    · exact .inl z
    · exact .inr z
  · rename_i ds e
    obtain ⟨vs, hu', ru⟩ := r2.own _ _ e
    rcases setC_ok (R := fun H => R σ H) r2 hu' (m := .dic ds) ⟨vs, rfl, ru⟩ e2.toD (r.mono sm.l) w4 (fun m' u' cr q => by
      cases m' <;> first | exact q.elim | skip
      obtain ⟨vs', rfl, ru'⟩ := cr
      exact po _ _ _ _ _ sm.s (rs.mono sm) (r2.put (m' := .dic _) e ⟨vs', upd_same, ru'⟩) q) with z | z
    · exact .inl z
    · exact .inr z
  · rename_i ds e
    obtain ⟨vs, hu', ru⟩ := r2.own _ _ e
    rcases setC_ok (R := fun H => R σ H) r2 hu' (m := .dct ds) ⟨vs, rfl, ru⟩ e2.toD (r.mono sm.l) w4 (fun m' u' cr q => by
      cases m' <;> first | exact q.elim | skip
      obtain ⟨vs', rfl, ru'⟩ := cr
      exact po _ _ _ _ _ sm.s (rs.mono sm) (r2.put (m' := .dct _) e ⟨vs', upd_same, ru'⟩) q) with z | z
    · exact .inl z
    · exact .inr z
  · exact w4.elim
theorem dg_osub (j : Nat) (hu : X.A.units + 1 < cLine) (hi : DE X P i Wi)
    (hN : X.N[j]? = some x := by rfl) (hv : Vis X.env.scope x := by first | exact Or.inl rfl | exact Or.inr (Or.inl rfl) | exact Or.inr (Or.inr rfl)) (hd : (x == ("__debug__" : Str)) = false := by decide) (hcd : (x == ("__classdict__" : Str)) = false := by decide)
    (ha : ∀ v, assign (.Subscript (.Name x npos) i pos) X.env v = (do
      let ov ← holding [v] (eval (.Name x npos) X.env)
      let iv ← holding [v, ov] (eval i X.env)
      standAt pos
      holding [v, ov, iv] (setItem ov iv v)
      release [v, ov, iv] []) := by intro _; rfl) : DG X P (.Subscript (.Name x npos) i pos) (wgOSub j Wi) := by
  obtain ⟨ti, qi, hi⟩ := hi.ex
  refine ⟨_, pg_sub (pe_var hN hv hd hcd) qi (pset_or set_list (set_dict hu)) ha, fun w σ s H O d v Q R rs ro r q po => ?_⟩
  obtain ⟨q0, q⟩ := q
  obtain ⟨sv, e0, q0⟩ := look_ex q0
  obtain ⟨m, rfl, _⟩ := ownQ_ex q0
  obtain ⟨v0, hσ, sr⟩ := rs.at' j _ e0
  cases sr with
  | @o m p u hw cr =>
    refine ⟨_, hσ, ?_⟩
    refine hi _ _ _ _ _ _ _ rs ro q fun u2 H2 Z2 y O2 s2 r2 e2 w3 => ?_
    obtain ⟨y, rfl, w4⟩ := isD_ex w3
    obtain ⟨sv, e3, w5⟩ := look_ex w4
    rw [e0] at e3
    cases e3
    have hw2 := s2 _ _ hw
    rcases setC_ok (K := fun m' => Q (s.set j (some (.o m'))) O2) (R := fun H => R σ H) r2 (r2.cell _ _ hw2) (cr.mono s2.l) e2.toD (r.mono s2.l) w5 (fun m' u' cr' q => by
      have ex := exts_own (u' := u') hw2
      exact po _ _ _ _ _ (s2.s.trans ex) ((rs.mono s2).putO e0 hσ hw2 cr') (r2.putCell hw2 (fun _ z => by cases z) (fun z => by cases z) upd_same) q) with z | z
    · exact .inl z
    · exact .inr z
end

/-! ### attributes -/
def putFD (f : Str) (v : D) : List (Str × D) → List (Str × D)
  | [] => [(f, v)]
  | (g, x) :: r => if g = f then (g, v) :: r else (g, x) :: putFD f v r
theorem RepF.put {w : Wd} {f : Str} {d : D} {v : V} (h : Rep w d v) : ∀ {fs us}, RepF w fs us → RepF w (putFD f d fs) (putF f v us)
  | [], _, e => by
    subst e
    exact ⟨v, [], rfl, h, rfl⟩
  | (g, x) :: r, _, ⟨w, t, e, hw, ht⟩ => by
    subst e
    unfold putFD putF
    by_cases hg : g = f
    · rw [if_pos hg, if_pos hg]
      exact ⟨v, t, rfl, h, ht⟩
    · rw [if_neg hg, if_neg hg]
      exact ⟨w, _, rfl, hw, RepF.put h ht⟩
theorem RepF.len {w : Wd} : ∀ {fs us}, RepF w fs us → fs.length = us.length
  | [], _, e => by subst e; rfl
  | (g, x) :: r, _, ⟨w, t, e, hw, ht⟩ => by subst e; simp [RepF.len ht]
def fldM (C : Addr) (f : Str) (Q : D → Prop) : Option MO → Prop
  | some (.ins C' fs) => C' = C ∧ match fs.lookup f with | some v => Q v | none => False
  | _ => False
def wFld (C : Addr) (f : Str) (Wo : WE) : WE := fun s O Q => Wo s O fun x O1 => refQ x fun a => fldM C f (fun v => Q (.d v) O1) (O1 a)
def sfldM (C : Addr) (a : Addr) (f : Str) (y : D) (O : OO) (Q : OO → Prop) : Option MO → Prop
  | some (.ins C' fs) => C' = C ∧ fs.length < 1000 ∧ Q (updO O a (.ins C (putFD f y fs)))
  | _ => False
def wSFld (C : Addr) (f : Str) (Wo Wv : WE) : WS := fun D s O => Wv s O fun y O1 => isD y fun y => Wo s O1 fun x O2 => refQ x fun a => sfldM C a f y O2 (D.nx s) (O2 a)
theorem fldM_ex {C f Q m} (h : fldM C f Q m) : ∃ fs v, m = some (.ins C fs) ∧ fs.lookup f = some v ∧ Q v := by
  unfold fldM at h
  split at h
  · obtain ⟨rfl, h⟩ := h
    split at h
    · rename_i e; exact ⟨_, _, rfl, e, h⟩
    · exact h.elim
  · exact h.elim
theorem sfldM_ex {C a f y O Q m} (h : sfldM C a f y O Q m) : ∃ fs, m = some (.ins C fs) ∧ fs.length < 1000 ∧ Q (updO O a (.ins C (putFD f y fs))) := by
  unfold sfldM at h
  split at h
  · obtain ⟨rfl, h⟩ := h
    exact ⟨_, rfl, h⟩
  · exact h.elim
section
variable {X : Cx} {P : PX} {pos pos' : Pos} {o value : Expr} {Wo Wv : WE} {C : Addr} {f : Str}
theorem de_fld (c : Cls X.K C) (n : NoAttr X.K C f) (ho : DE X P o Wo) (hb : attributeBase o f X.env (eval o X.env) = eval o X.env := by rfl) : DE X P (.Attribute o f pos) (wFld C f Wo) := by
  obtain ⟨to, qo, ho⟩ := ho.ex
  refine ⟨_, pe_fld qo hb, fun w σ s H O Q R rs ro w po => ?_⟩
  refine ho _ _ _ _ _ _ _ rs ro w fun v H1 Z1 x O1 s1 r1 e1 w1 => ?_
  obtain ⟨a, rfl, w2⟩ := refQ_ex w1
  obtain ⟨fs, x, e, el, q⟩ := fldM_ex w2
  cases e1.toD
  obtain ⟨dx, us, hu, ru⟩ := r1.own _ _ e
  obtain ⟨w, hw, rw'⟩ := ru.lookup_some el
  exact ⟨a, _, dx, us, w, rfl, hu, c, n, hw, po _ _ _ _ _ s1 r1 (.d rw') q⟩
theorem ds_fld (c : Cls X.K C) (n : NoAttr X.K C f) (ho : DE X P o Wo) (hv : DE X P value Wv) (hs : swapsWith value (some (.Attribute o f pos')) pos.line X.env = pure false := by rfl) : DS X P (.Assign [.Attribute o f pos'] value pos) (wSFld C f Wo Wv) := by
  obtain ⟨to, qo, ho⟩ := ho.ex
  obtain ⟨tv, qv, hv⟩ := hv.ex
  refine ⟨_, ps_fld qo qv hs, fun w σ s H O D E rs ro w po => ?_⟩
  refine hv _ _ _ _ _ _ _ rs ro w fun v H1 Z1 y O1 s1 r1 e1 w1 => ?_
  obtain ⟨y, rfl, w2⟩ := isD_ex w1
  refine ho _ _ _ _ _ _ _ (rs.mono s1) r1 w2 fun u H2 Z2 d O2 s2 r2 e2 w3 => ?_
  obtain ⟨a, rfl, w4⟩ := refQ_ex w3
  obtain ⟨fs, e, hl, q⟩ := sfldM_ex w4
  cases e2.toD
  obtain ⟨dx, us, hu, ru⟩ := r2.own _ _ e
  refine ⟨a, _, dx, us, rfl, hu, c, n, by rw [← ru.len]; exact hl, ?_⟩
  exact po.nx _ _ _ _ _ (s1.trans s2).s (rs.mono (s1.trans s2)) (r2.put (m' := .ins _ (putFD f y fs)) e ⟨dx, _, upd_same, ru.put (e1.toD.mono s2.l)⟩) q
/-- e.f += n, e.f -= n (ints) -/
def wFAug (g : Int → Int → Int) (C : Addr) (f : Str) (Wo Wv : WE) : WS := fun D s O => Wo s O fun x O1 => refQ x fun a => ∃ fs i, O1 a = some (.ins C fs) ∧ fs.lookup f = some (.int i) ∧ Wv s O1 fun y O2 => intQ y fun j => sfldM C a f (.int (g i j)) O2 (D.nx s) (O2 a)
theorem ds_faug {op : Operator} {g : Int → Int → Int} (hop : InOp X op fun x y H Q => ∃ i j, x = .int i ∧ y = .int j ∧ Q (.int (g i j)) H) (c : Cls X.K C) (n : NoAttr X.K C f) (ho : DE X P o Wo) (hv : DE X P value Wv) : DS X P (.AugAssign (.Attribute o f pos') op value pos) (wFAug g C f Wo Wv) := by
  obtain ⟨to, qo, ho⟩ := ho.ex
  obtain ⟨tv, qv, hv⟩ := hv.ex
  refine ⟨_, ps_fldaug qo qv hop, fun w σ s H O D E rs ro w po => ?_⟩
  refine ho _ _ _ _ _ _ _ rs ro w fun v H1 Z1 x O1 s1 r1 e1 w1 => ?_
  obtain ⟨a, rfl, fs, i, e, el, w2⟩ := refQ_ex w1
  cases e1.toD
  obtain ⟨dx, us, hu, ru⟩ := r1.own _ _ e
  obtain ⟨v, hv', rv⟩ := ru.lookup_some el
  cases rv
  refine ⟨a, _, dx, us, _, rfl, hu, c, n, hv', ?_⟩
  refine hv _ _ _ _ _ _ _ (rs.mono s1) r1 w2 fun u H2 Z2 y O2 s2 r2 e2 w3 => ?_
  obtain ⟨j, rfl, w4⟩ := intQ_ex w3
  cases e2.toD
  obtain ⟨fs', e', hl, q⟩ := sfldM_ex w4
  obtain ⟨dx', us', hu', ru'⟩ := r2.own _ _ e'
  refine ⟨i, j, rfl, rfl, dx', us', hu', by rw [← ru'.len]; exact hl, ?_⟩
  exact po.nx _ _ _ _ _ (s1.trans s2).s (rs.mono (s1.trans s2)) (r2.put (m' := .ins _ (putFD f (.int (g i j)) fs')) e' ⟨dx', _, upd_same, ru'.put .int⟩) q
/-- x += n (ints, texts, tuples): a local -/
def wAug (i : Nat) (g : Int → Int → Int) (We : WE) : WS := fun D s O => look s i fun sv => intQ (bvOf sv) fun a => We s O fun y O1 => intQ y fun b => D.nx (s.set i (some (.d (.int (g a b))))) O1
theorem bv_int {sv : SV} {a : Int} (h : bvOf sv = .d (.int a)) : sv = .d (.int a) := by
  cases sv with
  | d x => cases h; rfl
  | o m => cases h
  | b m => cases h
theorem ds_aug {x : Str} {e : Expr} {We : WE} {op : Operator} {g : Int → Int → Int} (i : Nat) (hN : X.N.Nodup) (hop : PIp X op (ipI g)) (he : DE X P e We) (hi : X.N[i]? = some x := by rfl) (hx : Loc X.env.scope x := by first | exact .inl rfl | exact .inr rfl)
    (hf : X.fn x = true ∨ X.env.scope.names.lookup x = some .local := by first | exact .inl rfl | exact .inr rfl | assumption) : DS X P (.AugAssign (.Name x pos') op e pos) (wAug i g We) := by
  obtain ⟨t, q, h⟩ := he.ex
  refine ⟨_, ps_aug hN hi hx q hop hf, fun w σ s H O D E rs ro w po => ?_⟩
  obtain ⟨sv, e0, w1⟩ := look_ex w
  obtain ⟨a, ea, w2⟩ := intQ_ex w1
  have := bv_int ea
  subst this
  obtain ⟨v, hv, sr⟩ := rs.at' i _ e0
  cases sr with
  | d r =>
    cases r
    refine ⟨_, hv, ?_⟩
    refine h _ _ _ _ _ _ _ rs ro w2 fun u H2 Z2 y O2 s2 r2 e2 w3 => ?_
    obtain ⟨b, rfl, w4⟩ := intQ_ex w3
    cases e2.toD
    exact ⟨a, b, rfl, rfl, po.nx _ _ _ _ _ s2.s ((rs.mono s2).set i .int) r2 w4⟩
end

/-! ### {k: v, ..} -/
def Wd.rem (w : Wd) (p : Addr) : Wd := fun b => if b = p then none else w b
theorem rem_same {w : Wd} {p} : w.rem p p = none := by simp [Wd.rem]
theorem rem_ne {w : Wd} {p b} (h : b ≠ p) : w.rem p b = w b := by simp [Wd.rem, h]
theorem rem_le {w : Wd} {p} (h : ∃ u, w p = some (.fix u)) : Le0 w (w.rem p) := by
  obtain ⟨u, h⟩ := h
  refine ⟨fun a v e => ?_, fun a e => ?_⟩ <;>
  · have : a ≠ p := fun z => by subst z; rw [h] at e; cases e
    rw [rem_ne this]; exact e
/-- a lent cell is told no more -/
theorem RelO.remCell {w : Wd} {H : Hp} {O : OO} {p : Addr} {u u' : HO} (h : RelO w H O) (e : w p = some (.fix u)) : RelO (w.rem p) (upd H p u') O where
  cell := fun a c q => by
    have ha : a ≠ p := fun z => by subst z; rw [rem_same] at q; cases q
    rw [rem_ne ha] at q
    exact ((h.cell a c q).at (upd_ne ha)).mono (rem_le ⟨u, e⟩)
  own := fun a m q => by
    have ha : a ≠ p := fun z => by subst z; rw [h.off _ _ q] at e; cases e
    exact ((h.own a m q).at (upd_ne ha)).mono (rem_le ⟨u, e⟩)
  off := fun a m q => by
    by_cases ha : a = p
    · subst ha; exact rem_same
    · rw [rem_ne ha]; exact h.off a m q
  fin := h.fin.sub fun a q z => by
    by_cases ha : a = p
    · subst ha; rw [rem_same] at z; cases z
    · rw [rem_ne ha] at z; exact z
  nx := fun a c z => by
    by_cases ha : a = p
    · subst ha; rw [rem_same] at z; cases z
    · rw [rem_ne ha] at z; exact h.nx a c z
theorem ext_rem {w w' : Wd} {p : Addr} (h : Ext w w') (n : w p = none) : Ext w (w'.rem p) := fun a x e => by
  have ha : a ≠ p := fun z => by subst z; rw [n] at e; cases e
  rw [rem_ne ha]; exact h a x e
abbrev WP := SD → OO → (List (Key × D) → OO → Prop) → Prop
structure DP (X : Cx) (P : PX) (pos : Pos) (ks : List (Option Expr)) (vs : List Expr) (W : WP) : Prop where
  ex : ∃ t, PPs X pos ks vs t ∧ ∀ w σ s H O Q (R : List (V × V) → Hp → Prop), RelS P w σ s → RelO w H O → W s O Q →
    (∀ ps H' w' kvs us O', kvs.length = ks.length → Ext w w' → RelO w' H' O' → RepK w' kvs us → ps = us.map (fun kv => (kV kv.1, kv.2)) → Q kvs O' → R ps H') → tPairs t σ H R
def wpNil : WP := fun _ O Q => Q [] O
def wpCons (Wk Wv : WE) (Wr : WP) : WP := fun s O Q => Wk s O fun y O1 => isD y fun y => Wv s O1 fun d O2 => isD d fun d => ∃ k, keyD y = some k ∧ Wr s O2 fun kvs O3 => Q ((k, d) :: kvs) O3
def wDisp (W : WP) : WN := fun s O Q => W s O fun kvs O2 => Q (.dic (mergeG [] kvs)) O2
section
variable {X : Cx} {P : PX} {pos : Pos} {k v : Expr} {ks : List (Option Expr)} {vs : List Expr} {Wk Wv : WE} {W : WP}
theorem dp_nil : DP X P pos [] [] wpNil := ⟨_, pps_nil, fun w σ s H O Q R rs ro q po => po [] H w [] [] O rfl (Ext.refl _) ro .nil rfl q⟩
theorem dp_cons (hk : DE X P k Wk) (hv : DE X P v Wv) (hr : DP X P pos ks vs W) : DP X P pos (some k :: ks) (v :: vs) (wpCons Wk Wv W) := by
  obtain ⟨tk, qk, hk⟩ := hk.ex
  obtain ⟨tv, qv, hv⟩ := hv.ex
  obtain ⟨tr, qr, hr⟩ := hr.ex
  refine ⟨_, pps_cons qk qv qr, fun w σ s H O Q R rs ro w po => ?_⟩
  refine hk _ _ _ _ _ _ _ rs ro w fun x H1 Z1 y O1 s1 r1 e1 w1 => ?_
  obtain ⟨y, rfl, w2⟩ := isD_ex w1
  refine hv _ _ _ _ _ _ _ (rs.mono s1) r1 w2 fun u H2 Z2 d O2 s2 r2 e2 w3 => ?_
  obtain ⟨d, rfl, kk, hkk, w4⟩ := isD_ex w3
  refine hr _ _ _ _ _ _ _ (rs.mono (s1.trans s2)) r2 w4 fun ps H3 Z3 kvs us O3 l3 s3 r3 e3 ep w5 => ?_
  subst ep
  refine po _ H3 Z3 ((kk, d) :: kvs) ((kk, u) :: us) O3 (by simp [l3]) (s1.trans (s2.trans s3)) r3 (.cons (e2.toD.mono s3.l) e3) ?_ w5
  rw [List.map_cons, keyD_ok e1.toD hkk]
theorem dn_disp (h : DP X P pos ks vs W) (hall : ks.all (·.isSome) = true := by rfl) (hl : ks.length = vs.length := by rfl) (h0 : ks ≠ [] := by exact fun z => nomatch z) (h15 : ks.length ≤ 15 := by decide) : DN X P (.Dict ks vs pos) (wDisp W) := by
  obtain ⟨t, q, h⟩ := h.ex
  refine ⟨_, pe_disp q hall hl h0 h15, fun w σ s H O Q R rs ro q po p hp => ?_⟩
  have nw := ro.freeW hp
  have no := ro.free hp
  have x0 := ext_put (c := .fix (.dK [])) nw
  refine h _ _ _ _ _ _ _ (rs.mono x0) ((ro.newC (u := .dK []) hp).tell nw no upd_same) q fun ps H' w' kvs us O' l' s' r' e' ep q' => ?_
  have hc : w' p = some (.fix (.dK [])) := s' _ _ put_same
  refine ⟨r'.cell _ _ hc, us, ep, by rw [← e'.length, l']; exact h15, ?_⟩
  have r2 := r'.remCell (u' := .dK (mergeK [] us)) hc
  have no' : O' p = none := by
    cases e : O' p with
    | none => rfl
    | some m => rw [r'.off _ _ e] at hc; cases hc
  exact po p _ _ _ (.dic (mergeG [] kvs)) _ (ext_rem (x0.trans s') nw) r2 rem_same no' upd_same ⟨_, rfl, (e'.mono (rem_le ⟨_, hc⟩)).merge .nil⟩ q'
end

/-! ### several names at once -/
/-- a tree, or a new container that becomes own -/
inductive NV where
  | d (x : D) | o (m : CM)
def NV.sv : NV → SV | .d x => .d x | .o m => .o m
/-- told at w', untold at w -/
inductive NRep (w w' : Wd) : NV → V → Prop
  | d {x v} : Rep w' x v → NRep w w' (.d x) v
  | o {m p u} : w p = none → w' p = some (.own u) → CRep w' m u → NRep w w' (.o m) (.ref p)
inductive NReps (w w' : Wd) : List NV → List V → Prop
  | nil : NReps w w' [] []
  | cons {x v xs vs} : NRep w w' x v → (∀ m p, x = .o m → v = .ref p → ∀ (j : Nat) n q, xs[j]? = some (.o n) → vs[j]? = some (.ref q) → q ≠ p) → NReps w w' xs vs → NReps w w' (x :: xs) (v :: vs)
theorem NRep.low {w0 w w' : Wd} (h : Ext w0 w) : ∀ {x v}, NRep w w' x v → NRep w0 w' x v
  | _, _, .d r => .d r
  | _, _, .o (p := p) n e c => .o (by
      cases q : w0 p with
      | none => rfl
      | some x => rw [h _ _ q] at n; cases n) e c
theorem NReps.low {w0 w w' : Wd} (h : Ext w0 w) : ∀ {xs vs}, NReps w w' xs vs → NReps w0 w' xs vs
  | _, _, .nil => .nil
  | _, _, .cons a b r => .cons (a.low h) b (NReps.low h r)
theorem NReps.free {w w' : Wd} : ∀ {xs vs} {j : Nat} {n q}, NReps w w' xs vs → xs[j]? = some (.o n) → vs[j]? = some (.ref q) → w q = none
  | _, _, _, _, _, .nil, e, _ => by simp at e
  | _, _, 0, _, _, .cons a _ _, e, e' => by
    simp at e e'
    subst e e'
    cases a with
    | o n _ _ => exact n
  | _, _, j + 1, _, _, .cons _ _ r, e, e' => NReps.free (j := j) r (by simpa using e) (by simpa using e')
abbrev WQ := SD → OO → (List NV → OO → Prop) → Prop
theorem ext_none {w w' : Wd} {p : Addr} (h : Ext w w') (n : w' p = none) : w p = none := by
  cases q : w p with
  | none => rfl
  | some c => rw [h _ _ q] at n; cases n
structure DQ (X : Cx) (P : PX) (es : List Expr) (W : WQ) : Prop where
  ex : ∃ t, PA X es t ∧ ∀ w σ s H O Q (R : List V → Hp → Prop), RelS P w σ s → RelO w H O → W s O Q →
    (∀ vs H' w' xs O', xs.length = es.length → Ext w w' → RelO w' H' O' → NReps w w' xs vs → Q xs O' → R vs H') → t σ H R
def wqNil : WQ := fun _ O Q => Q [] O
def wqD (We : WE) (W : WQ) : WQ := fun s O Q => We s O fun x O1 => isD x fun d => W s O1 fun xs O2 => Q (.d d :: xs) O2
def wqO (Wn : WN) (W : WQ) : WQ := fun s O Q => Wn s O fun m O1 => W s O1 fun xs O2 => Q (.o m :: xs) O2
section
variable {X : Cx} {P : PX} {pos : Pos} {e : Expr} {es : List Expr} {We : WE} {Wn : WN} {W : WQ}
theorem dq_nil : DQ X P [] wqNil := ⟨_, pa_nil, fun w σ s H O Q R rs ro q po => po _ _ _ _ _ rfl (Ext.refl _) ro .nil q⟩
theorem dq_d (ha : DE X P e We) (hr : DQ X P es W) (hs : starEach (e :: es) X.env = (false, eval e X.env) :: starEach es X.env := by rfl) : DQ X P (e :: es) (wqD We W) := by
  obtain ⟨t, p, h⟩ := ha.ex
  obtain ⟨u, q, k⟩ := hr.ex
  refine ⟨_, pa_cons p q hs, fun w σ s H O Q R rs ro w po => ?_⟩
  refine h _ _ _ _ _ _ _ rs ro w fun v H1 Z1 x O1 s1 r1 e1 w1 => ?_
  obtain ⟨d, rfl, w2⟩ := isD_ex w1
  refine k _ _ _ _ _ _ _ (rs.mono s1) r1 w2 fun vs H2 Z2 xs O2 l2 s2 r2 e2 w3 => ?_
  exact po _ _ _ _ _ (by simp [l2]) (s1.trans s2) r2 (.cons (.d (e1.toD.mono s2.l)) (fun _ _ z => by cases z) (e2.low s1)) w3
theorem dq_o (ha : DN X P e Wn) (hr : DQ X P es W) (hs : starEach (e :: es) X.env = (false, eval e X.env) :: starEach es X.env := by rfl) : DQ X P (e :: es) (wqO Wn W) := by
  obtain ⟨t, p, h⟩ := ha.ex
  obtain ⟨u, q, k⟩ := hr.ex
  refine ⟨_, pa_cons p q hs, fun w σ s H O Q R rs ro w po => ?_⟩
  refine h _ _ _ _ _ _ _ rs ro w fun p u H1 Z1 m O1 s1 r1 n1 n2 hu cr w1 => ?_
  have x := ext_put (c := .own u) n1
  refine k _ _ _ _ _ _ _ (rs.mono (s1.trans x)) (r1.tell n1 n2 hu) w1 fun vs H2 Z2 xs O2 l2 s2 r2 e2 w3 => ?_
  refine po _ _ _ _ _ (by simp [l2]) (s1.trans (x.trans s2)) r2 (.cons (.o (p := p) ?_ (s2 _ _ put_same) (cr.mono (x.trans s2).l)) (fun m' p' em ep j n q ex ev => ?_) (e2.low (s1.trans x))) w3
  · exact ext_none s1 n1
  · cases ep
    intro z
    subst z
    have := e2.free ex ev
    rw [put_same] at this
    cases this
/-- an own cell goes to a slot -/
theorem RelS.setO' {P : PX} {w : Wd} {σ : L2.St} {s : SD} {m : CM} {p : Addr} {u : HO} (r : RelS P w σ s) (i : Nat) (n : w p = some (.own u)) (h : CRep w m u) (no : ∀ (j : Nat) m', s[j]? = some (some (.o m')) → σ[j]? ≠ some (some (.ref p))) :
    RelS P w (σ.set i (some (.ref p))) (s.set i (some (.o m))) := by
  refine ⟨⟨by simp [r.len], fun j e q => ?_, fun j k m1 m2 v' h1 h2 h3 h4 => ?_⟩, r.px, r.sx, r.tx⟩
  · rw [List.getElem?_set] at q ⊢
    by_cases hj : i = j
    · subst hj
      rw [if_pos rfl] at q ⊢
      by_cases hl : i < s.length
      · rw [if_pos hl] at q
        rw [if_pos (by rw [r.len]; exact hl)]
        cases q
        exact ⟨_, rfl, .o n h⟩
      · rw [if_neg hl] at q; cases q
    · rw [if_neg hj] at q ⊢
      exact r.at' j e q
  · have at_ : ∀ {j : Nat} {v}, i = j → (σ.set i (some (V.ref p)))[j]? = some (some v) → v = .ref p := fun {j v} hj e => by
      subst hj
      rw [List.getElem?_set, if_pos rfl] at e
      split at e <;> cases e
      rfl
    by_cases a : i = j <;> by_cases b : i = k
    · exact a.symm.trans b
    · rw [at_ a h3] at h4
      rw [getElem?_set_ne' b] at h2 h4
      exact absurd h4 (no _ _ h2)
    · rw [at_ b h4] at h3
      rw [getElem?_set_ne' a] at h1 h3
      exact absurd h3 (no _ _ h1)
    · rw [getElem?_set_ne' a] at h1 h3
      rw [getElem?_set_ne' b] at h2 h4
      exact r.inj j k m1 m2 v' h1 h2 h3 h4
def setAll : SD → List Nat → List NV → SD
  | s, i :: is, x :: xs => setAll (s.set i (some x.sv)) is xs
  | s, _, _ => s
def setVs : L2.St → List Nat → List V → L2.St
  | σ, i :: is, v :: vs => setVs (σ.set i (some v)) is vs
  | σ, _, _ => σ
theorem RelS.setAll {w w' : Wd} : ∀ {is : List Nat} {xs : List NV} {vs : List V} {σ : L2.St} {s : SD}, RelS P w' σ s → NReps w w' xs vs → (∀ (j k : Nat) m' n q, s[j]? = some (some (.o m')) → xs[k]? = some (.o n) → vs[k]? = some (.ref q) → σ[j]? ≠ some (some (.ref q))) → RelS P w' (setVs σ is vs) (VD.setAll s is xs)
  | [], _, _, _, _, r, _, _ => r
  | _ :: _, _, _, _, _, r, .nil, _ => r
  | i :: is, x :: xs, v :: vs, σ, s, r, .cons a b t, no => by
    refine RelS.setAll (is := is) ?_ t ?_
    · cases a with
      | d a => exact r.set i a
      | o n e c => exact r.setO' i e c fun j m' h => no j 0 m' _ _ h rfl rfl
    · intro j k m' n q h1 h2 h3 h4
      by_cases hj : i = j
      · subst hj
        rw [List.getElem?_set, if_pos rfl] at h1 h4
        split at h1
        · cases x with
          | d y => cases h1
          | o m =>
            split at h4
            · injection h4 with h4
              injection h4 with h4
              exact b m q rfl h4 _ _ _ h2 h3 rfl
            · cases h4
        · cases h1
      · rw [getElem?_set_ne' hj] at h1 h4
        exact no j (k + 1) m' n q h1 (by simpa using h2) (by simpa using h3) h4
def wPar (is : List Nat) (W : WQ) : WS := fun D s O => W s O fun xs O1 => D.nx (VD.setAll s is xs) O1
theorem NReps.length {w w' : Wd} : ∀ {xs vs}, NReps w w' xs vs → xs.length = vs.length
  | _, _, .nil => rfl
  | _, _, .cons _ _ r => by simp [NReps.length r]
theorem vals2 {vs : List V} (h : vs.length = 2) : ∃ a b, vs = [a, b] := by
  match vs, h with
  | [a, b], _ => exact ⟨a, b, rfl⟩
theorem vals3 {vs : List V} (h : vs.length = 3) : ∃ a b c, vs = [a, b, c] := by
  match vs, h with
  | [a, b, c], _ => exact ⟨a, b, c, rfl⟩
theorem par_no {w w' : Wd} {σ : L2.St} {s : SD} {xs : List NV} {vs : List V} (rs : RelS P w σ s) (t : NReps w w' xs vs) : ∀ (j k : Nat) m' n q, s[j]? = some (some (.o m')) → xs[k]? = some (.o n) → vs[k]? = some (.ref q) → σ[j]? ≠ some (some (.ref q)) := by
  intro j k m' n q h1 h2 h3 h4
  obtain ⟨v, g1, g2⟩ := rs.at' j _ h1
  rw [h4] at g1
  cases g1
  cases g2 with
  | o e _ => rw [t.free h2 h3] at e; cases e
theorem ds_par (i j : Nat) {x y : Str} {a b : Expr} {px py pt : Pos} {kt k2 pt2} (hc : X.calm = true) (hN : X.N.Nodup) (ha : DQ X P [a, b] W) (hi : X.N[i]? = some x := by rfl) (hj : X.N[j]? = some y := by rfl) (hij : i ≠ j := by decide)
    (hx : X.env.scope.names.lookup x = some .local := by rfl) (hy : X.env.scope.names.lookup y = some .local := by rfl)
    (hw : swappedStores [.Tuple [.Name x px, .Name y py] kt pt] (.Tuple [a, b] k2 pt2) X.env = pure (some [x, y]) := by rfl)
    (hs : swapsWithSole [.Tuple [.Name x px, .Name y py] kt pt] (.Tuple [a, b] k2 pt2) pos.line X.env = pure false := by rfl) :
    DS X P (.Assign [.Tuple [.Name x px, .Name y py] kt pt] (.Tuple [a, b] k2 pt2) pos) (wPar [i, j] W) := by
  obtain ⟨t, p, h⟩ := ha.ex
  refine ⟨_, ps_par hc hN hi hj hij hx hy p hw hs, fun w σ s H O D E rs ro w po => ?_⟩
  refine h _ _ _ _ _ _ _ rs ro w fun vs H1 Z1 xs O1 l1 s1 r1 e1 w1 => ?_
  have fin := RelS.setAll (is := [i, j]) (rs.mono s1) e1 (par_no rs e1)
  obtain ⟨u1, u2, rfl⟩ := vals2 (e1.length.symm.trans l1)
  exact ⟨u1, u2, rfl, po.nx _ _ _ _ _ s1.s fin r1 w1⟩
theorem ds_par3 (i j l : Nat) {x y z : Str} {a b c : Expr} {px py pz pt : Pos} {kt k2 pt2} (hc : X.calm = true) (hN : X.N.Nodup) (ha : DQ X P [a, b, c] W) (hi : X.N[i]? = some x := by rfl) (hj : X.N[j]? = some y := by rfl) (hl : X.N[l]? = some z := by rfl) (hij : i ≠ j := by decide) (hil : i ≠ l := by decide) (hjl : j ≠ l := by decide)
    (hx : X.env.scope.names.lookup x = some .local := by rfl) (hy : X.env.scope.names.lookup y = some .local := by rfl) (hz : X.env.scope.names.lookup z = some .local := by rfl)
    (hw : swappedStores [.Tuple [.Name x px, .Name y py, .Name z pz] kt pt] (.Tuple [a, b, c] k2 pt2) X.env = pure (some [x, y, z]) := by rfl)
    (hs : swapsWithSole [.Tuple [.Name x px, .Name y py, .Name z pz] kt pt] (.Tuple [a, b, c] k2 pt2) pos.line X.env = pure false := by rfl) :
    DS X P (.Assign [.Tuple [.Name x px, .Name y py, .Name z pz] kt pt] (.Tuple [a, b, c] k2 pt2) pos) (wPar [i, j, l] W) := by
  obtain ⟨t, p, h⟩ := ha.ex
  refine ⟨_, ps_par3 hc hN hi hj hl hij hil hjl hx hy hz p hw hs, fun w σ s H O D E rs ro w po => ?_⟩
  refine h _ _ _ _ _ _ _ rs ro w fun vs H1 Z1 xs O1 l1 s1 r1 e1 w1 => ?_
  have fin := RelS.setAll (is := [i, j, l]) (rs.mono s1) e1 (par_no rs e1)
  obtain ⟨u1, u2, u3, rfl⟩ := vals3 (e1.length.symm.trans l1)
  exact ⟨u1, u2, u3, rfl, po.nx _ _ _ _ _ s1.s fin r1 w1⟩
end
end VD

set_option Elab.async false
set_option linter.all false
set_option maxRecDepth 100000
set_option maxHeartbeats 1000000
/-! VD: walks, for, comprehensions -/
namespace VD
open PySem PySem.Spec PyProof.Rows L2

/-- of a for (true) or of a comprehension (false) -/
def Ord (st : Bool) (w w' : Wd) : Prop := match st with | true => ExtS w w' | false => Ext w w'
theorem Ord.s {st : Bool} {w w' : Wd} (h : Ord st w w') : ExtS w w' := by cases st; exact Ext.s h; exact h
theorem Ext.o {st : Bool} {w w' : Wd} (h : Ext w w') : Ord st w w' := by cases st; exact h; exact h.s
theorem Ord.trans {st : Bool} {w w1 w2 : Wd} (h : Ord st w w1) (k : Ord st w1 w2) : Ord st w w2 := by cases st; exact Ext.trans h k; exact ExtS.trans h k
theorem Ord.refl {st : Bool} (w : Wd) : Ord st w w := (Ext.refl w).o
abbrev WI := SD → OO → (List D → (OO → Prop) → OO → Prop) → Prop
/-- what is walked: the items, and what must stay true for the walk to go on -/
def Wk (st : Bool) (w : Wd) (J : It) (ds : List D) (C : OO → Prop) : Prop := ∀ w' H O i, Ord st w w' → RelO w' H O → C O → (i = ds.length → J.stop i H) ∧
  ∀ d, ds[i]? = some d → J.go i H ∧ ∀ x H', J.yld i H x H' → ∃ w2, Ext w' w2 ∧ RelO w2 H' O ∧ Rep w2 d x
structure DI (st : Bool) (X : Cx) (P : PX) (tg e : Expr) (W : WI) : Prop where
  ex : ∃ t, PI X tg e t ∧ ∀ w σ s H O K (R : It → Hp → Prop), RelS P w σ s → RelO w H O → W s O K → (∀ J w' H' O' ds C, Ext w w' → RelO w' H' O' → K ds C O' → Wk st w' J ds C → R J H') → t σ H R
section
variable {st : Bool} {w : Wd} {K : PySem.W.Frag} {p : Addr} {ds : List D} {C : OO → Prop}
theorem wk_seq (hl : ∀ w' H O, Ord st w w' → RelO w' H O → C O → ∃ vs, H p = some (.lst vs) ∧ Reps w' ds vs) : Wk st w (Itl K p) ds C := by
  intro w' H O i s ro c
  obtain ⟨vs, hv, r⟩ := hl w' H O s ro c
  have q : SqL K H p vs := .inl (.inl hv)
  refine ⟨fun hi => ⟨vs, q, by rw [← r.length]; omega⟩, fun d hd => ?_⟩
  obtain ⟨v, hv2, rv⟩ := r.get hd
  exact ⟨⟨vs, v, q, hv2⟩, fun x H' ⟨eh, y⟩ => by
    subst eh
    have := y vs q
    rw [hv2] at this
    cases this
    exact ⟨w', Ext.refl _, ro, rv⟩⟩
theorem wk_tup {vs : List V} (e : w p = some (.frz (.tup vs))) (r : Reps w ds vs) : Wk st w (Itt K p) ds (fun _ => True) := by
  intro w' H O i s ro _
  have q : SqT K H p vs := .inl (.inl (ro.frz (s.s.l.frz _ _ e)))
  refine ⟨fun hi => ⟨vs, q, by rw [← r.length]; omega⟩, fun d hd => ?_⟩
  obtain ⟨v, hv, rv⟩ := r.get hd
  exact ⟨⟨vs, v, q, hv⟩, fun x H' ⟨eh, y⟩ => by
    subst eh
    have := y vs q
    rw [hv] at this
    cases this
    exact ⟨w', Ext.refl _, ro, rv.mono s.s.l⟩⟩
theorem wk_rng {lo : Int} {n : Nat} (hd : ds = (List.range n).map fun i => D.int (lo + (i : Nat))) : Wk st w (Itr lo n) ds (fun _ => True) := by
  subst hd
  intro w' H O i s ro _
  refine ⟨fun hi => ?_, fun d hd => ?_⟩
  · show n ≤ i
    rw [hi, List.length_map, List.length_range]
    exact Nat.le_refl _
  · rw [List.getElem?_map] at hd
    obtain ⟨c, hc, rfl⟩ := Option.map_eq_some_iff.mp hd
    have hl : i < n := by
      have := (List.getElem?_eq_some_iff.mp hc).1
      simpa using this
    rw [List.getElem?_range hl] at hc
    cases hc
    refine ⟨hl, fun x H' ⟨eh, ex⟩ => ?_⟩
    subst eh ex
    exact ⟨w', Ext.refl _, ro, .int⟩
theorem RepK.get {w : Wd} : ∀ {kvs us} {i : Nat} {k d}, RepK w kvs us → kvs[i]? = some (k, d) → ∃ v, us[i]? = some (k, v) ∧ Rep w d v
  | _, _, _, _, _, .nil, e => by simp at e
  | _, _, 0, _, _, .cons h _, e => by simp at e; obtain ⟨rfl, rfl⟩ := e; exact ⟨_, rfl, h⟩
  | _, _, i + 1, _, _, .cons _ r, e => by
    obtain ⟨v, h1, h2⟩ := RepK.get (i := i) r (by simpa using e)
    exact ⟨v, by simpa using h1, h2⟩
theorem wk_keys {d : Addr} {o : Obj} {us : List (Key × V)} {kvs : List (Key × D)} (hl : ∀ w' H O, Ord st w w' → RelO w' H O → C O → H d = some (.frz o (.dK us)) ∧ RepK w' kvs us) : Wk st w (Itk d o us) (kvs.map fun kv => keyE kv.1) C := by
  intro w' H O i s ro c
  obtain ⟨hd, r⟩ := hl w' H O s ro c
  refine ⟨fun hi => ⟨hd, by rw [hi, List.length_map, r.length]; exact Nat.le_refl _⟩, fun x hx => ?_⟩
  rw [List.getElem?_map] at hx
  obtain ⟨⟨k, y⟩, hk, rfl⟩ := Option.map_eq_some_iff.mp hx
  obtain ⟨v, hv, rv⟩ := r.get hk
  refine ⟨⟨hd, (List.getElem?_eq_some_iff.mp hv).1⟩, fun x H' ⟨eh, k', v', hk', ex⟩ => ?_⟩
  subst eh ex
  rw [hv] at hk'
  cases hk'
  exact ⟨w', Ext.refl _, ro, rep_keyE k⟩
theorem wk_vals {d : Addr} {o : Obj} {us : List (Key × V)} {kvs : List (Key × D)} (hl : ∀ w' H O, Ord st w w' → RelO w' H O → C O → H d = some (.frz o (.dK us)) ∧ RepK w' kvs us) : Wk st w (Itd d o us) (kvs.map fun kv => kv.2) C := by
  intro w' H O i s ro c
  obtain ⟨hd, r⟩ := hl w' H O s ro c
  refine ⟨fun hi => ⟨hd, by rw [hi, List.length_map, r.length]; exact Nat.le_refl _⟩, fun x hx => ?_⟩
  rw [List.getElem?_map] at hx
  obtain ⟨⟨k, y⟩, hk, rfl⟩ := Option.map_eq_some_iff.mp hx
  obtain ⟨v, hv, rv⟩ := r.get hk
  refine ⟨⟨hd, (List.getElem?_eq_some_iff.mp hv).1⟩, fun x H' ⟨eh, k', hk'⟩ => ?_⟩
  subst eh
  rw [hv] at hk'
  cases hk'
  exact ⟨w', Ext.refl _, ro, rv⟩
theorem wk_items {d : Addr} {o : Obj} {us : List (Key × V)} {kvs : List (Key × D)} (hl : ∀ w' H O, Ord st w w' → RelO w' H O → C O → H d = some (.frz o (.dK us)) ∧ RepK w' kvs us) : Wk st w (Iti d o us) (kvs.map fun kv => .tup [keyE kv.1, kv.2]) C := by
  intro w' H O i s ro c
  obtain ⟨hd, r⟩ := hl w' H O s ro c
  refine ⟨fun hi => ⟨hd, by rw [hi, List.length_map, r.length]; exact Nat.le_refl _⟩, fun x hx => ?_⟩
  rw [List.getElem?_map] at hx
  obtain ⟨⟨k, y⟩, hk, rfl⟩ := Option.map_eq_some_iff.mp hx
  obtain ⟨v, hv, rv⟩ := r.get hk
  refine ⟨⟨hd, (List.getElem?_eq_some_iff.mp hv).1⟩, fun x H' ⟨T, k', v', hk', ex, hT, eh⟩ => ?_⟩
  subst eh ex
  rw [hv] at hk'
  cases hk'
  obtain ⟨s2, r2⟩ := ro.newZ (u := .tup [kV k, v]) hT
  exact ⟨_, s2, r2, .tup put_same (.cons (rep_keyE k) (.one (rv.mono s2.l)))⟩
end
/-! ### what may be walked -/
/-- a list: live ones must stay; own ones in comprehensions only -/
def seqM (a : Addr) (O : OO) (K : List D → (OO → Prop) → OO → Prop) : Option MO → Prop
  | some (.lst ds) => K ds (fun O => O a = some (.lst ds)) O
  | some (.lkd od us kvs) => K (kvs.map fun kv => keyE kv.1) (fun O => O a = some (.lkd od us kvs)) O
  | _ => False
def seqI (st : Bool) (x : BV) (O : OO) (K : List D → (OO → Prop) → OO → Prop) : Prop := match x with
  | .d (.lst ds) => K ds (fun _ => True) O
  | .d (.tup ds) => K ds (fun _ => True) O
  | .d (.str z) => K (z.cps.toList.map fun c => .str ⟨#[c]⟩) (fun _ => True) O
  | .d (.dic kvs) => K (kvs.map fun kv => keyE kv.1) (fun _ => True) O
  | .d (.ref a) => seqM a O K (O a)
  | .c false (.lst ds) => K ds (fun _ => True) O
  | .c true (.lst ds) => st = false ∧ K ds (fun _ => True) O
  | .c false (.ldic kvs) => K (kvs.map fun kv => keyE kv.1) (fun _ => True) O
  | _ => False
def wiA (st : Bool) (W : WE) : WI := fun s O K => W s O fun x O1 => seqI st x O1 K
/-- .. of which kind -/
def kindI : BV → OO → Nat
  | .d (.tup _), _ => 1
  | .d (.str _), _ => 2
  | .d (.dic _), _ => 3
  | .d (.ref a), O => match O a with | some (.lkd _ _ _) => 3 | _ => 0
  | .c _ (.ldic _), _ => 3
  | _, _ => 0
section
variable {st : Bool} {X : Cx} {P : PX} {tg e : Expr} {W : WE}
theorem seq_go {w w1 : Wd} {H1 : Hp} {O1 : OO} {x : BV} {v : V} {K : List D → (OO → Prop) → OO → Prop} {R : It → Hp → Prop} (s1 : Ext w w1) (r1 : RelO w1 H1 O1) (e1 : BRep w1 x v) (q : seqI st x O1 K)
    (k : ∀ J w' H' O' ds C, Ext w w' → RelO w' H' O' → K ds C O' → Wk st w' J ds C → R J H') :
    (kindI x O1 = 0 ∧ ∃ p, v = .ref p ∧ (∃ vs, H1 p = some (.lst vs)) ∧ R (Itl X.K p) H1) ∨ (kindI x O1 = 1 ∧ ∃ p, v = .ref p ∧ (∃ vs, H1 p = some (.tup vs)) ∧ R (Itt X.K p) H1) ∨ (kindI x O1 = 2 ∧ ∃ z, v = .str z ∧ R (Its z) H1) ∨
      (kindI x O1 = 3 ∧ ∃ p o us, v = .ref p ∧ H1 p = some (.frz o (.dK us)) ∧ R (Itk p o us) H1) := by
  unfold seqI at q
  split at q
  · cases e1.toD with
    | lst ez rz => exact .inl ⟨rfl, _, rfl, ⟨_, r1.frz ez⟩, k _ _ _ _ _ _ s1 r1 q (wk_seq fun w' H O s ro _ => ⟨_, ro.frz (s.s.l.frz _ _ ez), rz.mono s.s.l⟩)⟩
  · cases e1.toD with
    | tup ez rz => exact .inr (.inl ⟨rfl, _, rfl, ⟨_, r1.frz ez⟩, k _ _ _ _ _ _ s1 r1 q (wk_tup ez rz)⟩)
  · rename_i z
    cases e1.toD
    refine .inr (.inr (.inl ⟨rfl, z, rfl, k _ _ _ _ _ _ s1 r1 q ?_⟩))
    intro w' H O i s ro _
    refine ⟨fun hi => ?_, fun d hd => ?_⟩
    · show z.cps.size ≤ i
      rw [hi, List.length_map, Array.length_toList]
      exact Nat.le_refl _
    · rw [List.getElem?_map] at hd
      obtain ⟨c, hc, rfl⟩ := Option.map_eq_some_iff.mp hd
      rw [Array.getElem?_toList] at hc
      refine ⟨(Array.getElem?_eq_some_iff.mp hc).1, fun x H' ⟨eh, c', hc', ex⟩ => ?_⟩
      subst eh ex
      rw [hc] at hc'
      cases hc'
      exact ⟨w', Ext.refl _, ro, .str⟩
  · cases e1.toD with
    | dic ez rz => exact .inr (.inr (.inr ⟨rfl, _, _, _, rfl, r1.frz ez, k _ _ _ _ _ _ s1 r1 q (wk_keys fun w' H O s ro _ => ⟨ro.frz (s.s.l.frz _ _ ez), rz.mono s.s.l⟩)⟩))
  · rename_i a
    cases e1.toD
    unfold seqM at q
    split at q
    · rename_i ds e
      obtain ⟨vs, hv, _⟩ := r1.own _ _ e
      exact .inl ⟨by simp [kindI, e], _, rfl, ⟨_, hv⟩, k _ _ _ _ _ _ s1 r1 q (wk_seq fun w' H O s ro c => ro.own _ _ c)⟩
    · rename_i od us kvs e
      obtain ⟨hv, _⟩ := r1.own _ _ e
      exact .inr (.inr (.inr ⟨by simp [kindI, e], _, _, _, rfl, hv, k _ _ _ _ _ _ s1 r1 q (wk_keys fun w' H O s ro c => ro.own _ _ c)⟩))
    · exact q.elim
  · rename_i ds
    cases e1 with
    | fix ez c =>
      obtain ⟨vs, rfl, rz⟩ := c
      exact .inl ⟨rfl, _, rfl, ⟨_, r1.cell _ _ ez⟩, k _ _ _ _ _ _ s1 r1 q (wk_seq fun w' H O s ro _ => ⟨_, ro.cell _ _ (s.s _ _ ez (fun _ z => by cases z)), rz.mono s.s.l⟩)⟩
  · rename_i ds
    obtain ⟨rfl, q⟩ := q
    cases e1 with
    | own ez c =>
      obtain ⟨vs, rfl, rz⟩ := c
      exact .inl ⟨rfl, _, rfl, ⟨_, r1.cell _ _ ez⟩, k _ _ _ _ _ _ s1 r1 q (wk_seq fun w' H O s ro _ => ⟨_, ro.cell _ _ ((show Ext _ _ from s) _ _ ez), rz.mono s.s.l⟩)⟩
  · cases e1 with
    | fix ez c =>
      obtain ⟨o, us, rfl, rz⟩ := c
      exact .inr (.inr (.inr ⟨rfl, _, _, _, rfl, r1.cell _ _ ez, k _ _ _ _ _ _ s1 r1 q (wk_keys fun w' H O s ro _ => ⟨ro.cell _ _ (s.s _ _ ez (fun _ z => by cases z)), rz.mono s.s.l⟩)⟩))
  · exact q.elim
/-- of a known kind -/
def wiN (n : Nat) (st : Bool) (W : WE) : WI := fun s O K => W s O fun x O1 => kindI x O1 = n ∧ seqI st x O1 K
theorem di_list (h : DE X P e W) : DI st X P tg e (wiN 0 st W) := by
  obtain ⟨t, q, h⟩ := h.ex
  refine ⟨_, pi_list q, fun w σ s H O K R rs ro w k => ?_⟩
  refine h _ _ _ _ _ _ _ rs ro w fun v H1 Z1 d O1 s1 r1 e1 ⟨hn, w1⟩ => ?_
  rcases seq_go (X := X) (R := R) s1 r1 e1 w1 k with ⟨_, p, rfl, ⟨vs, hv⟩, q⟩ | ⟨e, _⟩ | ⟨e, _⟩ | ⟨e, _⟩
  · exact ⟨p, rfl, ⟨vs, .inl (.inl hv)⟩, q⟩
  all_goals rw [hn] at e; cases e
theorem di_tup (h : DE X P e W) : DI st X P tg e (wiN 1 st W) := by
  obtain ⟨t, q, h⟩ := h.ex
  refine ⟨_, pi_tup q, fun w σ s H O K R rs ro w k => ?_⟩
  refine h _ _ _ _ _ _ _ rs ro w fun v H1 Z1 d O1 s1 r1 e1 ⟨hn, w1⟩ => ?_
  rcases seq_go (X := X) (R := R) s1 r1 e1 w1 k with ⟨e, _⟩ | ⟨_, p, rfl, ⟨vs, hv⟩, q⟩ | ⟨e, _⟩ | ⟨e, _⟩
  · rw [hn] at e; cases e
  · exact ⟨p, rfl, ⟨vs, .inl (.inl hv)⟩, q⟩
  all_goals rw [hn] at e; cases e
theorem di_str (h : DE X P e W) : DI st X P tg e (wiN 2 st W) := by
  obtain ⟨t, q, h⟩ := h.ex
  refine ⟨_, pi_str q, fun w σ s H O K R rs ro w k => ?_⟩
  refine h _ _ _ _ _ _ _ rs ro w fun v H1 Z1 d O1 s1 r1 e1 ⟨hn, w1⟩ => ?_
  rcases seq_go (X := X) (R := R) s1 r1 e1 w1 k with ⟨e, _⟩ | ⟨e, _⟩ | ⟨_, z, rfl, q⟩ | ⟨e, _⟩
  · rw [hn] at e; cases e
  · rw [hn] at e; cases e
  · exact ⟨z, rfl, q⟩
  · rw [hn] at e; cases e
theorem di_keys (h : DE X P e W) : DI st X P tg e (wiN 3 st W) := by
  obtain ⟨t, q, h⟩ := h.ex
  refine ⟨_, pi_keys q, fun w σ s H O K R rs ro w k => ?_⟩
  refine h _ _ _ _ _ _ _ rs ro w fun v H1 Z1 d O1 s1 r1 e1 ⟨hn, w1⟩ => ?_
  rcases seq_go (X := X) (R := R) s1 r1 e1 w1 k with ⟨e, _⟩ | ⟨e, _⟩ | ⟨e, _⟩ | ⟨_, p, o, us, rfl, hv, q⟩
  · rw [hn] at e; cases e
  · rw [hn] at e; cases e
  · rw [hn] at e; cases e
  · exact ⟨p, o, rfl, .inl ⟨us, hv, q⟩⟩
/-- a name: whatever kind it is of -/
theorem di_name (i : Nat) {x : Str} {pos : Pos} (hN : X.N[i]? = some x := by rfl) (hv : Vis X.env.scope x := by first | exact Or.inl rfl | exact Or.inr (Or.inl rfl) | exact Or.inr (Or.inr rfl)) (hd : (x == ("__debug__" : Str)) = false := by decide)
    (hcd : (x == ("__classdict__" : Str)) = false := by decide) : DI st X P tg (.Name x pos) (wiA st (wVar i)) := by
  have q := pe_var (X := X) (pos := pos) hN hv hd hcd
  refine ⟨_, pi_union (pi_union (pi_list q) (pi_tup q)) (pi_union (pi_str q) (pi_keys q)), fun w σ s H O K R rs ro w0 k => ?_⟩
  obtain ⟨sv, e, w1⟩ := look_ex w0
  obtain ⟨v, h1, h2⟩ := rs.at' i sv e
  rcases seq_go (X := X) (R := R) (Ext.refl _) ro h2.bv w1 k with ⟨_, p, rfl, ⟨vs, hv⟩, q⟩ | ⟨_, p, rfl, ⟨vs, hv⟩, q⟩ | ⟨_, z, rfl, q⟩ | ⟨_, p, o, us, rfl, hv, q⟩
  · exact .inl (.inl ⟨_, h1, p, rfl, ⟨vs, .inl (.inl hv)⟩, q⟩)
  · exact .inl (.inr ⟨_, h1, p, rfl, ⟨vs, .inl (.inl hv)⟩, q⟩)
  · exact .inr (.inl ⟨_, h1, z, rfl, q⟩)
  · exact .inr (.inr ⟨_, h1, p, o, rfl, .inl ⟨us, hv, q⟩⟩)
def wiR1 (W : WA) : WI := fun s O K => W s O fun ds O1 => match ds with | [.d (.int j)] => -(2 ^ 62) ≤ j ∧ j < 2 ^ 62 ∧ K ((List.range j.toNat).map fun i => .int (i : Nat)) (fun _ => True) O1 | _ => False
def wiR2 (W : WA) : WI := fun s O K => W s O fun ds O1 => match ds with | [.d (.int i), .d (.int j)] => (-(2 ^ 62) ≤ i ∧ i < 2 ^ 62 ∧ -(2 ^ 62) ≤ j ∧ j < 2 ^ 62) ∧ K ((List.range (j - i).toNat).map fun k => .int (i + (k : Nat))) (fun _ => True) O1 | _ => False
variable {a b : Expr} {p pos : Pos} {Wa : WA}
theorem di_range1 (hg : Gl X "range") (hm : X.mg "range" = none) (ha : DA X P [a] Wa) (hs : starEach [a] X.env = [(false, eval a X.env)] := by rfl) : DI st X P tg (.Call (.Name "range" p) [a] [] pos) (wiR1 Wa) := by
  obtain ⟨t, q, h⟩ := ha.ex
  refine ⟨_, pi_range1 hg hm q hs, fun w σ s H O K R rs ro w k => ?_⟩
  refine h _ _ _ _ _ _ _ rs ro w fun vs H1 Z1 ds O1 l1 s1 r1 e1 w1 => ?_
  split at w1
  · obtain ⟨v, rfl, rv⟩ := e1.one_ex
    cases rv.toD
    exact ⟨_, rfl, w1.1, w1.2.1, k _ _ _ _ _ _ s1 r1 w1.2.2 (wk_rng (by simp))⟩
  · exact w1.elim
theorem di_range2 (hg : Gl X "range") (hm : X.mg "range" = none) (ha : DA X P [a, b] Wa) (hs : starEach [a, b] X.env = [(false, eval a X.env), (false, eval b X.env)] := by rfl) (hs2 : starEach [b] X.env = [(false, eval b X.env)] := by rfl) : DI st X P tg (.Call (.Name "range" p) [a, b] [] pos) (wiR2 Wa) := by
  obtain ⟨t, q, h⟩ := ha.ex
  refine ⟨_, pi_range2 hg hm q hs hs2, fun w σ s H O K R rs ro w k => ?_⟩
  refine h _ _ _ _ _ _ _ rs ro w fun vs H1 Z1 ds O1 l1 s1 r1 e1 w1 => ?_
  split at w1
  · obtain ⟨v, u, rfl, rv, ru⟩ := e1.two_ex
    cases rv.toD
    cases ru.toD
    exact ⟨_, _, rfl, w1.1, k _ _ _ _ _ _ s1 r1 w1.2 (wk_rng rfl)⟩
  · exact w1.elim
end

/-! ### d.items(), d.values(): a frozen or locked dict -/
def dicM (a : Addr) (O : OO) (K : List (Key × D) → (OO → Prop) → OO → Prop) : Option MO → Prop
  | some (.lkd od us kvs) => K kvs (fun O => O a = some (.lkd od us kvs)) O
  | _ => False
def dicI (d : BV) (O : OO) (K : List (Key × D) → (OO → Prop) → OO → Prop) : Prop := match d with
  | .d (.dic kvs) => K kvs (fun _ => True) O
  | .c false (.ldic kvs) => K kvs (fun _ => True) O
  | .d (.ref a) => dicM a O K (O a)
  | _ => False
def wiIt (W : WE) : WI := fun s O K => W s O fun d O1 => dicI d O1 fun kvs C O2 => K (kvs.map fun kv => .tup [keyE kv.1, kv.2]) C O2
def wiVal (W : WE) : WI := fun s O K => W s O fun d O1 => dicI d O1 fun kvs C O2 => K (kvs.map fun kv => kv.2) C O2
section
variable {st : Bool} {X : Cx} {P : PX} {tg e : Expr} {W : WE} {apos cpos : Pos}
theorem dicI_ok {w : Wd} {H : Hp} {O : OO} {d : BV} {v : V} {K : List (Key × D) → (OO → Prop) → OO → Prop} (ro : RelO w H O) (r : BRep w d v) (q : dicI d O K) : ∃ p o us kvs C, v = .ref p ∧ H p = some (.frz o (.dK us)) ∧ K kvs C O ∧
    ∀ w' H O, ExtS w w' → RelO w' H O → C O → H p = some (.frz o (.dK us)) ∧ RepK w' kvs us := by
  unfold dicI at q
  split at q
  · cases r.toD with
    | dic e r2 => exact ⟨_, _, _, _, _, rfl, ro.frz e, q, fun w' H O s ro _ => ⟨ro.frz (s.l.frz _ _ e), r2.mono s.l⟩⟩
  · cases r with
    | fix e c =>
      obtain ⟨o, us, rfl, r2⟩ := c
      exact ⟨_, _, _, _, _, rfl, ro.cell _ _ e, q, fun w' H O s ro _ => ⟨ro.cell _ _ (s _ _ e (fun _ z => by cases z)), r2.mono s.l⟩⟩
  · rename_i a
    cases r.toD
    unfold dicM at q
    split at q
    · rename_i e
      exact ⟨_, _, _, _, _, rfl, (ro.own _ _ e).1, q, fun w' H O s ro c => ro.own _ _ c⟩
    · exact q.elim
  · exact q.elim
theorem di_items {elts : List Expr} {kk : Nat} {tpos : Pos} (h : DE X P e W) (hbase : attributeBase e "items" X.env (eval e X.env) = eval e X.env := by rfl) (hline : (apos.endLine == cpos.line) = true := by rfl) :
    DI st X P (.Tuple elts kk tpos) (.Call (.Attribute e "items" apos) [] [] cpos) (wiIt W) := by
  obtain ⟨t, q, h⟩ := h.ex
  refine ⟨_, pi_items q hbase hline, fun w σ s H O K R rs ro w k => ?_⟩
  refine h _ _ _ _ _ _ _ rs ro w fun v H1 Z1 d O1 s1 r1 e1 w1 => ?_
  obtain ⟨p, o, us, kvs, C, rfl, hp, w2, hC⟩ := dicI_ok r1 e1 w1
  exact ⟨p, o, us, rfl, hp, k _ _ _ _ _ _ s1 r1 w2 (wk_items fun w' H O s => hC w' H O s.s)⟩
theorem di_values (h : DE X P e W) (hbase : attributeBase e "values" X.env (eval e X.env) = eval e X.env := by rfl) (hline : (apos.endLine == cpos.line) = true := by rfl) :
    DI st X P tg (.Call (.Attribute e "values" apos) [] [] cpos) (wiVal W) := by
  obtain ⟨t, q, h⟩ := h.ex
  refine ⟨_, pi_values q hbase hline, fun w σ s H O K R rs ro w k => ?_⟩
  refine h _ _ _ _ _ _ _ rs ro w fun v H1 Z1 d O1 s1 r1 e1 w1 => ?_
  obtain ⟨p, o, us, kvs, C, rfl, hp, w2, hC⟩ := dicI_ok r1 e1 w1
  exact ⟨p, o, us, rfl, hp, k _ _ _ _ _ _ s1 r1 w2 (wk_vals fun w' H O s => hC w' H O s.s)⟩
/-- enumerate(list), zip(list, list) -/
def lstI (st : Bool) (x : BV) (O : OO) (K : List D → (OO → Prop) → Prop) : Prop := match x with
  | .d (.lst ds) => K ds (fun _ => True)
  | .c false (.lst ds) => K ds (fun _ => True)
  | .c true (.lst ds) => st = false ∧ K ds (fun _ => True)
  | .d (.ref a) => (match O a with | some (.lst ds) => K ds (fun O => O a = some (.lst ds)) | _ => False)
  | _ => False
theorem lstI_ok {w : Wd} {H : Hp} {O : OO} {x : BV} {v : V} {K : List D → (OO → Prop) → Prop} (ro : RelO w H O) (r : BRep w x v) (q : lstI st x O K) : ∃ p ds C, v = .ref p ∧ C O ∧ K ds C ∧ ∀ w' H O, Ord st w w' → RelO w' H O → C O → ∃ vs, H p = some (.lst vs) ∧ Reps w' ds vs := by
  unfold lstI at q
  split at q
  · cases r.toD with
    | lst e r2 => exact ⟨_, _, _, rfl, trivial, q, fun w' H O s ro _ => ⟨_, ro.frz (s.s.l.frz _ _ e), r2.mono s.s.l⟩⟩
  · cases r with
    | fix e c =>
      obtain ⟨vs, rfl, r2⟩ := c
      exact ⟨_, _, _, rfl, trivial, q, fun w' H O s ro _ => ⟨_, ro.cell _ _ (s.s _ _ e (fun _ z => by cases z)), r2.mono s.s.l⟩⟩
  · obtain ⟨rfl, q⟩ := q
    cases r with
    | own e c =>
      obtain ⟨vs, rfl, r2⟩ := c
      exact ⟨_, _, _, rfl, trivial, q, fun w' H O s ro _ => ⟨_, ro.cell _ _ ((show Ext _ _ from s) _ _ e), r2.mono s.s.l⟩⟩
  · cases r.toD
    split at q
    · rename_i e
      exact ⟨_, _, _, rfl, e, q, fun w' H O s ro c => ro.own _ _ c⟩
    · exact q.elim
  · exact q.elim
def wiEn (st : Bool) (W : WA) : WI := fun s O K => W s O fun bs O1 => match bs with | [x] => lstI st x O1 fun ds C => K (ds.zipIdx.map fun q => .tup [.int (q.2 : Nat), q.1]) C O1 | _ => False
def wiZip (st : Bool) (W : WA) : WI := fun s O K => W s O fun bs O1 => match bs with | [x, y] => lstI st x O1 fun ds C => lstI st y O1 fun es C' => K (List.zipWith (fun a b => .tup [a, b]) ds es) (fun O => C O ∧ C' O) O1 | _ => False
variable {e2 : Expr} {Wa : WA} {p pos tpos : Pos} {elts : List Expr} {kk : Nat}
theorem di_enum (hg : Gl X "enumerate") (hm : X.mg "enumerate" = none) (ha : DA X P [e] Wa) (hs : starEach [e] X.env = [(false, eval e X.env)] := by rfl) : DI st X P (.Tuple elts kk tpos) (.Call (.Name "enumerate" p) [e] [] pos) (wiEn st Wa) := by
  obtain ⟨t, q, h⟩ := ha.ex
  refine ⟨_, pi_enum hg hm q hs, fun w σ s H O K R rs ro w k => ?_⟩
  refine h _ _ _ _ _ _ _ rs ro w fun vs H1 Z1 ds O1 l1 s1 r1 e1 w1 => ?_
  split at w1
  · obtain ⟨v, rfl, rv⟩ := e1.one_ex
    obtain ⟨p, ds, C, rfl, hc, w2, hC⟩ := lstI_ok r1 rv w1
    obtain ⟨xs, hx, rx⟩ := hC _ _ _ (Ord.refl _) r1 hc
    refine ⟨p, xs, rfl, .inl (.inl hx), k _ _ _ _ _ _ s1 r1 w2 ?_⟩
    intro w' H' O' i s ro c
    obtain ⟨ys, hy, ry⟩ := hC w' H' O' s ro c
    have q : SqL X.K H' p ys := .inl (.inl hy)
    refine ⟨fun hi => ⟨ys, q, by rw [← ry.length]; simp at hi; omega⟩, fun d hd => ?_⟩
    rw [List.getElem?_map] at hd
    obtain ⟨⟨d0, j⟩, hz, rfl⟩ := Option.map_eq_some_iff.mp hd
    rw [List.getElem?_zipIdx] at hz
    obtain ⟨d1, hd1, e⟩ := Option.map_eq_some_iff.mp hz
    cases e
    obtain ⟨u, hu, ru⟩ := ry.get hd1
    refine ⟨⟨ys, u, q, hu⟩, fun x H2 ⟨T, x0, ex, hT, eh, hq⟩ => ?_⟩
    subst ex eh
    have := hq ys q
    rw [hu] at this
    cases this
    obtain ⟨s2, r2⟩ := ro.newZ (u := .tup [.int (i : Nat), u]) hT
    refine ⟨_, s2, r2, .tup put_same (.cons ?_ (.one (ru.mono s2.l)))⟩
    simp
    exact .int
  · exact w1.elim
theorem di_zip (hg : Gl X "zip") (hm : X.mg "zip" = none) (ha : DA X P [e, e2] Wa) (hs : starEach [e, e2] X.env = (false, eval e X.env) :: starEach [e2] X.env := by rfl) (hpl : (backTo pos (starEach [e2] X.env)).any (·.1) = false := by rfl) :
    DI st X P (.Tuple elts kk tpos) (.Call (.Name "zip" p) [e, e2] [] pos) (wiZip st Wa) := by
  obtain ⟨t, q, h⟩ := ha.ex
  refine ⟨_, pi_zip hg hm q hs hpl, fun w σ s H O K R rs ro w k => ?_⟩
  refine h _ _ _ _ _ _ _ rs ro w fun vs H1 Z1 ds O1 l1 s1 r1 e1 w1 => ?_
  split at w1
  · obtain ⟨v, u, rfl, rv, ru⟩ := e1.two_ex
    obtain ⟨a, ds, C, rfl, hc, w2, hC⟩ := lstI_ok r1 rv w1
    obtain ⟨b, es, C', rfl, hc', w3, hC'⟩ := lstI_ok r1 ru w2
    obtain ⟨xs, hx, rx⟩ := hC _ _ _ (Ord.refl _) r1 hc
    obtain ⟨ys, hy, ry⟩ := hC' _ _ _ (Ord.refl _) r1 hc'
    refine ⟨a, b, xs, ys, rfl, .inl (.inl hx), .inl (.inl hy), k _ _ _ _ _ _ s1 r1 w3 ?_⟩
    intro w' H' O' i s ro c
    obtain ⟨xs, hx, rx⟩ := hC w' H' O' s ro c.1
    obtain ⟨ys, hy, ry⟩ := hC' w' H' O' s ro c.2
    have qx : SqL X.K H' a xs := .inl (.inl hx)
    have qy : SqL X.K H' b ys := .inl (.inl hy)
    refine ⟨fun hi => ⟨xs, ys, qx, qy, ?_⟩, fun d hd => ?_⟩
    · rw [← rx.length, ← ry.length]
      rw [List.length_zipWith] at hi
      omega
    · rw [List.getElem?_zipWith] at hd
      cases h1 : ds[i]? with
      | none => rw [h1] at hd; simp at hd
      | some d1 =>
        cases h2 : es[i]? with
        | none => rw [h1, h2] at hd; simp at hd
        | some d2 =>
          rw [h1, h2] at hd
          cases hd
          obtain ⟨u1, hu1, ru1⟩ := rx.get h1
          obtain ⟨u2, hu2, ru2⟩ := ry.get h2
          refine ⟨⟨xs, ys, u1, u2, qx, qy, hu1, hu2⟩, fun x H2 ⟨T, x0, y0, ex, hT, eh, hq, hq'⟩ => ?_⟩
          subst ex eh
          have z1 := hq xs qx
          have z2 := hq' ys qy
          rw [hu1] at z1
          rw [hu2] at z2
          cases z1
          cases z2
          obtain ⟨s2, r2⟩ := ro.newZ (u := .tup [u1, u2]) hT
          exact ⟨_, s2, r2, .tup put_same (.cons (ru1.mono s2.l) (.one (ru2.mono s2.l)))⟩
  · exact w1.elim
end

/-! ### for -/
def forN (g : WG) (B : WS) (C : OO → Prop) (D' : DEnds) : List D → SD → OO → Prop
  | [], s, O => C O ∧ D'.nx s O
  | d :: r, s, O => C O ∧ g d s O fun s2 O2 => B { D' with nx := forN g B C D' r, ct := forN g B C D' r, bk := D'.nx } s2 O2
def wFor (Wi : WI) (g : WG) (B : WS) : WS := fun D s O => Wi s O fun ds C O1 => forN g B C D ds s O1
theorem drop_cons {α : Type} {ds : List α} {i : Nat} {d : α} {r : List α} (h : ds.drop i = d :: r) : ds[i]? = some d ∧ ds.drop (i + 1) = r ∧ i < ds.length := by
  have hl : i < ds.length := by
    refine Nat.lt_of_not_le fun z => ?_
    rw [List.drop_eq_nil_of_le z] at h
    cases h
  rw [List.drop_eq_getElem_cons hl] at h
  injection h with h1 h2
  exact ⟨by rw [List.getElem?_eq_getElem hl, h1], h2, hl⟩
theorem drop_nil' {α : Type} {ds : List α} {i : Nat} (h : ds.drop i = []) (hi : i ≤ ds.length) : i = ds.length := by
  have := congrArg List.length h
  rw [List.length_drop] at this
  simp at this
  omega
section
variable {X : Cx} {P : PX} {pos : Pos} {tg iter : Expr} {body : List Stmt} {Wi : WI} {G : WG} {B : WS}
theorem ds_for (hp : PassesOwn (model X.prog X.w) X.A X.env X.xe) (hc : X.calm = true) (hi : DI true X P tg iter Wi) (hg : DG X P tg G) (hb : DSs X P body B)
    (hs : ∀ x, foldedSetIterable iter X.env x = pure x := by intro _; rfl) : DS X P (.For tg iter body [] pos) (wFor Wi G B) := by
  obtain ⟨ti, qi, hi⟩ := hi.ex
  obtain ⟨g, qg, hg⟩ := hg.ex
  obtain ⟨tb, qb, hb⟩ := hb.ex
  refine ⟨_, ps_for hp hc qi qg qb hs, fun w σ s H O D' E rs ro w po => ?_⟩
  refine hi _ _ _ _ _ _ _ rs ro w fun J Z1 H1 O1 ds C s1 r1 w1 wk => ?_
  refine ⟨fun i m σ H => m = ds.length - i ∧ i ≤ ds.length ∧ ∃ w' s O, ExtS Z1 w' ∧ RelS P w' σ s ∧ RelO w' H O ∧ forN G B C D' (ds.drop i) s O, ⟨ds.length, by simp, Nat.zero_le _, Z1, s, O1, ExtS.refl _, rs.mono s1, r1, by simpa using w1⟩, ?_⟩
  rintro i m σ2 H2 ⟨rfl, hle, Z2, sd2, O2, s2, rs2, r2, w2⟩
  cases ed : ds.drop i with
  | nil =>
    rw [ed] at w2
    obtain ⟨hC, q⟩ := w2
    have hi' := drop_nil' ed hle
    exact .inl ⟨(wk Z2 H2 O2 i s2 r2 hC).1 hi', po.nx _ _ _ _ _ (s1.s.trans s2) rs2 r2 q⟩
  | cons d r =>
    rw [ed] at w2
    obtain ⟨hC, q⟩ := w2
    obtain ⟨hd, hr, hlt⟩ := drop_cons ed
    obtain ⟨hgo, hy⟩ := (wk Z2 H2 O2 i s2 r2 hC).2 d hd
    refine .inr ⟨hgo, fun σ' H' => ∃ w' s O, ExtS Z1 w' ∧ RelS P w' σ' s ∧ RelO w' H' O ∧ forN G B C D' (ds.drop (i + 1)) s O, fun σ' H' hN => ⟨ds.length - (i + 1), by omega, rfl, hlt, hN⟩, fun x H' y => ?_⟩
    obtain ⟨Z3, s3, r3, rx⟩ := hy x H' y
    refine hg _ _ _ _ _ _ _ _ _ (rs2.mono s3) r3 rx q fun Z4 σ4 sd4 H4 O4 s4 rs4 r4 w4 => ?_
    have pn : PostN P Z4 (forN G B C D' r) (fun σ' H' => ∃ w' s O, ExtS Z1 w' ∧ RelS P w' σ' s ∧ RelO w' H' O ∧ forN G B C D' (ds.drop (i + 1)) s O) :=
      fun Z5 σ5 sd5 H5 O5 s5 rs5 r5 w5 => ⟨Z5, sd5, O5, s2.trans (s3.s.trans (s4.trans s5)), rs5, r5, by rw [hr]; exact w5⟩
    have sm := s1.s.trans (s2.trans (s3.s.trans s4))
    exact hb _ _ _ _ _ _ _ rs4 r4 w4 ⟨pn, po.rt.mono sm, po.nx.mono sm, pn⟩
end
end VD

set_option Elab.async false
set_option linter.all false
set_option maxRecDepth 100000
set_option maxHeartbeats 1000000
/-! VD: list and dict comprehensions, told by their contents -/
namespace VD
open PySem PySem.Spec PyProof.Rows L2

/-- in a comprehension's block nothing raises -/
def PX.no (P : PX) : PX := ⟨fun _ _ _ _ => False, fun _ _ _ _ => False, P.cl, P.S, P.mono, P.T⟩
theorem RelS.no {P : PX} {w : Wd} {σ : L2.St} {s : SD} (r : RelS P w σ s) : RelS P.no w σ s := ⟨r.toRelS0, fun _ _ _ _ _ _ _ _ _ _ _ _ z => z.elim, r.sx, r.tx⟩
/-! ### the largest readings (for the blocks) -/
def canE (P : PX) (W : WE) : TE := fun σ H R => ∃ w s O Q, RelS P w σ s ∧ RelO w H O ∧ W s O Q ∧ PostE w Q R
def canT (P : PX) (W : WT) : TT := fun σ H R => ∃ w s O Q, RelS P w σ s ∧ RelO w H O ∧ W s O Q ∧ PostT w Q R
theorem DE.can {X : Cx} {P : PX} {e : Expr} {W : WE} (h : DE X P e W) : PE X e (canE P W) := by
  obtain ⟨t, q, h⟩ := h.ex
  exact ⟨fun pins s σ H Q I ⟨w, sd, O, Q', rs, ro, k, po⟩ => q.run pins s σ H Q I (h _ _ _ _ _ _ _ rs ro k po)⟩
theorem DT.can {X : Cx} {P : PX} {e : Expr} {W : WT} (h : DT X P e W) : PT X e (canT P W) := by
  obtain ⟨t, q, h⟩ := h.ex
  exact ⟨fun pins s σ H Q I ⟨w, sd, O, Q', rs, ro, k, po⟩ => q.run pins s σ H Q I (h _ _ _ _ _ _ _ rs ro k po)⟩
structure DTs (X : Cx) (P : PX) (ifs : List Expr) (W : WT) : Prop where
  ex : PTs X ifs (canT P W)
theorem dts_nil {X : Cx} {P : PX} : DTs X P [] (fun _ O Q => Q true O) := ⟨⟨fun pins s σ H Q I ⟨w, sd, O, Q', rs, ro, k, po⟩ => pts_nil.run pins s σ H Q I (po _ _ _ _ (Ext.refl _) ro k)⟩⟩
theorem dts_one {X : Cx} {P : PX} {c : Expr} {W : WT} (h : DT X P c W) : DTs X P [c] W := ⟨pts_one h.can⟩
def PostW (P : PX) (vs : List Nat) (w : Wd) (σ : L2.St) (Q : SD → OO → Prop) (R : L2.St → Hp → Prop) : Prop := ∀ w' σ' s' H' O', Ext w w' → wipe σ' vs = wipe σ vs → RelS P w' σ' s' → RelO w' H' O' → Q s' O' → R σ' H'
/-- a comprehension's target: only its own slots are written -/
def canW (P : PX) (vs : List Nat) (W : WG) : TG := fun v σ H R => ∃ w s O d Q, RelS P w σ s ∧ RelO w H O ∧ Rep w d v ∧ W d s O Q ∧ PostW P vs w σ Q R
def canWs (P : PX) (vs : List Nat) (W : WGs) : TGs := fun us σ H R => ∃ w s O ds Q, RelS P w σ s ∧ RelO w H O ∧ Reps w ds us ∧ W ds s O Q ∧ PostW P vs w σ Q R
structure DGW (X : Cx) (P : PX) (vs : List Nat) (tg : Expr) (W : WG) : Prop where
  ex : PG X tg (canW P vs W)
structure DGWs (X : Cx) (P : PX) (vs : List Nat) (tgs : List Expr) (W : WGs) : Prop where
  ex : PGs X tgs (canWs P vs W)
theorem wipe_set : ∀ {vs : List Nat} {σ : L2.St} {i : Nat} {x}, i ∈ vs → wipe (σ.set i x) vs = wipe σ vs
  | v :: vs, σ, i, x, h => by
    show (wipe (σ.set i x) vs).set v none = (wipe σ vs).set v none
    by_cases hv : i ∈ vs
    · rw [wipe_set hv]
    · have e : i = v := by
        rcases List.mem_cons.mp h with h | h
        · exact h
        · exact absurd h hv
      subst e
      have gen : ∀ (ws : List Nat), i ∉ ws → wipe (σ.set i x) ws = (wipe σ ws).set i x := by
        intro ws
        induction ws with
        | nil => intro _; rfl
        | cons w ws ih =>
          intro hw
          have h1 : i ≠ w := fun z => hw (by rw [z]; exact List.mem_cons_self)
          have h2 : i ∉ ws := fun z => hw (List.mem_cons_of_mem _ z)
          show (wipe (σ.set i x) ws).set w none = ((wipe σ ws).set w none).set i x
          rw [ih h2, List.set_comm _ _ h1]
      rw [gen vs hv, List.set_set]
theorem wipe_wipe (σ : L2.St) : ∀ vs, wipe (wipe σ vs) vs = wipe σ vs
  | [] => rfl
  | v :: vs => by
    show wipe ((wipe σ vs).set v none) (v :: vs) = _
    rw [wipe_set List.mem_cons_self]
    show (wipe (wipe σ vs) vs).set v none = _
    rw [wipe_wipe σ vs]
    rfl
def wipeS (s : SD) (vs : List Nat) : SD := vs.foldr (fun v s => s.set v none) s
theorem RelS.wipe {P : PX} {w : Wd} {σ : L2.St} {s : SD} (r : RelS P w σ s) : ∀ vs : List Nat, RelS P w (L2.wipe σ vs) (wipeS s vs)
  | [] => r
  | v :: vs => (RelS.wipe r vs).clear v none
section
variable {X : Cx} {P : PX} {pos : Pos} {vs : List Nat}
theorem dgw_name (i : Nat) {x : Str} (hN : X.N.Nodup) (hv : i ∈ vs) (hi : X.N[i]? = some x := by rfl) (hx : Loc X.env.scope x := by first | exact .inl rfl | exact .inr rfl)
    (hf : X.fn x = true ∨ X.env.scope.names.lookup x = some .local := by first | exact .inl rfl | exact .inr rfl | assumption) : DGW X P vs (.Name x pos) (wgName i) :=
  ⟨⟨fun pins s σ H v u Q I r ⟨w, sd, O, d, Q', rs, ro, rd, q, po⟩ => (pg_name hN hi hx hf).run pins s σ H v u Q I r (po _ _ _ _ _ (Ext.refl _) (wipe_set hv) (rs.set i rd) ro q)⟩⟩
theorem dgws_nil : DGWs X P vs [] wgNil := ⟨⟨fun pins s σ H vs' us Q I r ⟨w, sd, O, ds, Q', rs, ro, rd, q, po⟩ => pgs_nil.run pins s σ H vs' us Q I r (by
  cases rd with
  | nil => exact ⟨rfl, po _ _ _ _ _ (Ext.refl _) rfl rs ro q⟩
  | cons _ _ => exact q.elim)⟩⟩
theorem dgws_cons {e : Expr} {es : List Expr} {W : WG} {Ws : WGs} (h1 : DGW X P vs e W) (h2 : DGWs X P vs es Ws) (hs : (assignEach (e :: es) X.env).map (·.2) = assign e X.env :: (assignEach es X.env).map (·.2) := by rfl) : DGWs X P vs (e :: es) (wgCons W Ws) :=
  ⟨⟨fun pins s σ H vs' us Q I r ⟨w, sd, O, ds, Q', rs, ro, rd, q, po⟩ => (pgs_cons h1.ex h2.ex hs).run pins s σ H vs' us Q I r (by
    cases rd with
    | nil => exact q.elim
    | cons a t =>
      refine ⟨_, _, rfl, w, sd, O, _, _, rs, ro, a, q, fun Z1 σ1 s1 H1 O1 m1 e1 rs1 ro1 w1 => ?_⟩
      exact ⟨Z1, s1, O1, _, Q', rs1, ro1, t.mono m1.l, w1, fun Z2 σ2 s2 H2 O2 m2 e2 rs2 ro2 w2 => po _ _ _ _ _ (m1.trans m2) (e2.trans e1) rs2 ro2 w2⟩)⟩⟩
theorem dgw_tup {k n : Nat} {es : List Expr} {Ws : WGs} (hc : X.calm = true) (h : DGWs X P vs es Ws)
    (hn : (assignEach es X.env).length = n := by rfl) (hst : (assignEach es X.env).findIdx? (·.1) = none := by rfl) : DGW X P vs (.Tuple es k pos) (wgTup n Ws) :=
  ⟨⟨fun pins s σ H v u Q I r ⟨w, sd, O, d, Q', rs, ro, rd, q, po⟩ => (pg_tup hc h.ex hn hst).run pins s σ H v u Q I r (by
    cases rd with
    | tup e rr =>
      obtain ⟨hl, q⟩ := q
      exact ⟨_, _, rfl, .inl (.inl (ro.frz e)), rr.length.symm.trans hl, w, sd, O, _, _, rs, ro, rr, q, po⟩
    | _ => exact q.elim)⟩⟩
end

/-! ### [elt for tg in iter if ..] -/
def lcN (g : WG) (Wt : WT) (We : WE) (C : OO → Prop) (s0 : SD) (K : List D → OO → Prop) : List D → List D → OO → Prop
  | [], acc, O => C O ∧ K acc O
  | d :: r, acc, O => C O ∧ g d s0 O fun s2 O2 => Wt s2 O2 fun b O3 => if b = true then We s2 O3 fun y O4 => isD y fun y => acc.length < sizeLine ∧ lcN g Wt We C s0 K r (acc ++ [y]) O4
      else lcN g Wt We C s0 K r acc O3
def wLc (Wi : WI) (g : WG) (Wt : WT) (We : WE) (vs : List Nat) : WN := fun s O Q => Wi s O fun ds C O1 => lcN g Wt We C (wipeS s vs) (fun acc O => Q (.lst acc) O) ds [] O1
/-- what is told of the new container through a turn -/
theorem RelO.hold {w : Wd} {H : Hp} {O : OO} {p : Addr} {u : HO} (h : RelO w H O) (n : w p = none) (no : O p = none) (e : H p = some u) (nx : NoX (.fix u) := by first | exact True.intro | exact PlainU.of (by assumption) | exact (PlainU.of (by assumption)).2.1 | exact ⟨fun _ z => (by cases z), fun _ z => (by cases z), fun _ z => (by cases z)⟩ | exact fun _ z => (by cases z) | assumption) : Ext w (w.put p (.fix u)) ∧ RelO (w.put p (.fix u)) H O := ⟨ext_put n, h.tell n no e nx⟩
theorem noO {w : Wd} {H : Hp} {O : OO} {p : Addr} {c : Cell} (h : RelO w H O) (e : w p = some c) : O p = none := by
  cases z : O p with
  | none => rfl
  | some m => rw [h.off _ _ z] at e; cases e
theorem RelO.drop {w : Wd} {H : Hp} {O : OO} {p : Addr} {u : HO} (h : RelO w H O) (e : w p = some (.fix u)) : RelO (w.rem p) H O := by
  have := h.remCell (u' := u) e
  rwa [show upd H p u = H from by
    funext b
    unfold upd
    split
    · rename_i z; rw [z]; exact (h.cell _ _ e).symm
    · rfl] at this
section
variable {X : Cx} {P : PX} {elt tg iter kx vx : Expr} {ifs : List Expr} {scope : Scope} {pos : Pos} {Wi : WI} {G : WG} {Wt : WT} {We Wky : WE}
abbrev Blk (X : Cx) (scope : Scope) (Q : Cx → Prop) : Prop := ∀ (s : Shared) (H : Hp) (C : Addr) (cl : List (Str × Addr)) (fp : List Addr), Q (X.blk s H scope (compEnvC scope cl C X.env) fp)
theorem lc_sim {w : Wd} {σ : L2.St} {s : SD} {H : Hp} {O : OO} {ti : TI} {vs : List Nat} {Q : CM → OO → Prop} {R : VK}
    (hi : ∀ w σ s H O K (R : It → Hp → Prop), RelS P w σ s → RelO w H O → Wi s O K → (∀ J w' H' O' ds C, Ext w w' → RelO w' H' O' → K ds C O' → Wk false w' J ds C → R J H') → ti σ H R)
    (rs : RelS P w σ s) (ro : RelO w H O) (q : wLc Wi G Wt We vs s O Q) (po : PostC w Q R) :
    tLc ti (canW P.no vs G) (canT P.no Wt) (canE P.no We) vs σ H R := by
  refine hi _ _ _ _ _ _ _ rs ro q fun J Z1 H1 O1 ds C s1 r1 w1 wk => ?_
  intro a ha
  refine ⟨fun i m H => m = ds.length - i ∧ i ≤ ds.length ∧ ∃ w' O acc us, Ext Z1 w' ∧ RelO w' H O ∧ w' a = none ∧ O a = none ∧ H a = some (.lst us) ∧ Reps w' acc us ∧ lcN G Wt We C (wipeS s vs) (fun acc O => Q (.lst acc) O) (ds.drop i) acc O,
    ⟨ds.length, by simp, Nat.zero_le _, Z1, _, [], [], Ext.refl _, r1.newC ha, r1.freeW ha, r1.free ha, upd_same, .nil, by simpa using w1⟩, ?_⟩
  rintro i m H2 ⟨rfl, hle, Z2, O2, acc, us, s2, r2, na, oa, hu, ra, w2⟩
  obtain ⟨x2, rr2⟩ := r2.hold na oa hu
  cases ed : ds.drop i with
  | nil =>
    rw [ed] at w2
    obtain ⟨hC, q⟩ := w2
    have hi' := drop_nil' ed hle
    exact .inl ⟨(wk Z2 H2 O2 i s2 r2 hC).1 hi', po _ _ _ _ (.lst acc) _ (s1.trans s2) r2 na oa hu ⟨us, rfl, ra⟩ q⟩
  | cons d r =>
    rw [ed] at w2
    obtain ⟨hC, q⟩ := w2
    obtain ⟨hd, hr, hlt⟩ := drop_cons ed
    obtain ⟨hgo, hy⟩ := (wk _ H2 O2 i (s2.trans x2) rr2 hC).2 d hd
    refine .inr ⟨hgo, fun H' => ∃ w' O acc us, Ext Z1 w' ∧ RelO w' H' O ∧ w' a = none ∧ O a = none ∧ H' a = some (.lst us) ∧ Reps w' acc us ∧ lcN G Wt We C (wipeS s vs) (fun acc O => Q (.lst acc) O) (ds.drop (i + 1)) acc O, fun H' hN => ⟨ds.length - (i + 1), by omega, rfl, hlt, hN⟩, fun x H' y => ?_⟩
    obtain ⟨Z3, s3, r3, rx⟩ := hy x H' y
    refine ⟨Z3, wipeS s vs, O2, d, _, (rs.no.wipe vs).mono (s1.trans (s2.trans (x2.trans s3))), r3, rx, q, fun Z4 σ4 sd4 H4 O4 s4 ew rs4 r4 w4 => ⟨?_, ?_⟩⟩
    · rw [ew]
      exact wipe_wipe σ vs
    · refine ⟨Z4, sd4, O4, _, rs4, r4, w4, fun b H5 Z5 O5 s5 r5 w5 => ?_⟩
      have sm := x2.trans (s3.trans (s4.trans s5))
      have ca := (s3.trans (s4.trans s5)) _ _ put_same
      cases b with
      | true =>
        simp only [↓reduceIte] at w5 ⊢
        refine ⟨Z5, sd4, O5, _, rs4.mono s5, r5, w5, fun y H6 Z6 yd O6 s6 r6 e6 w6 => ?_⟩
        obtain ⟨yd, rfl, hl6, w6⟩ := isD_ex w6
        have ca6 := s6 _ _ ca
        refine ⟨us, r6.cell _ _ ca6, by rw [← ra.length]; exact hl6, Z6.rem a, O6, acc ++ [yd], us ++ [y], ext_rem (s2.trans (sm.trans s6)) (r1.freeW ha), r6.remCell ca6, rem_same, noO r6 ca6, upd_same, ?_, by rw [hr]; exact w6⟩
        exact ((ra.mono (sm.trans s6).l).mono (rem_le ⟨_, ca6⟩)).append (.one (e6.toD.mono (rem_le ⟨_, ca6⟩)))
      | false =>
        simp only [Bool.false_eq_true, ↓reduceIte] at w5 ⊢
        exact ⟨Z5.rem a, O5, acc, us, ext_rem (s2.trans sm) (r1.freeW ha), r5.drop ca, rem_same, noO r5 ca, r5.cell _ _ ca, (ra.mono sm.l).mono (rem_le ⟨_, ca⟩), by rw [hr]; exact w5⟩
theorem dn_lc {own : List (Str × Nat)} (hc : X.calm = true) (hN : X.N.Nodup) (hi : DI false X P tg iter Wi) (ok : BlkOk X.N X.env.scope scope own) (hg : Blk X scope fun Y => DGW Y P.no (own.map (·.2)) tg G)
    (ht : Blk X scope fun Y => DTs Y P.no ifs Wt) (he : Blk X scope fun Y => DE Y P.no elt We) (hs : ∀ x, foldedSetIterable iter X.env x = pure x := by intro _; rfl) : DN X P (.ListComp elt [⟨tg, iter, ifs, 0⟩] scope pos) (wLc Wi G Wt We (own.map (·.2))) := by
  obtain ⟨ti, qi, hi⟩ := hi.ex
  exact ⟨_, pe_lc hc hN qi ok (fun s H C cl fp => (hg s H C cl fp).ex) (fun s H C cl fp => (ht s H C cl fp).ex) (fun s H C cl fp => (he s H C cl fp).can) hs, fun w σ s H O Q R rs ro q po => lc_sim hi rs ro q po⟩
/-- y = [..], y's own -/
theorem ds_ownLc {own : List (Str × Nat)} (i : Nat) {y : Str} {py spos : Pos} (hc : X.calm = true) (hN : X.N.Nodup) (hi : DI false X P tg iter Wi) (ok : BlkOk X.N X.env.scope scope own) (hg : Blk X scope fun Y => DGW Y P.no (own.map (·.2)) tg G)
    (ht : Blk X scope fun Y => DTs Y P.no ifs Wt) (he : Blk X scope fun Y => DE Y P.no elt We) (hsw : swapsWith (.ListComp elt [⟨tg, iter, ifs, 0⟩] scope pos) (some (.Name y py)) spos.line X.env = pure true)
    (hy : X.N[i]? = some y := by rfl) (hyl : X.env.scope.names.lookup y = some .local := by rfl) (hs : ∀ x, foldedSetIterable iter X.env x = pure x := by intro _; rfl) :
    DS X P (.Assign [.Name y py] (.ListComp elt [⟨tg, iter, ifs, 0⟩] scope pos) spos) (wOwn i (wLc Wi G Wt We (own.map (·.2)))) := by
  obtain ⟨ti, qi, hi⟩ := hi.ex
  refine ⟨_, ps_setLc hc hN hy hyl hsw qi ok (fun s H C cl fp => (hg s H C cl fp).ex) (fun s H C cl fp => (ht s H C cl fp).ex) (fun s H C cl fp => (he s H C cl fp).can) hs, fun w σ s H O D' E rs ro q po => ?_⟩
  refine lc_sim (Q := fun m O1 => D'.nx (s.set i (some (.o m))) O1) (R := fun v H1 => gName i v σ H1 E.nx) hi rs ro q fun p u H1 Z1 m O1 s1 r1 n1 n2 hu cr q => ?_
  have x := ext_put (c := .own u) n1
  exact po.nx _ _ _ _ _ (s1.trans x).s ((rs.mono s1).setO i n1 cr) (r1.tell n1 n2 hu) q
end

/-! ### {k: v for tg in iter if ..} -/
def dcN (g : WG) (Wt : WT) (Wky We : WE) (C : OO → Prop) (s0 : SD) (K : List (Key × D) → OO → Prop) : List D → List (Key × D) → OO → Prop
  | [], acc, O => C O ∧ K acc O
  | d :: r, acc, O => C O ∧ g d s0 O fun s2 O2 => Wt s2 O2 fun b O3 => if b = true then Wky s2 O3 fun y O4 => isD y fun y => We s2 O4 fun z O5 => isD z fun z => acc.length < sizeLine ∧ ∃ k, keyD y = some k ∧ dcN g Wt Wky We C s0 K r (putG acc k z) O5
      else dcN g Wt Wky We C s0 K r acc O3
def wDc (Wi : WI) (g : WG) (Wt : WT) (Wky We : WE) (vs : List Nat) : WN := fun s O Q => Wi s O fun ds C O1 => dcN g Wt Wky We C (wipeS s vs) (fun acc O => Q (.dic acc) O) ds [] O1
section
variable {X : Cx} {P : PX} {elt tg iter kx vx : Expr} {ifs : List Expr} {scope : Scope} {pos : Pos} {Wi : WI} {G : WG} {Wt : WT} {We Wky : WE}
theorem dn_dc {own : List (Str × Nat)} (hc : X.calm = true) (hN : X.N.Nodup) (hi : DI false X P tg iter Wi) (ok : BlkOk X.N X.env.scope scope own) (hg : Blk X scope fun Y => DGW Y P.no (own.map (·.2)) tg G)
    (ht : Blk X scope fun Y => DTs Y P.no ifs Wt) (hk : Blk X scope fun Y => DE Y P.no kx Wky) (he : Blk X scope fun Y => DE Y P.no vx We) (hs : ∀ x, foldedSetIterable iter X.env x = pure x := by intro _; rfl) : DN X P (.DictComp kx vx [⟨tg, iter, ifs, 0⟩] scope pos) (wDc Wi G Wt Wky We (own.map (·.2))) := by
  obtain ⟨ti, qi, hi⟩ := hi.ex
  refine ⟨_, pe_dc hc hN qi ok (fun s H C cl fp => (hg s H C cl fp).ex) (fun s H C cl fp => (ht s H C cl fp).ex) (fun s H C cl fp => (hk s H C cl fp).can) (fun s H C cl fp => (he s H C cl fp).can) hs, fun w σ s H O Q R rs ro q po => ?_⟩
  generalize own.map (·.2) = vs at q
  refine hi _ _ _ _ _ _ _ rs ro q fun J Z1 H1 O1 ds C s1 r1 w1 wk => ?_
  intro a ha
  refine ⟨fun i m H => m = ds.length - i ∧ i ≤ ds.length ∧ ∃ w' O acc us, Ext Z1 w' ∧ RelO w' H O ∧ w' a = none ∧ O a = none ∧ H a = some (.dK us) ∧ RepK w' acc us ∧ dcN G Wt Wky We C (wipeS s vs) (fun acc O => Q (.dic acc) O) (ds.drop i) acc O,
    ⟨ds.length, by simp, Nat.zero_le _, Z1, _, [], [], Ext.refl _, r1.newC ha, r1.freeW ha, r1.free ha, upd_same, .nil, by simpa using w1⟩, ?_⟩
  rintro i m H2 ⟨rfl, hle, Z2, O2, acc, us, s2, r2, na, oa, hu, ra, w2⟩
  obtain ⟨x2, rr2⟩ := r2.hold na oa hu
  cases ed : ds.drop i with
  | nil =>
    rw [ed] at w2
    obtain ⟨hC, q⟩ := w2
    have hi' := drop_nil' ed hle
    exact .inl ⟨(wk Z2 H2 O2 i s2 r2 hC).1 hi', po _ _ _ _ (.dic acc) _ (s1.trans s2) r2 na oa hu ⟨us, rfl, ra⟩ q⟩
  | cons d r =>
    rw [ed] at w2
    obtain ⟨hC, q⟩ := w2
    obtain ⟨hd, hr, hlt⟩ := drop_cons ed
    obtain ⟨hgo, hy⟩ := (wk _ H2 O2 i (s2.trans x2) rr2 hC).2 d hd
    refine .inr ⟨hgo, fun H' => ∃ w' O acc us, Ext Z1 w' ∧ RelO w' H' O ∧ w' a = none ∧ O a = none ∧ H' a = some (.dK us) ∧ RepK w' acc us ∧ dcN G Wt Wky We C (wipeS s vs) (fun acc O => Q (.dic acc) O) (ds.drop (i + 1)) acc O, fun H' hN => ⟨ds.length - (i + 1), by omega, rfl, hlt, hN⟩, fun x H' y => ?_⟩
    obtain ⟨Z3, s3, r3, rx⟩ := hy x H' y
    refine ⟨Z3, wipeS s vs, O2, d, _, (rs.no.wipe vs).mono (s1.trans (s2.trans (x2.trans s3))), r3, rx, q, fun Z4 σ4 sd4 H4 O4 s4 ew rs4 r4 w4 => ⟨?_, ?_⟩⟩
    · rw [ew]
      exact wipe_wipe σ vs
    · refine ⟨Z4, sd4, O4, _, rs4, r4, w4, fun b H5 Z5 O5 s5 r5 w5 => ?_⟩
      have sm := x2.trans (s3.trans (s4.trans s5))
      have ca := (s3.trans (s4.trans s5)) _ _ put_same
      cases b with
      | true =>
        simp only [↓reduceIte] at w5 ⊢
        refine ⟨Z5, sd4, O5, _, rs4.mono s5, r5, w5, fun y H6 Z6 yd O6 s6 r6 e6 w6 => ?_⟩
        obtain ⟨yd, rfl, w6⟩ := isD_ex w6
        refine ⟨Z6, sd4, O6, _, rs4.mono (s5.trans s6), r6, w6, fun z H7 Z7 zd O7 s7 r7 e7 w7 => ?_⟩
        obtain ⟨zd, rfl, hl7, k, hk, w7⟩ := isD_ex w7
        have ca7 := s7 _ _ (s6 _ _ ca)
        have sn := sm.trans (s6.trans s7)
        refine ⟨us, k, keyD_ok e6.toD hk, r7.cell _ _ ca7, by rw [← ra.length]; exact hl7, Z7.rem a, O7, putG acc k zd, putK us k z, ext_rem (s2.trans sn) (r1.freeW ha), r7.remCell ca7, rem_same, noO r7 ca7, upd_same, ?_, by rw [hr]; exact w7⟩
        exact ((ra.mono sn.l).mono (rem_le ⟨_, ca7⟩)).put (e7.toD.mono (rem_le ⟨_, ca7⟩))
      | false =>
        simp only [Bool.false_eq_true, ↓reduceIte] at w5 ⊢
        exact ⟨Z5.rem a, O5, acc, us, ext_rem (s2.trans sm) (r1.freeW ha), r5.drop ca, rem_same, noO r5 ca, r5.cell _ _ ca, (ra.mono sm.l).mono (rem_le ⟨_, ca⟩), by rw [hr]; exact w5⟩
end
end VD

set_option Elab.async false
set_option linter.all false
set_option maxRecDepth 100000
set_option maxHeartbeats 1000000
/-! VD: raise, try, what a suite asks of its exception -/
namespace VD
open PySem PySem.Spec PyProof.Rows L2

/-! ### raise -/
/-- X(), an own exception class without own __init__ -/
theorem pmk_own0 {X : Cx} {C : Addr} {bmB : List Value} {B newId initId : String} {x : Str} {p pos : Pos} (F : ExcBaseFacts B newId initId bmB) (q : PySem.W.excIn X.K C bmB newId = true) (gC : X.mg x = some (.ref C))
    (kC : PySem.W.keepIn X.K (.ref C) = true) (r : Raises X (.ref C)) (hg : Gl X x) (hdb : (x == ("__debug__" : Str)) = false := by decide) : PMk X (.Call (.Name x p) [] [] pos) (fun _ H Q => Q (.ref C) none H) := by
  intro pins s σ H Q I h
  refine wpAny_Call_Name_kw (ld_glob I hg gC ?_ hdb)
  refine PySem.W.callWith_K0 I.kIn kC ?_
  obtain ⟨bm, N, nm, qn, bs, hdct, sn, sub, ab, col, dd, k0, k1, k2, k3, k5, mN, hC, hN, hni, T⟩ := exc_obj I.kIn q
  refine wpAny_call_exc_subT F T hC hN hni (fun h' e hm => ?_) (Nat.zero_le _)
  exact mk_of I hm r h (I.hok.gone hm.new)
/-- what an own class without __init__ must say to be raised -/
structure XCls (K : PySem.W.Frag) (mg : Str → Option Value) (x : Str) (C : Addr) : Prop where
  gC : mg x = some (.ref C)
  q : PySem.W.excIn K C [.type "ValueError", .type "Exception", .type "BaseException", .type "object"] "ValueError.__new__" = true
  kC : PySem.W.keepIn K (.ref C) = true
  b : PySem.W.subIn K (.ref C) (.type "BaseException") = some true
  t : PySem.W.typeIn K (.ref C) = some (.type "type")
def wRaise (R : Nat → List (Str × D) → SD → OO → Prop) (k : Nat) : WS := fun _ s O => R k [] s O
def wRaiseA (R : Nat → List (Str × D) → SD → OO → Prop) (k : Nat) (W : WA) : WS := fun _ s O => W s O fun bs O1 => bs.length ≤ 100 ∧ R k [] s O1
section
variable {X : Cx} {P : PX} {x : Str} {C : Addr} {p pos pos' : Pos} {e : Expr} {es : List Expr} {W : WA}
theorem ds_raise0 (k : Nat) (F : ExcBaseFacts "ValueError" "ValueError.__new__" initId [.type "ValueError", .type "Exception", .type "BaseException", .type "object"]) (hc : X.calm = true) (tk : Takes X P.Wx) (h : XCls X.K X.mg x C) (hk : P.cl k = C) (hg : Gl X x) (hdb : (x == ("__debug__" : Str)) = false := by decide) :
    DS X P (.Raise (some (.Call (.Name x p) [] [] pos)) none pos') (wRaise P.R k) := by
  refine ⟨_, ps_raise hc tk (pmk_own0 F h.q h.gC h.kC (raises_own h.b h.t) hg hdb), fun w σ s H O D E rs ro q po => ?_⟩
  subst hk
  exact rs.px _ _ _ _ _ _ _ _ (ExtS.refl _) rs.toRelS0 ro (.inl ⟨rfl, rfl⟩) q
theorem ds_raiseA (k : Nat) (F : ExcBaseFacts "ValueError" "ValueError.__new__" initId [.type "ValueError", .type "Exception", .type "BaseException", .type "object"]) (hc : X.calm = true) (tk : Takes X P.Wx) (h : XCls X.K X.mg x C) (hk : P.cl k = C) (hg : Gl X x) (ha : DA X P (e :: es) W) (hdb : (x == ("__debug__" : Str)) = false := by decide)
    (he : starEach (e :: es) X.env = (false, eval e X.env) :: starEach es X.env := by rfl) (hpl : (backTo pos (starEach es X.env)).any (·.1) = false := by rfl) :
    DS X P (.Raise (some (.Call (.Name x p) (e :: es) [] pos)) none pos') (wRaiseA P.R k W) := by
  obtain ⟨t, q, h2⟩ := ha.ex
  refine ⟨_, ps_raise hc tk (pmk_ownA F h.q h.gC h.kC (raises_own h.b h.t) hg q hdb he hpl), fun w σ s H O D E rs ro q po => ?_⟩
  subst hk
  refine h2 _ _ _ _ _ _ _ rs ro q fun vs H1 Z1 ds O1 l1 s1 r1 e1 ⟨hl, w1⟩ => ⟨?_, ?_⟩
  · rw [← e1.length]
    have := sizeLine_eq
    omega
  · exact (rs.mono s1).px _ _ _ _ _ _ _ _ (ExtS.refl _) (rs.mono s1).toRelS0 r1 (.inl ⟨rfl, rfl⟩) w1
end

/-! ### try: .. except C as n: .. -/
/-- the fields of the exception that a suite holds -/
def XS (w : Wd) (d : Option Addr) (fs : List (Str × D)) : Prop := (d = none ∧ fs = []) ∨ ∃ dx us, d = some dx ∧ w dx = some (.frz (.xd us)) ∧ RepF w fs us
theorem XS.mono {w w' : Wd} (h : Le0 w w') {d fs} : XS w d fs → XS w' d fs
  | .inl e => .inl e
  | .inr ⟨dx, us, e, q, r⟩ => .inr ⟨dx, us, e, h.frz _ _ q, r.mono h⟩
def PX.suite (P : PX) (d : Option Addr) (fs : List (Str × D)) : PX := ⟨fun _ _ _ _ => False, fun _ _ _ _ => False, P.cl, fun w => P.S w ∧ XS w d fs, fun w w' h k => ⟨P.mono _ _ h k.1, k.2.mono h.l⟩, P.T⟩
def PX.tr (P : PX) (R : Nat → List (Str × D) → SD → OO → Prop) (W : WX) : PX := ⟨R, W, P.cl, P.S, P.mono, P.T⟩
def sufD (i : Nat) (D : DEnds) : DEnds := { nx := fun s O => D.nx (s.set i none) O, rt := D.rt, bk := fun s O => D.bk (s.set i none) O, ct := fun s O => D.ct (s.set i none) O }
abbrev sufE (i : Nat) (D : Ends) : Ends := { nx := fun σ' H' => D.nx (σ'.set i none) H', rt := D.rt, bk := fun σ' H' => D.bk (σ'.set i none) H', ct := fun σ' H' => D.ct (σ'.set i none) H' }
abbrev RT := Nat → List (Str × D) → SD → OO → Prop
def rTry (i : Nat) (isx : Nat → Option Bool) (R : RT) (Ws : Addr → Nat → List (Str × D) → WS) (D : DEnds) : RT := fun k fs s O => match isx k with
  | some true => ∀ a, O a = none → Ws a k fs (sufD i D) (s.set i (some (.d (.ref a)))) O
  | some false => R k fs s O
  | none => False
def wTry (i : Nat) (isx : Nat → Option Bool) (R : RT) (Wb : RT → WS) (Ws : Addr → Nat → List (Str × D) → WS) : WS := fun D s O => Wb (rTry i isx R Ws D) D s O
def canSs (P : PX) (W : WS) : TS := fun E σ H => ∃ w s O D, RelS P w σ s ∧ RelO w H O ∧ W D s O ∧ PostS P w D E
theorem DSs.can {X : Cx} {P : PX} {ss : List Stmt} {W : WS} (h : DSs X P ss W) : PSs X ss (canSs P W) := by
  obtain ⟨t, q, h⟩ := h.ex
  exact ⟨fun pins s σ H D I ⟨w, sd, O, D', rs, ro, k, po⟩ => q.run pins s σ H D I (h _ _ _ _ _ _ _ rs ro k po)⟩
section
variable {X : Cx} {P : PX}
theorem RelS.untr {w w' : Wd} {σ σ' : L2.St} {s s' : SD} {R : RT} {W : WX} (r : RelS P w σ s) (x : ExtS w w') (k : RelS (P.tr R W) w' σ' s') : RelS P w' σ' s' := ⟨k.toRelS0, r.px.mono x, k.sx, k.tx⟩
theorem RelS.unsuite {w w' : Wd} {σ' : L2.St} {s' : SD} {d fs} (r : PXok P w) (x : ExtS w w') (k : RelS (P.suite d fs) w' σ' s') : RelS P w' σ' s' := ⟨k.toRelS0, r.mono x, k.sx.1, k.tx⟩
theorem XRep.tell {w : Wd} {H : Hp} {O : OO} {d : Option Addr} {fs : List (Str × D)} (h : XRep w H O d fs) (ro : RelO w H O) : ∃ w2, Ext w w2 ∧ RelO w2 H O ∧ XS w2 d fs := by
  rcases h with h | ⟨dx, us, h1, h2, h3, h4, h5⟩
  · exact ⟨w, Ext.refl _, ro, .inl h⟩
  · exact ⟨w.put dx (.frz (.xd us)), ext_put h3, ro.tell h3 h4 h2, .inr ⟨dx, us, h1, put_same, h5.mono (ext_put h3).l⟩⟩
theorem ds_try {x n : Str} {c : Value} {isx : Nat → Option Bool} {i : Nat} {body suite : List Stmt} {b₀ : Stmt} {np pos pos' : Pos} {Wb : RT → WS} {Ws : Addr → Nat → List (Str × D) → WS}
    (hs : X.stack = X.env :: X.outer) (hf : X.env.frame = some X.env.locals) (hN : X.N.Nodup) (hi : X.N[i]? = some n) (hln : X.env.kindOf n = some .local) (hc : Names X x c) (tk : Takes X P.Wx)
    (hx : ∀ k b, isx k = some b → PySem.W.exmOne X.K (.ref (P.cl k)) c = some b)
    (hb : ∀ R W pn xe, Takes (X.tr pn xe) W → PassesOwn (model X.prog X.w) X.A X.env xe → DSs (X.tr pn xe) (P.tr R W) body (Wb R))
    (hsu : ∀ a oe k d fs pn, isx k = some true → Zc (.ref (P.cl k)) d oe → (∃ vs, oe.data = .fields vs) → DSs (X.suite a ((a, oe) :: pn)) (P.suite d fs) (b₀ :: suite) (Ws a k fs)) :
    DS X P (.Try body [.ExceptHandler (some (.Name x np)) (some n) (b₀ :: suite) pos'] [] [] pos) (wTry i isx P.R Wb Ws) := by
  refine ⟨_, ps_try_as (tb := fun W E σ H => ∃ R, canSs (P.tr R W) (Wb R) E σ H)
    (ts := fun a cls d E σ H => ∃ k fs, cls = .ref (P.cl k) ∧ isx k = some true ∧ canSs (P.suite d fs) (Ws a k fs) E σ H) (Wout := P.Wx) hs hf hN hi hln hc tk (fun W pn xe t p => ?_) (fun a oe cls d pn hz hv => ?_), fun w σ s H O D E rs ro q po => ?_⟩
  · exact ⟨fun pins s σ H E I ⟨R, h⟩ => (hb R W pn xe t p).can.run pins s σ H E I h⟩
  · exact ⟨fun pins s σ H E I ⟨k, fs, hk, hi, h⟩ => by
      subst hk
      exact (hsu a oe k d fs pn hi hz hv).can.run pins s σ H E I h⟩
  · refine ⟨rTry i isx P.R Ws D, w, s, O, D, ⟨rs.toRelS0, fun w' σ' s' H' O' k d fs x r0 r' xr q => ?_, rs.sx, rs.tx⟩, ro, q, ?_⟩
    · have q : rTry i isx P.R Ws D k fs s' O' := q
      show ∃ b, PySem.W.exmOne X.K (.ref (P.cl k)) c = some b ∧ _
      unfold rTry at q
      split at q
      · rename_i e
        refine ⟨true, hx k true e, fun _ a ha => ?_, (fun z => by cases z)⟩
        obtain ⟨w2, x2, r2, xs⟩ := xr.tell r'
        have pk := rs.px.mono (x.trans x2.s)
        refine ⟨k, fs, rfl, e, w2, _, O', sufD i D, ⟨(r0.mono x2).set i (.d .ref) (fun _ z => by cases z), fun _ _ _ _ _ _ _ _ _ _ _ _ z => z.elim, ⟨P.mono _ _ (x.trans x2.s) rs.sx, xs⟩, fun p hp => (x.trans x2.s) _ _ (rs.tx p hp) (fun _ z => by cases z)⟩, r2, q a (r'.free ha), ⟨?_, ?_, ?_, ?_⟩⟩
        · exact fun w3 σ3 s3 H3 O3 x3 rs3 r3 q3 => po.nx _ _ _ _ _ (x.trans (x2.s.trans x3)) ((rs3.unsuite pk x3).clear i none) r3 q3
        · exact po.rt.mono (x.trans x2.s)
        · exact fun w3 σ3 s3 H3 O3 x3 rs3 r3 q3 => po.bk _ _ _ _ _ (x.trans (x2.s.trans x3)) ((rs3.unsuite pk x3).clear i none) r3 q3
        · exact fun w3 σ3 s3 H3 O3 x3 rs3 r3 q3 => po.ct _ _ _ _ _ (x.trans (x2.s.trans x3)) ((rs3.unsuite pk x3).clear i none) r3 q3
      · rename_i e
        exact ⟨false, hx k false e, (fun z => by cases z), fun _ => rs.px _ _ _ _ _ _ _ _ x r0 r' xr q⟩
      · exact q.elim
    · exact ⟨fun w3 σ3 s3 H3 O3 x3 rs3 r3 q3 => po.nx _ _ _ _ _ x3 (rs.untr x3 rs3) r3 q3, po.rt, fun w3 σ3 s3 H3 O3 x3 rs3 r3 q3 => po.bk _ _ _ _ _ x3 (rs.untr x3 rs3) r3 q3,
        fun w3 σ3 s3 H3 O3 x3 rs3 r3 q3 => po.ct _ _ _ _ _ x3 (rs.untr x3 rs3) r3 q3⟩
end
end VD

set_option Elab.async false
set_option linter.all false
set_option maxRecDepth 100000
set_option maxHeartbeats 1000000
/-! VD: list.count, .index, .remove; isinstance and fields of an exception -/
namespace VD
open PySem PySem.Spec PyProof.Rows L2
section
variable {X : Cx}
theorem toPyL_get : ∀ (ds : List D) (j : Nat), (toPyL ds)[j]? = (ds[j]?).map toPy
  | [], j => by simp [toPyL]
  | d :: r, 0 => by simp [toPyL]
  | d :: r, j + 1 => by simp [toPyL, toPyL_get r j]
theorem toPyL_cnt (d : D) (hd : pln d = true) : ∀ ds, plnL ds = true → ((toPyL ds).countP fun y => PyData.eqv y (toPy d)) = ds.countP fun y => eqvD y d
  | [], _ => rfl
  | z :: r, h => by
    simp only [plnL, Bool.and_eq_true] at h
    simp only [toPyL, List.countP_cons, toPyL_cnt d hd r h.2, eqv_py z d h.1 hd]
theorem dataPlace_eq (d : D) (hd : pln d = true) : ∀ ds, plnL ds = true → PySem.SeqAt.dataPlace (toPyL ds) (toPy d) = ds.findIdx? fun y => eqvD y d
  | [], _ => rfl
  | z :: r, h => by
    simp only [plnL, Bool.and_eq_true] at h
    have ih := dataPlace_eq d hd r h.2
    unfold PySem.SeqAt.dataPlace at ih ⊢
    simp only [toPyL, List.findIdx?_cons, ih, eqv_py z d h.1 hd]
/-- a list of data and an item -/
def LstY (H : Hp) (x : V) (xs : List V) (ds : List D) (d : D) : Prop := ∃ w a vs y, x = .ref a ∧ xs = [y] ∧ SubW w H ∧ H a = some (.lst vs) ∧ Reps w ds vs ∧ Rep w d y ∧ ds.all pln = true ∧ pln d = true ∧ dpD d ≤ 60
theorem lstY_at {pins : List (Addr × Obj)} {σ : L2.St} {H : Hp} {s : Shared} (I : Inv X pins σ H s) {x : V} {xs : List V} {ds : List D} {d : D} {v : Value} {us : List Value} (rx : RelV x v) (rxs : Vals xs us) (h : LstY H x xs ds d) :
    ∃ (a : Addr) (its : List Value) (uy : Value) (as bs : List Addr) (vs : List V), v = .ref a ∧ us = [uy] ∧ s.heap.IsList a its.toArray ∧ ReadsAll s.heap its.toArray.toList (toPyL ds) as ∧ Reads s.heap uy (toPy d) bs ∧ PyData.plainAll (toPyL ds) = true ∧ (toPy d).plain = true ∧ (toPy d).depth ≤ 60 ∧ its.length = ds.length ∧ its.length ≤ sizeLine := by
  obtain ⟨w, a, vs, y, rfl, rfl, sub, ha, rl, ry, h1, h2, hd⟩ := h
  cases (show v = Value.ref a from rx)
  obtain ⟨uy, rfl, ru⟩ := vals1 rxs
  rw [← plnL_all] at h1
  obtain ⟨a1, b1, c1⟩ := pln_ok d h2
  obtain ⟨a2, b2, _⟩ := plnL_ok ds h1
  obtain ⟨its, rv, pl, hl⟩ := I.list (H := H) (.inl (.inl ha))
  obtain ⟨as, _, ra⟩ := readsL_run (b := false) I sub (fun h => by cases h) ds a2 rl rv
  obtain ⟨bs, _, rb⟩ := reads_run (b := false) I sub (fun h => by cases h) d a1 ry ru
  exact ⟨a, its, uy, as, bs, vs, rfl, rfl, pl.isList, by simpa using ra, rb, b2, b1, by rw [c1]; exact hd, by rw [rl.length, rv.length], by rw [← rv.length]; exact hl⟩
def rCntT : V → List V → Hp → VK → Prop := fun x xs H Q => ∃ ds d, LstY H x xs ds d ∧ Q (.int (ds.countP (fun z => eqvD z d) : Nat)) H
theorem mt_cntT (hu : X.A.units + 64 < cLine) : MtR X "list.count" rCntT := by
  intro pins s σ H x xs v us Q I rx rxs h
  obtain ⟨ds, d, hl, q⟩ := h
  obtain ⟨a, its, uy, as, bs, vs, rfl, rfl, il, ra, rb, p1, p2, dp, _, _⟩ := lstY_at I rx rxs hl
  obtain ⟨_, _, _, _, _, _, _, _, _, _, h1, h2, _⟩ := hl
  rw [← plnL_all] at h1
  refine PySem.SeqAt.count_list_data il ra rb p1 p2 (by have := Nat.min_le_right (PyData.depthAll (toPyL ds)) (toPy d).depth; omega) ?_
  rw [toPyL_cnt d h2 ds h1]
  exact ⟨.int _, H, I.tok _, ⟨_, rfl⟩, q⟩
def rIdxT : V → List V → Hp → VK → Prop := fun x xs H Q => ∃ ds d j, LstY H x xs ds d ∧ ds.findIdx? (fun z => eqvD z d) = some j ∧ Q (.int (j : Nat)) H
theorem mt_idxT (hu : X.A.units + 64 < cLine) : MtR X "list.index" rIdxT := by
  intro pins s σ H x xs v us Q I rx rxs h
  obtain ⟨ds, d, j, hl, hj, q⟩ := h
  obtain ⟨a, its, uy, as, bs, vs, rfl, rfl, il, ra, rb, p1, p2, dp, ln, sz⟩ := lstY_at I rx rxs hl
  obtain ⟨_, _, _, _, _, _, _, _, _, _, h1, h2, _⟩ := hl
  rw [← plnL_all] at h1
  rw [← dataPlace_eq d h2 ds h1] at hj
  obtain ⟨⟨cls, dd, data, sl⟩, ho, hc, n, hd'⟩ := id il
  simp only at hc hd'
  subst hc hd'
  obtain ⟨hjl, hit, hno⟩ := PySem.SeqAt.hit_at ra p1 hj
  refine call_meets PySem.F.slot_list_index ⟨_, ho, rfl⟩ PySem.F.entry_list_index (PySem.F.args_list_index_2 _ _)
    (SeqAt.list_indexAt a its.toArray n dd sl uy _ j hjl (by have h1 := sizeLine_eq; have h2 : j < its.length := (by simpa using hjl); omega) hit hno) ⟨ho, SeqAt.items_plain ra rb p1 p2 (by have := Nat.min_le_right (PyData.depthAll (toPyL ds)) (toPy d).depth; omega), ?_⟩
  exact ⟨.int (j : Nat), H, I.tok _, ⟨_, rfl⟩, q⟩
def itY (d : BV) (ds : List BV) (O : OO) (K : List D → D → Prop) : Prop := ∃ xs, asL d O = some xs ∧ match ds with | [.d y] => xs.all pln = true ∧ pln y = true ∧ dpD y ≤ 60 ∧ K xs y | _ => False
theorem itY_ok {w : Wd} {H : Hp} {O : OO} {d : BV} {v : V} {ds : List BV} {vs : List V} {K : List D → D → Prop} (ro : RelO w H O) (rd : BRep w d v) (rs : BReps w ds vs) (h : itY d ds O K) : ∃ xs y, LstY H v vs xs y ∧ K xs y := by
  obtain ⟨xs, hx, h⟩ := h
  split at h
  · rename_i y
    obtain ⟨p, us, rfl, hp, r⟩ := asL_ok ro rd hx
    obtain ⟨u, rfl, ru⟩ := rs.one_ex
    obtain ⟨h1, h2, h3, h4⟩ := h
    exact ⟨xs, y, ⟨w.view, p, us, u, rfl, rfl, view_sub ro, hp, r.mono view_le, ru.toD.mono view_le, h1, h2, h3⟩, h4⟩
  · exact h.elim
def mCnt : DMF := fun d ds O Q => itY d ds O fun xs y => Q (.d (.int (xs.countP (fun z => eqvD z y) : Nat))) O
def mIdx : DMF := fun d ds O Q => itY d ds O fun xs y => ∃ j, xs.findIdx? (fun z => eqvD z y) = some j ∧ Q (.d (.int (j : Nat))) O
theorem m_cnt (hu : X.A.units + 64 < cLine) : DMt X "list.count" mCnt := by
  refine ⟨_, mt_cntT hu, fun w H O d v ds vs Q R ro rd rs q po => ?_⟩
  obtain ⟨xs, y, h, q⟩ := itY_ok ro rd rs q
  exact ⟨xs, y, h, po _ _ _ _ _ (Ext.refl _) ro (.d .int) q⟩
theorem m_idx (hu : X.A.units + 64 < cLine) : DMt X "list.index" mIdx := by
  refine ⟨_, mt_idxT hu, fun w H O d v ds vs Q R ro rd rs q po => ?_⟩
  obtain ⟨xs, y, h, j, hj, q⟩ := itY_ok ro rd rs q
  exact ⟨xs, y, j, h, hj, po _ _ _ _ _ (Ext.refl _) ro (.d .int) q⟩
end

/-! ### what a suite asks of its exception -/
/-- isinstance(e, c), e the exception that the suite holds -/
def rIsX (K : PySem.W.Frag) (D a : Addr) (d : Option Addr) : List V → Hp → VK → Prop := fun xs H Q => ∃ (c : V) (cv : Value) (b : Bool), xs = [.ref a, c] ∧ (d = none ∨ ∃ dx fs, d = some dx ∧ H dx = some (.xd fs)) ∧ (∀ u, RelV c u → u = cv) ∧ PySem.W.kitOne K (.ref D) cv = some b ∧ Q (.bl b) H
theorem call_isX {X : Cx} {a D : Addr} {d : Option Addr} {oe : Obj} {pn : List (Addr × Obj)} (C : ExcC X.K D) (hz : Zc (.ref D) d oe) (hf : ∃ vs, oe.data = .fields vs) : CallR (X.suite a ((a, oe) :: pn)) (.builtin "isinstance") (rIsX X.K D a d) := by
  intro pins s σ H xs us Q I r h
  obtain ⟨c, cv, b, rfl, hd, hcv, e, q⟩ := h
  cases r with
  | cons rx rr =>
    cases rr with
    | cons rt rr =>
      cases rr
      cases rx
      have ec := hcv _ rt
      subst ec
      obtain ⟨hget, _⟩ := I.pin (a, oe) (List.mem_append.mpr (.inl List.mem_cons_self))
      obtain ⟨vs, hv⟩ := hf
      have J : ∃ od, PySem.W.InstAt s.heap a oe D od := by
        obtain ⟨oc, odd, oda, osl⟩ := oe
        obtain ⟨h1, h2⟩ := hz
        dsimp only at h1 h2 hv
        subst h1 h2 hv
        rcases hd with rfl | ⟨dx, fs, rfl, hx⟩
        · exact ⟨none, hget, rfl, rfl, trivial⟩
        · have hx' : ObjOk X.prog X.w H s.heap dx (.xd fs) := I.hok dx _ hx
          obtain ⟨mA, hns, hr⟩ := hx'
          obtain ⟨od, ho, hl⟩ := lookIn_ns hns
          exact ⟨some od, hget, rfl, rfl, ho⟩
      obtain ⟨od, J⟩ := J
      exact PySem.W.kia_one (PySem.W.kitx_exc (by obtain ⟨cd, hc, _⟩ := PySem.W.any_some C.hd; rw [hc]; rfl) C.hg C.hk C.hs C.ha C.hn C.ht C.hm) I.kIn J e (fun z => nomatch z) fun tk => ⟨.bl b, H, I.kept (t' := tk) fun _ _ z => z, rfl, q⟩
/-- isinstance(n, C): n the suite's name, in slot i -/
def wIsX (isc : Nat → Option Bool) (k : Nat) (a : Addr) (i : Nat) : WE := fun s O Q => look s i fun x => x = .d (.ref a) ∧ ∃ r, isc k = some r ∧ Q (.d (.bl r)) O
theorem XS.sx {w : Wd} {H : Hp} {O : OO} {d fs} (ro : RelO w H O) (h : XS w d fs) : d = none ∨ ∃ dx us, d = some dx ∧ H dx = some (.xd us) := by
  rcases h with h | ⟨dx, us, h1, h2, _⟩
  · exact .inl h.1
  · exact .inr ⟨dx, us, h1, ro.frz h2⟩
section
variable {X : Cx} {P : PX} {a C : Addr} {d : Option Addr} {fs : List (Str × D)} {oe : Obj} {pn : List (Addr × Obj)} {p p1 p2 pos : Pos} {n x : Str}
theorem de_isX {e2 : Expr} {c : V} {cv : Value} (k i : Nat) {isc : Nat → Option Bool} (hX : ExcC X.K (P.cl k)) (hz : Zc (.ref (P.cl k)) d oe) (hf : ∃ vs, oe.data = .fields vs) (hg : Gl X "isinstance") (hm : X.mg "isinstance" = none)
    (hi : ∀ r, isc k = some r → PySem.W.kitOne X.K (.ref (P.cl k)) cv = some r) (hc : PE (X.suite a ((a, oe) :: pn)) e2 (tC c)) (hcv : ∀ u, RelV c u → u = cv)
    (hN : X.N[i]? = some n := by rfl) (hv : Vis X.env.scope n := by first | exact Or.inl rfl | exact Or.inr (Or.inl rfl) | exact Or.inr (Or.inr rfl)) (hd : (n == ("__debug__" : Str)) = false := by decide) (hcd : (n == ("__classdict__" : Str)) = false := by decide)
    (hs1 : starEach [.Name n p1, e2] X.env = (false, eval (.Name n p1) X.env) :: starEach [e2] X.env := by rfl) (hs2 : starEach [e2] X.env = (false, eval e2 X.env) :: starEach [] X.env := by rfl)
    (hpl : (backTo pos (starEach [e2] X.env)).any (·.1) = false := by rfl) :
    DE (X.suite a ((a, oe) :: pn)) (P.suite d fs) (.Call (.Name "isinstance" p) [.Name n p1, e2] [] pos) (wIsX isc k a i) := by
  have q1 := pe_var (X := X.suite a ((a, oe) :: pn)) (pos := p1) (i := i) hN hv hd hcd
  refine ⟨_, pe_callB (call_isX hX hz hf) hg hm rfl (pa_cons q1 (pa_cons hc pa_nil hs2) hs1) (by decide) (by decide) hs1 hpl, fun w σ s H O Q R rs ro w po => ?_⟩
  obtain ⟨sv, e, rfl, r, hr, q⟩ := look_ex w
  obtain ⟨v, h1, h2⟩ := rs.at' i _ e
  cases h2.bv.toD
  exact ⟨_, h1, c, cv, r, rfl, rs.sx.2.sx ro, hcv, hi r hr, po _ _ _ _ _ (Ext.refl _) ro (.d .bl) q⟩
/-- n.f -/
def wXf (k k0 : Nat) (fs : List (Str × D)) (f : Str) (a : Addr) (i : Nat) : WE := fun s O Q => look s i fun x => x = .d (.ref a) ∧ k = k0 ∧ ∃ y, fs.lookup f = some y ∧ Q (.d y) O
theorem de_xf (k k0 i : Nat) {f : Str} (T : XfC X.K (P.cl k0)) (hno : PySem.W.findIn X.K (.ref (P.cl k0)) f = some none) (hz : Zc (.ref (P.cl k)) d oe) (hf : ∃ vs, oe.data = .fields vs)
    (hN : X.N[i]? = some n := by rfl) (hv : Vis X.env.scope n := by first | exact Or.inl rfl | exact Or.inr (Or.inl rfl) | exact Or.inr (Or.inr rfl)) (hd : (n == ("__debug__" : Str)) = false := by decide) (hcd : (n == ("__classdict__" : Str)) = false := by decide)
    (hb : attributeBase (.Name n p1) f X.env (eval (.Name n p1) X.env) = eval (.Name n p1) X.env := by rfl) :
    DE (X.suite a ((a, oe) :: pn)) (P.suite d fs) (.Attribute (.Name n p1) f pos) (wXf k k0 fs f a i) := by
  refine ⟨_, pe_xf (X := X) T hno hz hf (pe_var (X := X.suite a ((a, oe) :: pn)) (pos := p1) (i := i) hN hv hd hcd) hb, fun w σ s H O Q R rs ro w po => ?_⟩
  obtain ⟨sv, e, rfl, rfl, y, hy, q⟩ := look_ex w
  obtain ⟨v, h1, h2⟩ := rs.at' i _ e
  cases h2.bv.toD
  rcases rs.sx.2 with ⟨_, rfl⟩ | ⟨dx, us, h1', h2', h3'⟩
  · cases hy
  · obtain ⟨v, hl, hr⟩ := h3'.lookup_some hy
    exact ⟨_, h1, rfl, rfl, dx, us, v, h1', ro.frz h2', hl, po _ _ _ _ _ (Ext.refl _) ro (.d hr) q⟩
end
end VD

set_option Elab.async false
set_option linter.all false
set_option maxRecDepth 100000
set_option maxHeartbeats 1000000
/-! VD: a lambda handed to a def that calls it -/
namespace VD
open PySem PySem.Spec PyProof.Rows L2

/-- what the lambda's call does: its value, or an exception -/
abbrev Th := OO → (BV → OO → Prop) → RZ → Prop
def lend1 : SV → SV
  | .o m => .b m
  | x => x
def lendS (s : SD) : SD := s.map fun x => x.map lend1
theorem lendS_get {s : SD} {i : Nat} {x : SV} (e : (lendS s)[i]? = some (some x)) : ∃ y, s[i]? = some (some y) ∧ x = lend1 y := by
  unfold lendS at e
  rw [List.getElem?_map] at e
  cases q : s[i]? with
  | none => rw [q] at e; cases e
  | some o => cases o with
    | none => rw [q] at e; cases e
    | some y => rw [q] at e; cases e; exact ⟨y, rfl, rfl⟩
theorem SRep.lend {w w' : Wd} {y v} (r : SRep w y v) (x : ExtS w.down w') : SRep w' (lend1 y) v := by
  cases r with
  | d r => exact .d ((r.mono down_le).mono x.l)
  | o e c => exact .b (x _ _ (by unfold Wd.down; rw [e]; rfl) (fun _ z => by cases z)) ((c.mono down_le).mono x.l)
  | b e c => exact .b (x _ _ (by unfold Wd.down; rw [e]; rfl) (fun _ z => by cases z)) ((c.mono down_le).mono x.l)
theorem RelS0.lend {w w' : Wd} {σ : L2.St} {s : SD} (r : RelS0 w σ s) (x : ExtS w.down w') : RelS0 w' σ (lendS s) := by
  refine ⟨by rw [r.len]; simp [lendS], fun i y e => ?_, fun i j m n v h1 _ _ _ => ?_⟩
  · obtain ⟨z, e1, rfl⟩ := lendS_get e
    obtain ⟨v, h1, h2⟩ := r.at' i z e1
    exact ⟨v, h1, h2.lend x⟩
  · obtain ⟨z, e1, e2⟩ := lendS_get h1
    cases z <;> cases e2
/-- the thunk T is what tl reads, from w on -/
def ThOk (cl : Nat → Addr) (w0 : Wd) (T : Th) (tl : XK → Hp → VK → Prop) : Prop := ∀ w H O Q R QV E, ExtS w0 w → RelO w H O → T O Q R → PostE w Q QV → PostXd cl w R E → tl E H QV
/-- .. in a def that was handed it: its slot, its code object -/
def PX.got (cl : Nat → Addr) (w0 : Wd) (c' : Addr) (q : Str) : PX := ⟨fun _ _ _ _ => False, fun _ _ _ _ => False, cl, fun w => ExtS w0 w ∧ w c' = some (.frz (LamX.CodeO c' q)), fun _ _ h k => ⟨k.1.trans h, h _ _ k.2 (fun _ z => by cases z)⟩, []⟩
def noS (n : Nat) : SD := List.replicate n none
theorem relS0_no {w : Wd} {σ : L2.St} : RelS0 w σ (noS σ.length) := by
  have no : ∀ {i : Nat} {x : SV}, (noS σ.length)[i]? = some (some x) → False := fun {i x} e => by
    unfold noS at e
    rw [List.getElem?_replicate] at e
    split at e <;> cases e
  exact ⟨by simp [noS], fun i x e => (no e).elim, fun i j m n v h1 => (no h1).elim⟩
/-- call(): what the slots held is forgotten when an exception comes -/
def wAct (f : Addr) (T : Th) (R : RT) (n : Nat) : WE := fun s O Q => look s 0 fun x => x = .d (.ref f) ∧ T O Q fun k fs O' => R k fs (noS n) O'
/-- a wish may take the slots' number for granted -/
theorem takes_len {X : Cx} {W : WX} (tk : Takes X W) : Takes X (fun cls d σ H => σ.length = X.N.length → W cls d σ H) :=
  fun u s' ⟨a, B, sI, pins, σ, H, cls, d, e, I, nb, up, sky, na, os, ag, w⟩ => tk u s' ⟨a, B, sI, pins, σ, H, cls, d, e, I, nb, up, sky, na, os, ag, w I.len⟩
/-- the code that the def runs, and where the lambda's call is read -/
abbrev gotX (X : Cx) (Ng : List Str) (x : Str) (sg : Scope) (g : Addr) (cdg : Value) (s : Shared) (H : Hp) : Cx := cxOf C8.CX0 X.prog X.w X.K X.mg X.base Ng x sg g cdg X.A X.stack s H C8.E0
/-- what a def makes of a thunk -/
abbrev WTh := Addr → Th → WS
/-- the body of a def that calls what it got -/
def GotOk (X : Cx) (cl : Nat → Addr) (Ng : List Str) (x : Str) (sg : Scope) (g : Addr) (bg : List Stmt) (a : Str) (W : WTh) : Prop :=
  ∀ (cdg : Value) (f : Addr) (T : Th) (s : Shared) (H : Hp) (w0 : Wd) (c' : Addr) (q : Str), RoomG 0 (X.A.deeper (envOfC x sg s.heap.objs.size g cdg)) →
    (∀ (R : RT) (Wx : WX) (pn : List (Addr × Obj)) (xe : Value → Shared → Prop) (p1 p2 : Pos), Takes ((gotX X Ng x sg g cdg s H).tr pn xe) Wx → DE ((gotX X Ng x sg g cdg s H).tr pn xe) ((PX.got cl w0 c' q).tr R Wx) (.Call (.Name a p1) [] [] p2) (wAct f T R Ng.length)) →
    DSs (gotX X Ng x sg g cdg s H).nox (PX.got cl w0 c' q) bg (W f T)
/-- in the lambda's body -/
def PX.lam (P : PX) (R : RT) (W : WX) : PX := ⟨R, W, P.cl, fun _ => True, fun _ _ _ _ => True.intro, P.T⟩
def thL (We : RT → WE) (s : SD) : Th := fun O' Q' R' => We (fun k fs _ O'' => R' k fs O'') (lendS s) O' Q'
def wLam (W : WTh) (Ng : List Str) (We : RT → WE) : WE := fun s O Q => ∀ f, W f (thL We s) (retE fun d O' => Q (.d d) O') (sstart Ng [.d (.ref f)]) O
def TTv (cl : Nat → Addr) (Ng : List Str) (W : WTh) : (XK → Hp → VK → Prop) → Hp → VK → Prop := fun tl H Qv => ∃ w0 O T Q, RelO w0 H O ∧ (∀ a u, w0 a ≠ some (.own u)) ∧ ThOk cl w0 T tl ∧ (∀ f, W f T (retE Q) (sstart Ng [.d (.ref f)]) O) ∧ PostR w0 Q Qv
theorem codeO_ext (c : Addr) (q : Str) : ∃ φ, LamX.CodeO c q = .ext φ := ⟨_, rfl⟩
/-- a code object is told of -/
theorem code_told {w : Wd} {H : Hp} {O : OO} {c : Addr} {q : Str} (ro : RelO w H O) (h : H c = some (LamX.CodeO c q)) : ∃ w', Ext w w' ∧ RelO w' H O ∧ w' c = some (.frz (LamX.CodeO c q)) ∧ (∀ a u, w' a = some (.own u) → w a = some (.own u)) := by
  obtain ⟨φ, eφ⟩ := codeO_ext c q
  cases e : w c with
  | none =>
    have no : O c = none := by
      cases z : O c with
      | none => rfl
      | some m =>
        have k := ro.own _ _ z
        rw [eφ] at h
        cases m with
        | lst _ => obtain ⟨_, e1, _⟩ := k; rw [h] at e1; cases e1
        | dic _ => obtain ⟨_, e1, _⟩ := k; rw [h] at e1; cases e1
        | dct _ => obtain ⟨_, e1, _⟩ := k; rw [h] at e1; cases e1
        | ins _ _ => obtain ⟨_, _, e1, _⟩ := k; rw [h] at e1; cases e1
        | lkd _ _ _ => obtain ⟨e1, _⟩ := k; rw [h] at e1; cases e1
        | lkt _ _ _ => obtain ⟨e1, _⟩ := k; rw [h] at e1; cases e1
    refine ⟨_, ext_put (c := .frz (LamX.CodeO c q)) e, ro.tell e no h (by rw [eφ]; exact fun _ z => by cases z), put_same, fun a u z => ?_⟩
    by_cases ha : a = c
    · subst ha; rw [put_same] at z; cases z
    · rwa [put_ne ha] at z
  | some x =>
    have k := ro.cell _ _ e
    have nx := ro.nx _ _ e
    refine ⟨w, Ext.refl _, ro, ?_, fun a u z => z⟩
    cases x with
    | frz u => have k : H c = some u := k; rw [h] at k; cases k; exact e
    | fix u => have k : H c = some u := k; rw [h] at k; cases k; exact absurd eφ (nx.1 φ)
    | own u => have k : H c = some u := k; rw [h] at k; cases k; exact absurd eφ (nx.1 φ)
    | tape => obtain ⟨_, e1, _⟩ := k; rw [h, eφ] at e1; cases e1
    | tab _ => obtain ⟨_, e1, _⟩ := k; rw [h, eφ] at e1; cases e1
section
variable {X : Cx} {P : PX}
theorem got_gives {Ng : List Str} {x a q : Str} {sg : Scope} {g : Addr} {cdg : Value} {bg : List Stmt} {W : WTh} {cl : Nat → Addr} (hr : RoomG 1 X.A) (hG : GotOk X cl Ng x sg g bg a W) (ha : Ng[0]? = some a) : LamX.GivesTo X Ng x sg g cdg bg a q (TTv cl Ng W) := by
  intro f c' s H Q tl act hc ⟨w00, O, T, Qd, ro0, nown, th, hW, po⟩
  obtain ⟨w0, x0, ro, hw, no0⟩ := code_told ro0 hc
  have act' : ∀ (R : RT) (Wx : WX) (pn : List (Addr × Obj)) (xe : Value → Shared → Prop) (p1 p2 : Pos), Takes ((gotX X Ng x sg g cdg s H).tr pn xe) Wx → DE ((gotX X Ng x sg g cdg s H).tr pn xe) ((PX.got cl w0 c' q).tr R Wx) (.Call (.Name a p1) [] [] p2) (wAct f T R Ng.length) := by
    intro R Wx pn xe p1 p2 tk
    refine ⟨fun σ H Q => ∃ E : XK, (∀ cls d σ' H', E cls d H' → (σ'.length = Ng.length → Wx cls d σ' H')) ∧ σ[0]? = some (some (.ref f)) ∧ H c' = some (LamX.CodeO c' q) ∧ tl E H Q,
      ⟨fun pins s σ H Q I ⟨E, hE, h⟩ => (act _ pn xe E p1 p2 (takes_len tk) hE).run pins s σ H Q I h⟩, fun w σ s H O Q R' rs ro w1 po1 => ?_⟩
    obtain ⟨y, e, rfl, w2⟩ := look_ex w1
    obtain ⟨v, h1, h2⟩ := rs.at' 0 _ e
    cases h2.bv.toD
    refine ⟨fun cls d H' => ∀ σ', σ'.length = Ng.length → Wx cls d σ' H', fun cls d σ' H' h hl => h σ' hl, h1, ro.frz rs.sx.2, th w H O Q _ R' _ (x0.s.trans rs.sx.1) ro w2 po1 ?_⟩
    intro w' H' O' k d fs xx r' xr hR σ' hl
    exact rs.px w' σ' (noS Ng.length) H' O' k d fs xx (by rw [← hl]; exact relS0_no) r' xr hR
  obtain ⟨t, ht, sim⟩ := (hG cdg f T s H w0 c' q (hr.deeper _) act').ex
  refine ⟨t, ht, sim w0 _ (sstart Ng [.d (.ref f)]) H O (retE Qd) _ ⟨RelS0.start (.cons (.d .ref) (fun _ z => by cases z) .nil), fun _ _ _ _ _ _ _ _ _ _ _ _ z => z.elim, ⟨ExtS.refl _, hw⟩, fun p hp => nomatch hp⟩ ro (hW f) ⟨?_, ?_, ?_, ?_⟩⟩
  · exact fun Z1 σ1 s1 H1 O1 m1 rs1 ro1 w1 => po _ _ _ _ _ (x0.s.trans m1) ro1 .non w1
  · exact po.mono x0.s
  · exact fun Z1 σ1 s1 H1 O1 m1 rs1 ro1 w1 => w1.elim
  · exact fun Z1 σ1 s1 H1 O1 m1 rs1 ro1 w1 => w1.elim
end

/-! ### the tables grow when a lambda is made -/
noncomputable section
open Classical
def withC (w : Wd) (H1 : Hp) : Wd := fun b => match w b with
  | some c => some c
  | none => if ∃ q, H1 b = some (LamX.CodeO b q) then (H1 b).map Cell.frz else none
theorem withC_old {w : Wd} {H1 : Hp} {b c} (e : w b = some c) : withC w H1 b = some c := by unfold withC; rw [e]
theorem withC_new {w : Wd} {H1 : Hp} {b q} (e : w b = none) (h : H1 b = some (LamX.CodeO b q)) : withC w H1 b = some (.frz (LamX.CodeO b q)) := by
  unfold withC
  rw [e]
  show (if _ then _ else _) = _
  rw [if_pos ⟨q, h⟩, h]
  rfl
theorem withC_inv {w : Wd} {H1 : Hp} {b c} (h : withC w H1 b = some c) : w b = some c ∨ (w b = none ∧ ∃ q, H1 b = some (LamX.CodeO b q) ∧ c = .frz (LamX.CodeO b q)) := by
  cases e : w b with
  | some x => rw [withC_old e] at h; exact .inl h
  | none =>
    by_cases hq : ∃ q, H1 b = some (LamX.CodeO b q)
    · obtain ⟨q, hq⟩ := hq
      rw [withC_new e hq] at h
      cases h
      exact .inr ⟨rfl, q, hq, rfl⟩
    · unfold withC at h
      rw [e] at h
      replace h : (if _ then _ else _) = _ := h
      rw [if_neg hq] at h
      cases h
end
theorem ext_withC {w : Wd} {H1 : Hp} : Ext w (withC w H1) := fun _ _ e => withC_old e
theorem MOk.notbl {w : Wd} {H : Hp} {a : Addr} : ∀ {m}, MOk w H a m → ∃ u, H a = some u ∧ PlainU u
  | .lst _, ⟨_, e, _⟩ => ⟨_, e, fun _ z => (by cases z), fun _ z => (by cases z), fun _ z => by cases z⟩
  | .dic _, ⟨_, e, _⟩ => ⟨_, e, fun _ z => (by cases z), fun _ z => (by cases z), fun _ z => by cases z⟩
  | .dct _, ⟨_, e, _⟩ => ⟨_, e, fun _ z => (by cases z), fun _ z => (by cases z), fun _ z => by cases z⟩
  | .ins _ _, ⟨_, _, e, _⟩ => ⟨_, e, fun _ z => (by cases z), fun _ z => (by cases z), fun _ z => by cases z⟩
  | .lkd _ _ _, ⟨e, _⟩ => ⟨_, e, fun _ z => (by cases z), fun _ z => (by cases z), fun _ z => by cases z⟩
  | .lkt _ _ _, ⟨e, _⟩ => ⟨_, e, fun _ z => (by cases z), fun _ z => (by cases z), fun _ z => by cases z⟩
theorem RelO.withC {w : Wd} {H H1 : Hp} {O : OO} {T : List (Addr × Str)} (ro : RelO w H O) (hT : ∀ a q, w a = some (.tab q) → (a, q) ∈ T) (x : LamX.ExtN H H1) (t : LamX.Tabs T H1) : RelO (withC w H1) H1 O := by
  have code : ∀ c q, H1 c = some (LamX.CodeO c q) → VD.withC w H1 c = some (.frz (LamX.CodeO c q)) := fun c q h => by
    cases e : w c with
    | none => exact withC_new e h
    | some y =>
      rw [withC_old e]
      have k := ro.cell _ _ e
      have nx := ro.nx _ _ e
      obtain ⟨φ, eφ⟩ := codeO_ext c q
      cases y with
      | frz u =>
        have k2 := x _ _ (show H c = some u from k) nx
        rw [h] at k2
        cases k2
        rfl
      | fix u =>
        have k2 := x _ _ (show H c = some u from k) nx.2.1
        rw [h] at k2
        cases k2
        exact absurd eφ (nx.1 φ)
      | own u =>
        have k2 := x _ _ (show H c = some u from k) nx.2.1
        rw [h] at k2
        cases k2
        exact absurd eφ (nx.1 φ)
      | tape =>
        obtain ⟨_, e1, _⟩ := k
        have k2 := x _ _ e1 (fun _ z => by cases z)
        rw [h, eφ] at k2
        cases k2
      | tab r =>
        obtain ⟨_, e1, _⟩ := t _ (hT c r e)
        rw [h, eφ] at e1
        cases e1
  refine ⟨fun a c e => ?_, fun a m e => ?_, fun a m e => ?_, ro.fin.sub fun a q e => ?_, fun a c e => ?_⟩
  · rcases withC_inv e with e | ⟨_, q, h, rfl⟩
    · have k := ro.cell _ _ e
      have nx := ro.nx _ _ e
      cases c with
      | frz u => exact x _ _ (show H a = some u from k) nx
      | fix u => exact x _ _ (show H a = some u from k) nx.2.1
      | own u => exact x _ _ (show H a = some u from k) nx.2.1
      | tape =>
        obtain ⟨vs, e1, tv⟩ := k
        exact ⟨vs, x _ _ e1 (fun _ z => by cases z), tv.mono ext_withC.l⟩
      | tab q =>
        obtain ⟨ps, e1, e2, e3⟩ := t _ (hT a q e)
        exact ⟨ps, e1, e2, fun pos cv hc => let ⟨c, h1, h2⟩ := e3 pos cv hc; ⟨c, h1, code c q h2⟩⟩
    · exact h
  · have k := ro.own _ _ e
    obtain ⟨u, e1, nt⟩ := k.notbl
    exact (k.at (by rw [x _ _ e1 nt.2.1, e1])).mono ext_withC.l
  · cases e2 : VD.withC w H1 a with
    | none => rfl
    | some c =>
      rcases withC_inv e2 with e3 | ⟨_, q, h, rfl⟩
      · rw [ro.off _ _ e] at e3; cases e3
      · obtain ⟨u, e1, nt⟩ := (ro.own _ _ e).notbl
        have k2 := x _ _ e1 nt.2.1
        rw [h] at k2
        cases k2
        obtain ⟨φ, eφ⟩ := codeO_ext a q
        exact absurd eφ (nt.1 φ)
  · rcases withC_inv e with e | ⟨_, q, h, z⟩
    · exact e
    · cases z
  · rcases withC_inv e with e | ⟨_, q, h, rfl⟩
    · exact ro.nx _ _ e
    · obtain ⟨φ, eφ⟩ := codeO_ext a q
      exact fun ps z => by rw [eφ] at z; cases z
theorem tabs_of {w : Wd} {H : Hp} {O : OO} (ro : RelO w H O) : ∃ T : List (Addr × Str), (∀ a q, w a = some (.tab q) ↔ (a, q) ∈ T) ∧ LamX.Tabs T H := by
  classical
  obtain ⟨T, hT⟩ := ro.fin
  refine ⟨T.filter fun p => decide (w p.1 = some (.tab p.2)), fun a q => ⟨fun e => List.mem_filter.mpr ⟨hT a q e, by simpa using e⟩, fun e => by simpa using (List.mem_filter.mp e).2⟩, fun p hp => ?_⟩
  have e : w p.1 = some (.tab p.2) := by simpa using (List.mem_filter.mp hp).2
  obtain ⟨ps, e1, e2, e3⟩ := ro.cell _ _ e
  exact ⟨ps, e1, e2, fun pos cv hc => let ⟨c, h1, h2⟩ := e3 pos cv hc; ⟨c, h1, ro.frz h2⟩⟩
/-! ### the lambda's run, where nothing is being shown -/
section
variable {X : Cx} {own : List (Addr × Obj)} {σ0 : L2.St} {H0 : Hp} {t0 : Shared}
/-- a(), the lambda at f in slot i of the def at g -/
theorem actG {Ng : List Str} {qg : Str} {sg : Scope} {g f cc : Addr} {cdg pm ctv : Value} {params : Arguments} {body : Expr} {scope : Scope} {k i : Nat} {a : Str} {pn : List (Addr × Obj)} {xe : Value → Shared → Prop} {Wz : WX} {Ez : XK} {tb : TE} {p1 p2 : Pos}
    (inv : Inv X own σ0 H0 t0) (L : LamX.LamS X.env.scope scope) (at_f : t0.heap.get? f = some (PySem.W.kla_obj "<lambda>" (X.env.qual ++ "<lambda>") params body scope (cloFrom X.env.cells scope.names []) pm cc ctv)) (free_f : H0 f = none) (nofr : f ∉ frs X.stack)
    (bind0 : bindArgs (PySem.W.kla_fn "<lambda>" (X.env.qual ++ "<lambda>") params body scope (cloFrom X.env.cells scope.names []) pm (.ref cc) ctv) ⟨[], []⟩ = pure [])
    (tk : Takes ((gotX X Ng qg sg g cdg t0 H0).tr pn xe) Wz) (out : ∀ cls d σ' H', Ez cls d H' → Wz cls d σ' H') (room : RoomG (k + 1) (X.A.deeper (envOfC qg sg t0.heap.objs.size g cdg)))
    (go : ∀ (A : Around) (below : List Env) (s : Shared) (H : Hp), RoomG k (A.deeper (LamX.lamEnv X scope s.heap.objs.size f cc)) → PE (LamX.lamCx X A below s H Ez scope f cc) body tb)
    (hN : Ng[i]? = some a) (hv : Vis sg a) (hd : (a == ("__debug__" : Str)) = false := by decide) (hcd : (a == ("__classdict__" : Str)) = false := by decide) :
    PE ((gotX X Ng qg sg g cdg t0 H0).tr pn xe) (.Call (.Name a p1) [] [] p2) (fun σ H Q => σ[i]? = some (some (.ref f)) ∧ H cc = some (LamX.CodeO cc (X.env.qual ++ "<lambda>")) ∧ tb σ0 H Q) := by
  constructor
  rintro ow s2 σ H Q J ⟨slot, code, wish⟩
  have nm := (pe_var (pos := p1) (i := i) hN hv hd hcd).run ow s2 σ H (fun v H1 => v = .ref f ∧ H1 = H) J ⟨.ref f, slot, rfl, rfl⟩
  refine wpAny_Call_Name_kw (thn nm ?_)
  rintro u s3 ⟨v3, H3, J3, rel, ev3, eH3⟩
  subst ev3
  rw [eH3] at J3
  cases (show u = Value.ref f from rel)
  have at3 := J3.base.keep f _ at_f free_f nofr (fun z => nomatch (show f ∈ ([] : List Addr) from z))
  obtain ⟨⟨oc, fs, tq, e1, e2, e3⟩, _, _⟩ := J3.hok cc _ code
  refine PySem.W.callWith_F0 ⟨_, _, _, _, at3⟩ ?_
  have ran : codeAny (model X.prog X.w) (X.A.deeper (envOfC qg sg t0.heap.objs.size g cdg)) (.call (.ref f) ⟨[], []⟩) (CR (L2.CX X.prog X.w) (envOfC qg sg t0.heap.objs.size g cdg :: X.stack) X.prog X.w H s3 Q Ez) s3 := by
    refine PySem.W.kla_callFunE room.room.depth at3 rfl L.co L.gen rfl ⟨cc, oc, fs, tq, rfl, e1, e2, e3⟩ ?_
    rw [bind0]
    refine wpAny_pure (wpAny_newFunctionEnv (fun y hy => (L.own y hy).2) (fun y hy => nomatch hy) (fun h4 ns4 sb4 => ⟨J3.nolimit.fresh _ sb4, PySem.W.kla_codeExpr ?_⟩) L.kind)
    have grown : ∀ b o, s3.heap.get? b = some o → h4.get? b = some o := fun b o e => sb4.extBut b o (Nat.ne_of_lt (Heap.lt_size e)) (Heap.get?_push_of_some _ e)
    have st := LamX.lam_start2 (E := Ez) (f := f) (c' := cc) (tk := s3.toks + ([] : List (Str × Value)).length) inv L J3.env0 room.room.hd J3.base ns4 grown
    refine wpAny_mono ((go _ _ s3 H (room.deeper _)).run [] _ _ H Q st wish) (fun v s5 got => ?_) fun _ _ z => z
    obtain ⟨x, H5, K, rx, q⟩ := got
    exact ⟨x, H5, K.os, K.bare, K.base, K.hok, rx, q⟩
  refine wpAny_call (codeAny_mono ran fun res s5 got => ?_)
  match res, got with
  | .error e, got => exact passes_call tk out ow σ H s3 e s5 J3 got
  | .ok (.ret u), got => exact J3.after got
end
section
variable {X : Cx} {P : PX}
/-- x(lambda: body) -/
theorem lamG {T : List (Addr × Str)} {TT : (XK → Hp → VK → Prop) → Hp → VK → Prop} {x a : Str} {g c Pt : Addr} {k : Nat} {st : Stmt} {fd : FuncData} {Ng : List Str} {params : Arguments} {body : Expr} {scope : Scope} {tr : XK → TE} {p lpos pos : Pos}
    (hg : Gl X x) (hm : X.mg x = some (.ref g)) (F : Fun X.K x x st g fd) (Sg : FnScope Ng [a] (defScope st)) (hb : Binds X.K fd [a] []) (hNg : Ng[0]? = some a) (hva : Vis (defScope st) a) (gives : ∀ cdg, LamX.GivesTo X Ng x (defScope st) g cdg (defBody st) a (X.env.qual ++ "<lambda>") TT)
    (TB : LamX.TabB X.base X.mg c Pt) (hcode : X.env.code = .ref c) (hmT : (Pt, X.env.qual ++ "<lambda>") ∈ T) (hu : ∀ p ∈ T, p.1 = Pt → p.2 = X.env.qual ++ "<lambda>") (room : RoomG (k + 2) X.A) (L : LamX.LamS X.env.scope scope) (hdef : defaultsOf params X.env = ([], []))
    (bind0 : ∀ (q : Str) (cl : List (Str × Addr)) (pm cv ctv : Value), bindArgs (PySem.W.kla_fn "<lambda>" q params body scope cl pm cv ctv) ⟨[], []⟩ = pure [])
    (go : ∀ (A : Around) (below : List Env) (s : Shared) (H : Hp) (E : XK) (f cc : Addr), RoomG k (A.deeper (LamX.lamEnv X scope s.heap.objs.size f cc)) → PE (LamX.lamCx X A below s H E scope f cc) body (tr E))
    (hdb : (x == ("__debug__" : Str)) = false := by decide) (hd : (a == ("__debug__" : Str)) = false := by decide) (hcd : (a == ("__classdict__" : Str)) = false := by decide) :
    PE X (.Call (.Name x p) [.Lambda params body scope lpos] [] pos) (LamX.tLam T TT tr) := by
  obtain ⟨oc, od, kV, doc, pm, an, cdv, ct, osl, rfl, lk, inK⟩ := F.ex
  constructor
  rintro ow s σ H Q J ⟨tabs, wish⟩
  refine wpAny_Call_Name_kw (ld_glob J hg hm (PySem.W.callWith_K (h₀ := X.base) J.ok.mod.kin F.kp ?_ (by rfl) (by rfl)) hdb)
  show wpAny _ _ (spliced ((false, eval (.Lambda params body scope lpos) X.env) :: backTo pos (starEach [] X.env))) _ _ s
  refine Calls.spliced_cons (LamX.lam_make2 J TB hcode hmT hu tabs hdef (L.has J.ok) fun f cc pm2 ctv H1 s1 J1 grown tabs1 at_f free_f nofr code => Calls.spliced_nil ⟨J1.kIn, ?_⟩)
  have ran : codeAny (model X.prog X.w) X.A (.call (.ref g) ⟨[.ref f], []⟩) (CR C8.CX0 X.stack X.prog X.w H1 s1 Q C8.E0) s1 :=
    LamX.run_ofS (N := Ng) (ps := [a]) (us := [.ref f]) (vs := [.ref f]) lk inK Sg room.room J1.env0 (hb s1 [.ref f] J1.kIn rfl) (.cons rfl .nil) rfl fun room2 => by
      obtain ⟨t2, ht, hq⟩ := gives cdv f cc s1 H1 Q (fun E H' Q' => tr E σ H' Q') (fun Wz pn xe Ez p1 p2 tk out => actG (i := 0) J1 L at_f free_f nofr (bind0 _ _ _ _ _) tk out ⟨room2, room.calm⟩ (fun A below s2 H2 r2 => go A below s2 H2 Ez f cc r2) hNg hva hd hcd) code (wish H1 grown tabs1)
      exact ⟨t2, ht.nox, hq⟩
  refine wpAny_call (codeAny_mono ran fun res s5 got => ?_)
  match res, got with
  | .error e, got => exact (show False from got).elim
  | .ok (.ret u), got => exact J1.after got
theorem de_lam {x a : Str} {g c Pt : Addr} {k : Nat} {st : Stmt} {fd : FuncData} {Ng : List Str} {W : WTh} {We : RT → WE} {params : Arguments} {body : Expr} {scope : Scope} {p lpos pos : Pos} (hg : Gl X x) (hm : X.mg x = some (.ref g)) (F : Fun X.K x x st g fd) (Sg : FnScope Ng [a] (defScope st)) (hb : Binds X.K fd [a] [])
    (hNg : Ng[0]? = some a) (hva : Vis (defScope st) a) (hG : GotOk X P.cl Ng x (defScope st) g (defBody st) a W)
    (TB : LamX.TabB X.base X.mg c Pt) (hcode : X.env.code = .ref c) (hT : (Pt, X.env.qual ++ "<lambda>") ∈ P.T) (hr : RoomG (k + 2) X.A) (L : LamX.LamS X.env.scope scope) (hdef : defaultsOf params X.env = ([], []))
    (hbind : ∀ (q : Str) (cl : List (Str × Addr)) (pm cv ctv : Value), bindArgs (PySem.W.kla_fn "<lambda>" q params body scope cl pm cv ctv) ⟨[], []⟩ = pure [])
    (hbody : ∀ (A : Around) (outer : List Env) (s : Shared) (H : Hp) (E : XK) (f c' : Addr) (R : RT), RoomG k (A.deeper (LamX.lamEnv X scope s.heap.objs.size f c')) → DE (LamX.lamCx X A outer s H E scope f c') (P.lam R fun cls d _ H => E cls d H) body (We R))
    (hdb : (x == ("__debug__" : Str)) = false := by decide) (hd : (a == ("__debug__" : Str)) = false := by decide) (hcd : (a == ("__classdict__" : Str)) = false := by decide) :
    DE X P (.Call (.Name x p) [.Lambda params body scope lpos] [] pos) (wLam W Ng We) := by
  refine ⟨fun σ H Q => ∃ T, (Pt, X.env.qual ++ "<lambda>") ∈ T ∧ (∀ p ∈ T, p.1 = Pt → p.2 = X.env.qual ++ "<lambda>") ∧ LamX.tLam T (TTv P.cl Ng W) (fun E σ H Q => ∃ R, canE (P.lam R fun cls d _ H => E cls d H) (We R) σ H Q) σ H Q,
    ⟨fun pins s σ H Q I ⟨T, h1, h2, h⟩ => (lamG (tr := fun E σ H Q => ∃ R, canE (P.lam R fun cls d _ H => E cls d H) (We R) σ H Q) hg hm F Sg hb hNg hva (fun _ => got_gives (hr.mono (by omega)) hG hNg) TB hcode h1 h2 hr L hdef hbind
      (fun A outer s H E f c' hA => ⟨fun pins s' σ H' Q I ⟨R, h⟩ => (hbody A outer s H E f c' R hA).can.run pins s' σ H' Q I h⟩) hdb hd hcd).run pins s σ H Q I h⟩, fun w σ s H O Q R rs ro q po => ?_⟩
  obtain ⟨T, hT2, ht⟩ := tabs_of ro
  refine ⟨T, (hT2 _ _).mp (rs.tx _ hT), fun p hp e => ?_, ht, fun H1 x1 t1 => ?_⟩
  · have e1 := (hT2 p.1 p.2).mpr hp
    rw [e, rs.tx _ hT] at e1
    injection e1 with e1
    injection e1 with e1
    exact e1.symm
  · have r1 := ro.withC (fun a q e => (hT2 a q).mp e) x1 t1
    have xw := ext_withC (w := w) (H1 := H1)
    refine ⟨(withC w H1).down, O, thL We s, fun d O' => Q (.d d) O', r1.down, fun a u e => ?_, ?_, q, fun v H' w' d O' x2 r2 e2 q2 => back (po.mono xw) x2 r2 e2 q2⟩
    · have e' : dwn (withC w H1 a) = some (.own u) := e
      cases z : withC w H1 a with
      | none => rw [z] at e'; cases e'
      | some c => rw [z] at e'; cases c <;> cases e'
    · intro w' H' O' Q' R' QV E x2 r2 th po2 px2
      refine ⟨fun k fs _ O'' => R' k fs O'', w', lendS s, O', Q', ⟨(rs.mono xw).toRelS0.lend x2, fun w3 σ3 s3 H3 O3 k d fs x3 r03 r3 xr hR => px2 _ _ _ _ _ _ x3 r3 xr hR, True.intro, fun p hp => ?_⟩, r2, th, po2⟩
      exact x2 _ _ (tabs_down (rs.mono xw).tx p hp) (fun _ z => by cases z)
end
end VD

set_option Elab.async false
set_option linter.all false
set_option maxRecDepth 100000
set_option maxHeartbeats 1000000
/-! VD: the tape of the draws -/
namespace VD
open PySem PySem.Spec PyProof.Rows L2

def tapeD (cells : List Int) (i g s n : Int) : List D := [.lst (cells.map D.int), .int i, .int g, .int s, .int n]
structure TapeOk (cells : List Int) (i g : Int) : Prop where
  c : ∀ x ∈ cells, 0 ≤ x
  i : 0 ≤ i
  g : 0 ≤ g
/-- a draw: any number below m -/
def spDraw : SpD := fun xs O Q _ => ∃ m : Int, xs = [.d .tape, .d (.int m)] ∧ 0 < m ∧ m < 1073741824 ∧ ∀ k : Int, 0 ≤ k → k < m → Q (.int k) O
/-- the world of a draw: all but the tape at a is kept -/
def drawW (w : Wd) (H : Hp) (O : OO) (a : Addr) : Wd := fun b => if b = a then none else match w b with
  | some (.own u) => some (.fix u)
  | some x => some x
  | none => match O b with
    | some _ => (H b).map Cell.fix
    | none => none
theorem drawW_a {w : Wd} {H : Hp} {O : OO} {a : Addr} : drawW w H O a a = none := by unfold drawW; rw [if_pos rfl]
theorem drawW_old {w : Wd} {H : Hp} {O : OO} {a b : Addr} {x : Cell} (h : b ≠ a) (e : w b = some x) (n : ∀ u, x ≠ .own u) : drawW w H O a b = some x := by
  unfold drawW
  rw [if_neg h, e]
  cases x with
  | own u => exact absurd rfl (n u)
  | _ => rfl
theorem drawW_live {w : Wd} {H : Hp} {O : OO} {a b : Addr} {m : MO} {u : HO} (h : b ≠ a) (e : w b = none) (eo : O b = some m) (eu : H b = some u) : drawW w H O a b = some (.fix u) := by
  unfold drawW
  rw [if_neg h, e]
  show (match O b with | some _ => _ | none => _) = _
  rw [eo, eu]
  rfl
theorem drawW_inv {w : Wd} {H : Hp} {O : OO} {a b : Addr} {c : Cell} (h : drawW w H O a b = some c) : b ≠ a ∧ ((w b = some c ∧ ∀ u, c ≠ .own u) ∨ (∃ u, w b = some (.own u) ∧ c = .fix u) ∨ (w b = none ∧ ∃ m u, O b = some m ∧ H b = some u ∧ c = .fix u)) := by
  unfold drawW at h
  by_cases ha : b = a
  · rw [if_pos ha] at h; cases h
  · rw [if_neg ha] at h
    refine ⟨ha, ?_⟩
    cases e : w b with
    | some x =>
      rw [e] at h
      cases x with
      | own u => cases h; exact .inr (.inl ⟨u, rfl, rfl⟩)
      | frz u => cases h; exact .inl ⟨rfl, fun _ z => by cases z⟩
      | fix u => cases h; exact .inl ⟨rfl, fun _ z => by cases z⟩
      | tape => cases h; exact .inl ⟨rfl, fun _ z => by cases z⟩
      | tab q => cases h; exact .inl ⟨rfl, fun _ z => by cases z⟩
    | none =>
      rw [e] at h
      cases eo : O b with
      | none => rw [eo] at h; cases h
      | some m =>
        rw [eo] at h
        cases eu : H b with
        | none => rw [eu] at h; cases h
        | some u => rw [eu] at h; cases h; exact .inr (.inr ⟨rfl, m, u, rfl, rfl, rfl⟩)
def oneO (a : Addr) (m : MO) : OO := fun b => if b = a then some m else none
theorem oneO_same {a m} : oneO a m a = some m := if_pos rfl
theorem RelO.draw {w : Wd} {H : Hp} {O : OO} {a : Addr} (ro : RelO w H O) (e : w a = some .tape) : ∃ cells i g s n, TapeOk cells i g ∧ RelO (drawW w H O a) H (oneO a (.lst (tapeD cells i g s n))) := by
  obtain ⟨vs, hv, c, cells, i, g, s, n, rfl, hz, h1, h2, h3⟩ := ro.cell _ _ e
  have hca : c ≠ a := fun z => by subst z; rw [e] at hz; cases hz
  have fz : ∀ {b u}, w b = some (.frz u) → drawW w H O a b = some (.frz u) := fun {b u} eb => drawW_old (fun z => by subst z; rw [e] at eb; cases eb) eb (fun _ z => by cases z)
  refine ⟨cells, i, g, s, n, ⟨h1, h2, h3⟩, ⟨fun b x eb => ?_, fun b m eb => ?_, fun b m eb => ?_, ro.fin.sub fun b q eb => ?_, fun b x eb => ?_⟩⟩
  · obtain ⟨hb, h⟩ := drawW_inv eb
    rcases h with ⟨h, nown⟩ | ⟨u, h, rfl⟩ | ⟨_, m, u, _, hu, rfl⟩
    · have k := ro.cell _ _ h
      cases x with
      | own u => exact absurd rfl (nown u)
      | frz u => exact k
      | fix u => exact k
      | tape => obtain ⟨vs, k1, c2, cells2, i2, g2, s2, n2, k2, k3, k4⟩ := k; exact ⟨vs, k1, c2, cells2, i2, g2, s2, n2, k2, fz k3, k4⟩
      | tab q => obtain ⟨ps, k1, k2, k3⟩ := k; exact ⟨ps, k1, k2, fun pos cv hc => let ⟨c, j1, j2⟩ := k3 pos cv hc; ⟨c, j1, fz j2⟩⟩
    · exact ro.cell _ _ h
    · exact hu
  · unfold oneO at eb
    split at eb
    · rename_i hb
      cases eb
      subst hb
      exact ⟨_, hv, .cons (.lst (fz hz) (Reps.of_ints _)) (.cons .int (.cons .int (.cons .int (.cons .int .nil))))⟩
    · cases eb
  · unfold oneO at eb
    split at eb
    · rename_i hb
      subst hb
      exact drawW_a
    · cases eb
  · obtain ⟨hb, h⟩ := drawW_inv eb
    rcases h with ⟨h, _⟩ | ⟨u, h, z⟩ | ⟨_, m, u, _, hu, z⟩
    · exact h
    · cases z
    · cases z
  · obtain ⟨hb, h⟩ := drawW_inv eb
    rcases h with ⟨h, _⟩ | ⟨u, h, rfl⟩ | ⟨_, m, u, ho, hu, rfl⟩
    · exact ro.nx _ _ h
    · exact (show NoX (.own u) from ro.nx _ _ h)
    · obtain ⟨u', h1, h2⟩ := (ro.own _ _ ho).notbl
      rw [hu] at h1
      cases h1
      exact h2
/-- .. and back -/
def backW (w : Wd) (O : OO) (a : Addr) : Wd := fun b => if b = a then some .tape else match O b with
  | some _ => none
  | none => w b
theorem backW_a {w : Wd} {O : OO} {a : Addr} : backW w O a a = some .tape := by unfold backW; rw [if_pos rfl]
theorem backW_o {w : Wd} {O : OO} {a b : Addr} {m} (h : b ≠ a) (e : O b = some m) : backW w O a b = none := by unfold backW; rw [if_neg h, e]
theorem backW_n {w : Wd} {O : OO} {a b : Addr} (h : b ≠ a) (e : O b = none) : backW w O a b = w b := by unfold backW; rw [if_neg h, e]
theorem RelO.undraw {w w' : Wd} {H H' : Hp} {O O' : OO} {a : Addr} {cells i g s n} (ro : RelO w H O) (e : w a = some .tape) (x : ExtS (drawW w H O a) w') (r : RelO w' H' O') (eo : O' a = some (.lst (tapeD cells i g s n))) (ok : TapeOk cells i g) :
    ExtS w (backW w' O a) ∧ RelO (backW w' O a) H' O := by
  have oa : O a = none := noO ro e
  have live : ∀ {b m}, O b = some m → b ≠ a ∧ ∃ u, H b = some u ∧ w' b = some (.fix u) ∧ PlainU u := fun {b m} ho => by
    have hb : b ≠ a := fun z => by subst z; rw [oa] at ho; cases ho
    obtain ⟨u, h1, h2⟩ := (ro.own _ _ ho).notbl
    exact ⟨hb, u, h1, x _ _ (drawW_live hb (ro.off _ _ ho) ho h1) (fun _ z => by cases z), h2⟩
  have xs : ExtS w (backW w' O a) := fun b y eb nown => by
    by_cases hb : b = a
    · subst hb; rw [e] at eb; cases eb; exact backW_a
    · have ob := noO ro eb
      rw [backW_n hb ob]
      exact x _ _ (drawW_old hb eb nown) nown
  have fz : ∀ {b u}, w' b = some (.frz u) → backW w' O a b = some (.frz u) := fun {b u} eb => by
    have hb : b ≠ a := fun z => by subst z; rw [r.off _ _ eo] at eb; cases eb
    have ob : O b = none := by
      cases z : O b with
      | none => rfl
      | some m => obtain ⟨_, u', _, h2, _⟩ := live z; rw [eb] at h2; cases h2
    rw [backW_n hb ob]; exact eb
  have cases_ : ∀ {b c}, backW w' O a b = some c → (b = a ∧ c = .tape) ∨ (b ≠ a ∧ O b = none ∧ w' b = some c) := fun {b c} eb => by
    by_cases hb : b = a
    · subst hb; rw [backW_a] at eb; cases eb; exact .inl ⟨rfl, rfl⟩
    · cases z : O b with
      | some m => rw [backW_o hb z] at eb; cases eb
      | none => rw [backW_n hb z] at eb; exact .inr ⟨hb, rfl, eb⟩
  refine ⟨xs, ⟨fun b c eb => ?_, fun b m eb => ?_, fun b m eb => ?_, r.fin.sub fun b q eb => ?_, fun b c eb => ?_⟩⟩
  · rcases cases_ eb with ⟨rfl, rfl⟩ | ⟨hb, ob, h⟩
    · obtain ⟨vs, hv, rr⟩ := r.own _ _ eo
      cases rr with
      | cons a1 rr => cases rr with
        | cons a2 rr => cases rr with
          | cons a3 rr => cases rr with
            | cons a4 rr => cases rr with
              | cons a5 rr =>
                cases rr; cases a2; cases a3; cases a4; cases a5
                cases a1 with
                | lst hz rz => exact ⟨_, hv, _, cells, i, g, s, n, rfl, by rw [fz hz, rz.ints], ok.c, ok.i, ok.g⟩
    · have k := r.cell _ _ h
      cases c with
      | own u => exact k
      | frz u => exact k
      | fix u => exact k
      | tape => obtain ⟨vs, k1, c2, cells2, i2, g2, s2, n2, k2, k3, k4⟩ := k; exact ⟨vs, k1, c2, cells2, i2, g2, s2, n2, k2, fz k3, k4⟩
      | tab q => obtain ⟨ps, k1, k2, k3⟩ := k; exact ⟨ps, k1, k2, fun pos cv hc => let ⟨c, j1, j2⟩ := k3 pos cv hc; ⟨c, j1, fz j2⟩⟩
  · obtain ⟨hb, u, h1, h2, _⟩ := live eb
    exact ((ro.own _ _ eb).at (by rw [h1]; exact r.cell _ _ h2)).mono xs.l
  · obtain ⟨hb, _⟩ := live eb
    exact backW_o hb eb
  · rcases cases_ eb with ⟨rfl, z⟩ | ⟨hb, ob, h⟩
    · cases z
    · exact h
  · rcases cases_ eb with ⟨rfl, rfl⟩ | ⟨hb, ob, h⟩
    · exact True.intro
    · exact r.nx _ _ h
/-- the promise of the draws, from that of the code -/
theorem fn_draw {Pg : Program} {Wo : World} {K : PySem.W.Frag} {mg : Str → Option Value} {base : Heap} {cl : Nat → Addr} {T : List (Addr × Str)} {f : Addr} {fd : FuncData} {ps : List Str} {k : Nat} {S : SpD} (F : DFn Pg Wo K mg base cl T k f fd ps S)
    (h : ∀ (a : Addr) (m : Int) cells i g s n (O : OO) (Q : D → OO → Prop), TapeOk cells i g → 0 < m → m < 1073741824 → O a = some (.lst (tapeD cells i g s n)) → (∀ k cells' i' g' s' n', 0 ≤ k → k < m → TapeOk cells' i' g' → Q (.int k) (updO O a (.lst (tapeD cells' i' g' s' n')))) → S [.d (.ref a), .d (.int m)] O Q rNo) :
    DFn Pg Wo K mg base cl T k f fd ps spDraw := by
  have key : ∀ vs H Qv E, Lift cl T spDraw vs H Qv E → Lift cl T S vs H Qv E := fun vs H Qv E ⟨w, O, xs, Q, R, ro, tx, rs, ⟨m, hx, hm, hm2, hQ⟩, po, px⟩ => by
    subst hx
    cases rs with
    | cons r1 _ rs => cases rs with
      | cons r2 _ rs =>
        cases rs
        cases r1 with
        | d r1 => cases r1 with
          | @tape a e => cases r2 with
            | d r2 =>
              cases r2
              obtain ⟨cells, i, g, s, n, ok, r⟩ := ro.draw e
              refine ⟨drawW w H O a, _, [.d (.ref a), .d (.int m)], fun d O' => ∃ k cells' i' g' s' n', d = .int k ∧ 0 ≤ k ∧ k < m ∧ TapeOk cells' i' g' ∧ O' a = some (.lst (tapeD cells' i' g' s' n')), rNo, r, fun p hp => ?_, .cons (.d .ref) (fun _ z => by cases z) (.cons (.d .int) (fun _ z => by cases z) .nil),
                h a m cells i g s n _ _ ok hm hm2 oneO_same (fun k c' i' g' s' n' h1 h2 h3 => ⟨k, c', i', g', s', n', rfl, h1, h2, h3, updO_same⟩), fun v H' w' d O' x r' rd q => ?_, postX_no⟩
              · have e2 := tx p hp
                exact drawW_old (fun z => by rw [z, e] at e2; cases e2) e2 (fun _ z => by cases z)
              · obtain ⟨k, c', i', g', s', n', rfl, h1, h2, h3, eo⟩ := q
                obtain ⟨xb, rb⟩ := ro.undraw e x r' eo h3
                cases rd
                exact po _ _ _ _ _ xb rb .int (hQ k h1 h2)
  exact ⟨fun vs H Q E l => F.many vs H Q E (key _ _ _ _ l), fun A below s H args us vs Q E r e0 bt rv l => F.go A below s H args us vs Q E r e0 bt rv (key _ _ _ _ l)⟩
/-- the name in slot i bears the tape from here on -/
def wTape (i : Nat) (W : WS) : WS := fun D s O => look s i fun x => ∃ a cells j g sd n, x = .d (.ref a) ∧ O a = some (.lst (tapeD cells j g sd n)) ∧ TapeOk cells j g ∧ W D (s.set i (some (.d .tape))) (remO O a)
theorem dss_tape (i : Nat) {X : Cx} {P : PX} {ss : List Stmt} {W : WS} (h : DSs X P ss W) : DSs X P ss (wTape i W) := by
  obtain ⟨t, q, h⟩ := h.ex
  refine ⟨t, q, fun w σ s H O D E rs ro k po => ?_⟩
  obtain ⟨x, e, a, cells, j, g, sd, n, rfl, eo, ok, k⟩ := look_ex k
  obtain ⟨vs, hv, rr⟩ := ro.own _ _ eo
  have wa := ro.off _ _ eo
  have tv : TapeV w vs := by
    cases rr with
    | cons a1 rr => cases rr with
      | cons a2 rr => cases rr with
        | cons a3 rr => cases rr with
          | cons a4 rr => cases rr with
            | cons a5 rr =>
              cases rr; cases a2; cases a3; cases a4; cases a5
              cases a1 with
              | lst hz rz => exact ⟨_, cells, j, g, sd, n, rfl, by rw [hz, rz.ints], ok.c, ok.i, ok.g⟩
  have x1 := ext_put (c := .tape) wa
  have r1 : RelO (w.put a .tape) H (remO O a) := (ro.rem a).tell wa remO_same ⟨vs, hv, tv.mono x1.l⟩
  obtain ⟨v, h1, h2⟩ := rs.at' i _ e
  cases h2 with
  | d h2 =>
    cases h2
    have rs2 := (rs.mono x1).set i (v := .ref a) (.tape put_same)
    have es : σ.set i (some (.ref a)) = σ := by
      apply List.ext_getElem? 
      intro j
      rw [List.getElem?_set]
      split
      · rename_i hj
        subst hj
        split
        · exact h1.symm
        · rename_i hl; rw [List.getElem?_eq_none (by omega)]
      · rfl
    rw [es] at rs2
    exact h _ _ _ _ _ _ _ rs2 r1 k (po.mono x1.s)
end VD

set_option Elab.async false
set_option linter.all false
set_option maxRecDepth 100000
set_option maxHeartbeats 1000000
/-! VD: the law's end -/
namespace VD
open PySem PySem.Spec PyProof.Rows L2

/-- what the def that lays the tape promises -/
def spTape (K : PySem.W.Frag) : Sp := fun vs H Q _ => ∃ (a : Addr) (ns : List Int), vs = [.ref a] ∧ SqL K H a (ns.map V.int) ∧ ns.length ≤ 63 ∧
  ∀ (H' : Hp) (tp cp : Addr) (cells : List Int) (s : Int), (∀ b u, H b = some u → H' b = some u) → H tp = none → H cp = none → (∀ x ∈ cells, 0 ≤ x) → cp ≠ tp → H' cp = some (.lst (cells.map V.int)) → H' tp = some (.lst [.ref cp, .int 0, .int 0, .int s, .int 0]) → Q (.ref tp) H'
/-- the law's promise -/
def spLaw (K : PySem.W.Frag) (T : List (Addr × Str)) : Sp := fun vs H Q _ => ∃ (a : Addr) (ns : List Int), vs = [.ref a] ∧ SqL K H a (ns.map V.int) ∧ ns.length ≤ 63 ∧ (∀ p ∈ T, H p.1 = some (.tbl #[])) ∧ (∀ p ∈ T, ∀ q ∈ T, p.1 = q.1 → p.2 = q.2) ∧ ∀ H', Q (.bl true) H'
def tHand (K : PySem.W.Frag) (i : Nat) : TS := fun D σ H => ∃ (a : Addr) (ns : List Int), σ[0]? = some (some (.ref a)) ∧ SqL K H a (ns.map V.int) ∧ ns.length ≤ 63 ∧
  ∀ (H' : Hp) (tp cp : Addr) (cells : List Int) (s : Int), (∀ b u, H b = some u → H' b = some u) → H tp = none → H cp = none → (∀ x ∈ cells, 0 ≤ x) → cp ≠ tp → H' cp = some (.lst (cells.map V.int)) → H' tp = some (.lst [.ref cp, .int 0, .int 0, .int s, .int 0]) → D.nx (σ.set i (some (.ref tp))) H'
section
variable {X : Cx}
theorem ps_hand {x f sc : Str} {fa : Addr} {fd : FuncData} {ps : List Str} {k : Nat} {p1 p2 p3 pos spos : Pos} (i : Nat) (hN : X.N.Nodup) (hi : X.N[i]? = some x) (h0 : X.N[0]? = some sc) (hx : Loc X.env.scope x) (hv : Vis X.env.scope sc) (F : FnG X.prog X.w X.K X.mg X.base (L2.CX X.prog X.w) k fa fd ps (spTape X.K)) (hr : RoomG k X.A)
    (hg : Gl X f) (hm : X.mg f = some (.ref fa)) (hk : PySem.W.keepIn X.K (.ref fa) = true) (hb : Binds X.K fd ps []) (hf : X.fn x = true ∨ X.env.scope.names.lookup x = some .local) (hdb : (f == ("__debug__" : Str)) = false := by decide) (hd : (sc == ("__debug__" : Str)) = false := by decide) (hcd : (sc == ("__classdict__" : Str)) = false := by decide)
    (he : starEach [.Name sc p3] X.env = (false, eval (.Name sc p3) X.env) :: starEach [] X.env := by rfl) (hs : swapsWith (.Call (.Name f p2) [.Name sc p3] [] pos) (some (.Name x p1)) spos.line X.env = pure false := by rfl) :
    PS X (.Assign [.Name x p1] (.Call (.Name f p2) [.Name sc p3] [] pos) spos) (tHand X.K i) := by
  have q := ps_set (pos := spos) (pos' := p1) hN hi hx (callG (p := p2) (pos := pos) F hr hg hm hk hb passNo (pa_cons (pe_var (i := 0) (pos := p3) h0 hv hd hcd) pa_nil he) hdb he (by rfl)) hs hf
  exact ⟨fun pins s σ H D I ⟨a, ns, h1, h2, h3, h4⟩ => q.run pins s σ H D I ⟨.ref a, h1, a, ns, rfl, h2, h3, h4⟩⟩
end
/-- the world at the law's start: the tables, the tape and its cells -/
def startW (T : List (Addr × Str)) : Wd := fun b => match T.find? fun p => p.1 == b with | some p => some (.tab p.2) | none => none
theorem startW_some {T : List (Addr × Str)} {b c} (h : startW T b = some c) : ∃ p ∈ T, p.1 = b ∧ c = .tab p.2 := by
  unfold startW at h
  split at h
  · rename_i p e
    cases h
    exact ⟨p, List.mem_of_find?_eq_some e, by simpa using List.find?_some e, rfl⟩
  · cases h
theorem startW_mem {T : List (Addr × Str)} (u : ∀ p ∈ T, ∀ q ∈ T, p.1 = q.1 → p.2 = q.2) {p} (h : p ∈ T) : startW T p.1 = some (.tab p.2) := by
  unfold startW
  cases e : T.find? fun q => q.1 == p.1 with
  | none =>
    have := List.find?_eq_none.mp e p h
    simp at this
  | some q =>
    have h1 := List.mem_of_find?_eq_some e
    have h2 : q.1 = p.1 := by simpa using List.find?_some e
    show some (Cell.tab q.2) = _
    rw [u q h1 p h h2]
theorem relO_start {T : List (Addr × Str)} {H : Hp} (h : ∀ p ∈ T, H p.1 = some (.tbl #[])) : RelO (startW T) H (fun _ => none) := by
  refine ⟨fun a c e => ?_, (fun a m e => nomatch e), (fun a m e => nomatch e), ⟨T, fun a q e => ?_⟩, fun a c e => ?_⟩
  · obtain ⟨p, hp, rfl, rfl⟩ := startW_some e
    exact ⟨#[], h p hp, True.intro, fun pos cv hc => by
      have z : codeAmong pos [] = some cv := hc
      simp [codeAmong] at z⟩
  · obtain ⟨p, hp, rfl, z⟩ := startW_some e
    cases z
    exact hp
  · obtain ⟨p, hp, rfl, rfl⟩ := startW_some e
    exact True.intro
/-- law(script): the tape is laid, then the rest -/
theorem law_ok {Pg : Program} {Wo : World} {K : PySem.W.Frag} {mg : Str → Option Value} {base : Heap} {cl : Nat → Addr} {T : List (Addr × Str)} {x qual sc : Str} {st st0 : Stmt} {rest : List Stmt} {f : Addr} {fd : FuncData} {N : List Str} {k i : Nat} {W : WS} (F : Fun K x qual st f fd) (Sc : FnScope N [sc] (defScope st)) (hb : defBody st = st0 :: rest)
    (h0 : ∀ (cdv : Value) (A : Around) (outer : List Env) (s : Shared) (H : Hp) (E : XK), RoomG k (A.deeper (envOfC qual (defScope st) s.heap.objs.size f cdv)) → PS (cxOf (L2.CX Pg Wo) Pg Wo K mg base N qual (defScope st) f cdv A outer s H E) st0 (tHand K i))
    (hr : ∀ (cdv : Value) (A : Around) (outer : List Env) (s : Shared) (H : Hp) (E : XK), fd.code = cdv → RoomG k (A.deeper (envOfC qual (defScope st) s.heap.objs.size f cdv)) → DSs (cxOf (L2.CX Pg Wo) Pg Wo K mg base N qual (defScope st) f cdv A outer s H E) (pDef cl T rNo E) rest W)
    (hlen : 0 < N.length) (run : W (retE fun d _ => d = .bl true) ((noS N.length).set i (some (.d .tape))) (fun _ => none)) : FnG Pg Wo K mg base (L2.CX Pg Wo) (k + 1) f fd [sc] (spLaw K T) := by
  refine fnG_of F Sc (fun vs H R E ⟨a, ns, h, _⟩ => by rw [h]; rfl) fun cdv A outer s H vs Q E hcd room ⟨a, ns, hv, hS, hl, hT, hu, hQ⟩ => ?_
  subst hv
  obtain ⟨t, p, go⟩ := (hr cdv A outer s H E hcd room).ex
  rw [hb]
  refine ⟨_, pss_cons (h0 cdv A outer s H E room) p, a, ns, ?_, hS, hl, fun H' tp cp cells z same n1 n2 pos ne hc ht => ?_⟩
  · unfold L2.start
    rfl
  · have r0 := relO_start hT
    have r1 : RelO (startW T) H' (fun _ => none) := r0.grow same
    have w1 := r0.freeW n1
    have w2 := r0.freeW n2
    have x1 := ext_put (c := .frz (.lst (cells.map V.int))) w2
    have r2 := r1.tell (c := .frz (.lst (cells.map V.int))) w2 rfl hc
    have w3 : (startW T).put cp (.frz (.lst (cells.map V.int))) tp = none := by rw [put_ne (Ne.symm ne)]; exact w1
    have x2 := ext_put (c := .tape) w3
    have r3 := r2.tell (c := .tape) w3 rfl ⟨_, ht, cp, cells, 0, 0, z, 0, rfl, by rw [put_ne ne, put_same], pos, by decide, by decide⟩
    have base : RelS (pDef cl T rNo E) ((startW T).put cp (.frz (.lst (cells.map V.int)))|>.put tp .tape) (L2.start N [V.ref a]) (noS (L2.start N [V.ref a]).length) := ⟨relS0_no, fun _ _ _ _ _ _ _ _ _ _ _ _ z => z.elim, True.intro, fun p hp => x2 _ _ (x1 _ _ (startW_mem hu hp))⟩
    have len : (L2.start N [V.ref a]).length = N.length := by simp [L2.start]; omega
    rw [len] at base
    refine go _ _ _ _ _ (retE fun d _ => d = .bl true) _ (base.set i (x := .tape) (.tape put_same)) r3 run ⟨?_, ?_, ?_, ?_⟩
    · exact fun Z1 σ1 s1 H1 O1 m1 rs1 ro1 q => by cases q
    · exact fun v1 H1 Z1 d1 O1 m1 ro1 r1 q => by subst q; cases r1; exact hQ _
    · exact fun Z1 σ1 s1 H1 O1 m1 rs1 ro1 q => q.elim
    · exact fun Z1 σ1 s1 H1 O1 m1 rs1 ro1 q => q.elim

/-! ### the law called -/
theorem passNo_end {P : Program} {w : World} {outer : List Env} {H : Hp} {s : Shared} {e : Value} {s' : Shared} (h : L2.CX P w outer H s (fun _ _ _ => False) e s') : False := by
  obtain ⟨_, _, _, _, _, _, _, _, _, _, _, _, z⟩ := h
  exact z.elim
/-- at most the script and the tables are told of at the start -/
def Few (H : Hp) (tabs : List Addr) : Prop := ∀ b, H b = none ∨ b ∈ tabs ∨ ∃ o xs, H b = some (.frz o (.lst xs))
theorem law_goes {P : Program} {w : World} {K : PySem.W.Frag} {mg mb : Str → Option Value} {k : Nat} {fa a : Addr} {cs : List (Addr × Addr)} {fd : FuncData} {x : Str} {sp : Sp} {s₁ : Shared} {vs : List Value} {ns : List Int}
    (KX : K.In s₁.heap) (hns : s₁.heap.Ns mainGlobals mg) (hb : s₁.heap.Ns builtinsNs mb) (hbb : ∀ x : Str, x ≠ "__name__" → mb x = bootBuiltins x) (hlim : s₁.heap.NoLimit) (hg : s₁.gens = #[])
    (tabs : ∀ p ∈ cs, s₁.heap.get? p.2 = some { cls := .none, data := .fields #[] }) (notK : ∀ p ∈ cs, K.lookup p.2 = none) (codes : ∀ p ∈ cs, PySem.W.CodeHd s₁.heap p.1 p.2)
    (bm0 : ∃ (bm : Addr) (ob : Obj), mg "__builtins__" = some (.ref bm) ∧ bm ≠ builtinsNs ∧ s₁.heap.get? bm = some ob ∧ ob.cls = .type "module" ∧ ob.dict = some builtinsNs ∧ ob.data = .plain)
    (ha : s₁.heap.get? a = some { cls := .type "list", data := .seq vs.toArray }) (hi : IntsAre vs ns) (hl : ns.length ≤ sizeLine) (hr : RoomG k callerA)
    (F : ∀ base : Heap, K.In base → base.Ns mainGlobals mg → (∀ p ∈ cs, LamX.TabB base mg p.1 p.2) → FnG P w K mg base (L2.CX P w) k fa fd [x] sp) (hbind : ∀ (s : Shared) (u : Value), BindsTo s fd ⟨[u], []⟩ [(x, u)])
    (hsp : ∀ H : Hp, (∀ p ∈ cs, H p.2 = some (.tbl #[])) → SqL K H a (ns.map V.int) → sp [.ref a] H (fun v _ => v = .bl true) fun _ _ _ => False) :
    codeAny (model P w) callerA (.call (.ref fa) ⟨[.ref a], []⟩) (fun r s' => r = .ok (.ret (.bool true)) ∧ OldK s₁.heap s'.heap ∧ s'.os = s₁.os ∧ AllBare s'.gens) s₁ := by
  have rv := vals_ints hi
  have lenV := hi.length
  let tb := cs.map (·.2)
  have isT : ∀ b : Addr, b ∈ tb → s₁.heap.get? b = some { cls := .none, data := .fields #[] } := fun b hm => by
    obtain ⟨p, hp, rfl⟩ := List.mem_map.mp hm
    exact tabs p hp
  have inT : ∀ p ∈ cs, p.2 ∈ tb := fun p hp => List.mem_map.mpr ⟨p, hp, rfl⟩
  have aT : a ∉ tb := fun z => by
    have q := isT a z
    rw [ha] at q
    injection q with q
    injection q with _ _ q
    cases q
  have core : ∀ H : Hp, (∀ p ∈ cs, H p.2 = some (.tbl #[])) → Few H tb → SqL K H a (ns.map V.int) → HOk P w H s₁.heap → (∀ b, H b ≠ none → b = a ∨ b ∈ tb) → (H a ≠ none → K.lookup a = none) →
      codeAny (model P w) callerA (.call (.ref fa) ⟨[.ref a], []⟩) (fun r s' => r = .ok (.ret (.bool true)) ∧ OldK s₁.heap s'.heap ∧ s'.os = s₁.os ∧ AllBare s'.gens) s₁ := by
    intro H atT few hS hok only notA
    -- what bears other data is not told
    have free : ∀ {b : Addr} {o : Obj}, s₁.heap.get? b = some o → (∀ us n, o.data ≠ .seq us n) → o.data ≠ .fields #[] → H b = none := fun {b o} e h1 h2 => by
      cases q : H b with
      | none => rfl
      | some u =>
        rcases only b (by rw [q]; exact fun z => nomatch z) with rfl | hb
        · rw [ha] at e; cases e; exact absurd rfl (h1 _ _)
        · rw [isT b hb] at e; cases e; exact absurd rfl h2
    have ns2 : ∀ {b : Addr} {m : Str → Option Value}, s₁.heap.Ns b m → (hidT s₁.heap H).Ns b m := fun {b m} ⟨o, es, ep, e, d, r⟩ =>
      ⟨o, es, ep, hidT_get e (free e (fun us n z => by rw [d] at z; cases z) (fun z => by rw [d] at z; cases z)), d, r⟩
    have inK : K.In (hidT s₁.heap H) := fun b o e => hidT_get (KX b o e) (by
      cases q : H b with
      | none => rfl
      | some u =>
        rcases only b (by rw [q]; exact fun z => nomatch z) with rfl | hb
        · rw [notA (by rw [q]; exact fun z => nomatch z)] at e; cases e
        · obtain ⟨p, hp, rfl⟩ := List.mem_map.mp hb
          rw [notK p hp] at e; cases e)
    have md : L2.Mod K mg (hidT s₁.heap H) := ⟨inK, ns2 hns, ⟨mb, ns2 hb, hbb⟩, let ⟨mc, h1, h2⟩ := hlim; ⟨mc, ns2 h1, h2⟩⟩
    have isB : ∀ p ∈ cs, LamX.TabB (hidT s₁.heap H) mg p.1 p.2 := fun p hp => by
      have atP := tabs p hp
      obtain ⟨og, eg, pg, hgl, dg, _⟩ := id hns
      refine ⟨?_, ?_, fun z => by rw [z, atP] at hgl; cases hgl; cases dg⟩
      · obtain ⟨o, us, file, tf, flags, tg, inF, text, tt, e1, r1, r2, r3, rr⟩ := codes p hp
        exact ⟨o, us, file, tf, flags, tg, inF, text, tt, hidT_get e1 (free e1 (fun _ _ z => by rw [r2] at z; cases z) (fun z => by rw [r2] at z; cases z; simp at r3)), r1, r2, r3, rr⟩
      · obtain ⟨bm, ob, b1, b2, b3, b4, b5, b6⟩ := bm0
        refine ⟨bm, ob, b1, b2, fun q => ?_, fun q => ?_, hidT_get b3 (free b3 (fun _ _ z => by rw [b6] at z; cases z) (fun z => by rw [b6] at z; cases z)), b4, b5, b6⟩
        · rw [q, hgl] at b3; cases b3; rw [dg] at b6; cases b6
        · rw [q, atP] at b3; cases b3; cases b6
    have env0 : Env0 P w K mg (hidT s₁.heap H) callerA [] s₁ H := ⟨rfl, md, fun b o e => of_hidT e, Nat.le_of_eq (hidT_size _ _), trivial, (fun b hb => nomatch hb), hok, .of_eq hg⟩
    refine codeAny_mono ((F _ inK (ns2 hns) isB).go callerA [] s₁ H ⟨[.ref a], []⟩ [.ref a] [.ref a] _ _ hr env0 (hbind s₁ (.ref a)) (.cons rfl .nil) (hsp H atT hS)) fun res s2 got => ?_
    match res, got with
    | .error e, got => exact (passNo_end got).elim
    | .ok (.ret u), got =>
      obtain ⟨v, H2, os, bare, un, hok2, rel, q⟩ := got
      cases (show v = V.bl true from q)
      cases (show u = Value.bool true from rel)
      have kept : ∀ b o, b ∉ tb → s₁.heap.get? b = some o → s2.heap.get? b = some o := fun b o nb e => by
        rcases few b with z | z | ⟨ob, xs, z⟩
        · exact un.keep b o e z (fun m => nomatch m) (fun m => nomatch m)
        · exact absurd z nb
        · obtain ⟨e1, _⟩ := hok b _ z
          obtain ⟨e2, _⟩ := hok2 b _ (un.frzs b ob _ z)
          rw [e] at e1; cases e1; exact e2
      have grown : ∀ p ∈ cs, ∃ more : Array Value, s2.heap.get? p.2 = some { cls := .none, data := .fields more } := fun p hp => let ⟨more, z⟩ := un.tbls p.2 #[] (atT p hp); ⟨_, hok2 p.2 _ z⟩
      refine ⟨rfl, ⟨fun b o e => ?_, fun b o e => ?_⟩, os, bare⟩
      · by_cases hm : b ∈ tb
        · obtain ⟨p, hp, rfl⟩ := List.mem_map.mp hm
          obtain ⟨more, h2⟩ := grown p hp
          rw [tabs p hp] at e
          cases e
          exact .inr (.inl ⟨((codes p hp).tab (tabs p hp)).isCodeTable, rfl, #[], more, rfl, by rw [Array.empty_append]; exact h2⟩)
        · exact .inl (kept b o hm e)
      · by_cases hm : b ∈ tb
        · obtain ⟨p, hp, rfl⟩ := List.mem_map.mp hm
          obtain ⟨more, h2⟩ := grown p hp
          exact ⟨_, h2⟩
        · exact ⟨o, kept b o hm e⟩
  have tbl : ∀ {b}, b ∈ tb → HOk P w (fun b => if b ∈ tb then some (.tbl #[]) else none) s₁.heap → True := fun _ _ => True.intro
  cases hk : K.lookup a with
  | some o =>
    have e := KX a o hk
    rw [ha] at e
    cases e
    refine core (fun b => if b ∈ tb then some (.tbl #[]) else none) (fun p hp => if_pos (inT p hp)) (fun b => ?_) (.inr ⟨_, vs.toArray, _, hk, rfl, rfl, rfl, by rw [List.size_toArray, lenV]; exact hl, by simpa using rv⟩) (fun b u z => ?_) (fun b z => ?_) (fun z => absurd (if_neg aT) z)
    · by_cases h1 : b ∈ tb
      · exact .inr (.inl h1)
      · exact .inl (if_neg h1)
    · have z : (if b ∈ tb then some (HO.tbl #[]) else none) = some u := z
      split at z
      · rename_i h1; cases z; exact isT b h1
      · cases z
    · by_cases h1 : b ∈ tb
      · exact .inr h1
      · exact absurd (if_neg h1) z
  | none =>
    refine core (fun b => if b = a then some (.frz { cls := .type "list", data := .seq vs.toArray } (.lst (ns.map V.int))) else if b ∈ tb then some (.tbl #[]) else none)
      (fun p hp => by have h1 : p.2 ≠ a := (fun z => aT (by rw [← z]; exact inT p hp)); show (if p.2 = a then _ else _) = _; rw [if_neg h1, if_pos (inT p hp)]) (fun b => ?_)
      (.inl (.inr ⟨{ cls := .type "list", data := .seq vs.toArray }, if_pos rfl⟩)) (fun b u z => ?_) (fun b z => ?_) (fun _ => hk)
    · by_cases h0 : b = a
      · exact .inr (.inr ⟨_, _, if_pos h0⟩)
      · by_cases h1 : b ∈ tb
        · exact .inr (.inl h1)
        · exact .inl ((if_neg h0).trans (if_neg h1))
    · have z : (if b = a then some (HO.frz { cls := .type "list", data := .seq vs.toArray } (.lst (ns.map V.int))) else if b ∈ tb then some (.tbl #[]) else none) = some u := z
      split at z
      · rename_i h0
        cases z
        subst h0
        exact ⟨ha, by rw [List.length_map]; exact hl, vs, _, rv, ha⟩
      · split at z
        · rename_i h1; cases z; exact isT b h1
        · cases z
    · by_cases h0 : b = a
      · exact .inl h0
      · by_cases h1 : b ∈ tb
        · exact .inr h1
        · exact absurd ((if_neg h0).trans (if_neg h1)) z
/-- what k_head leaves, from the law's promise; cs: the defs that make lambdas, their code objects and tables -/
theorem walkV {l : PySem.W.OpenLaw} {k : Nat} {q : Program} {loose : List Str} {XP : (Str → Option Value) → Heap → Prop} {YP : World → Heap → Prop} {d : DefRec} {K : Params → PySem.W.Frag} {x : Str}
    (hn : l.most = some 63) (hdf : d.params.defaults = []) (hr : RoomG k callerA) (hY : ∀ (w : World) (h : Heap), YP w h → (K w.params).In h)
    (F : ∀ (w : World) (mg : Str → Option Value) (fa : Addr) (h : Heap), (K w.params).In h → h.Ns mainGlobals mg → mg d.name = some (.ref fa) → XP mg h →
      ∃ (fd : FuncData) (cs : List (Str × Addr × Addr)), (∀ (s : Shared) (u : Value), BindsTo s fd ⟨[u], []⟩ [(x, u)]) ∧
        (∀ t ∈ cs, PySem.W.tabIn (K w.params) t.1 = some t.2 ∧ ((recsOf q).find? fun e => e.name == t.1).isSome = true ∧ (K w.params).lookup t.2.2 = none) ∧ (∀ t ∈ cs, ∀ u ∈ cs, t.2.2 = u.2.2 → t.1 = u.1) ∧
        ∀ base : Heap, (K w.params).In base → base.Ns mainGlobals mg → (∀ t ∈ cs, LamX.TabB base mg t.2.1 t.2.2) → FnG l.prog w (K w.params) mg base (L2.CX l.prog w) k fa fd [x] (spLaw (K w.params) (cs.map fun t => (t.2.2, t.1 ++ ".<locals>." ++ "<lambda>")))) :
    PySem.W.WalkO q loose XP YP l.row.toRowW d [] (fun f vs => PySem.call f vs) := by
  refine Att.attach_call hn hdf fun w s₀ s₁ mg mb fa o pm cd doc a vs ns G Y ho hd hcd hmg hobj hints hlen hg => ?_
  have KX := hY w _ Y
  obtain ⟨fd, cs, hb, hcs, hu, hF⟩ := F w mg fa _ KX G.T.g hmg G.X
  have both : ∀ t ∈ cs, PySem.W.CodeHd s₁.heap t.2.1 t.2.2 ∧ s₁.heap.get? t.2.2 = some (PySem.W.tabObj #[]) := fun t ht => by
    obtain ⟨h1, h2, _⟩ := hcs t ht
    obtain ⟨d', hd'⟩ := Option.isSome_iff_exists.mp h2
    exact PySem.W.tab_of G.T KX hd' h1
  have mem : ∀ {p : Addr × Addr}, p ∈ cs.map (·.2) → ∃ t ∈ cs, t.2 = p := fun {p} hp => List.mem_map.mp hp
  refine law_goes (cs := cs.map (·.2)) KX G.T.g G.T.b G.T.builtins G.T.nolimit hg (fun p hp => ?_) (fun p hp => ?_) (fun p hp => ?_) G.T.bmain hobj hints (Nat.le_trans hlen (by rw [sizeLine_eq]; omega)) hr (fun base h1 h2 h3 => hF base h1 h2 fun t ht => h3 t.2 (List.mem_map.mpr ⟨t, ht, rfl⟩)) hb (fun H hT hS => ?_)
  · obtain ⟨t, ht, rfl⟩ := mem hp; exact (both t ht).2
  · obtain ⟨t, ht, rfl⟩ := mem hp; exact (hcs t ht).2.2
  · obtain ⟨t, ht, rfl⟩ := mem hp; exact (both t ht).1
  · refine ⟨a, ns, rfl, hS, hlen, fun p hp => ?_, fun p hp q hq e => ?_, fun _ => rfl⟩
    · obtain ⟨t, ht, rfl⟩ := List.mem_map.mp hp
      exact hT t.2 (List.mem_map.mpr ⟨t, ht, rfl⟩)
    · obtain ⟨t, ht, rfl⟩ := List.mem_map.mp hp
      obtain ⟨u, hu2, rfl⟩ := List.mem_map.mp hq
      show t.1 ++ _ ++ _ = u.1 ++ _ ++ _
      rw [hu t ht u hu2 e]
end VD

set_option Elab.async false
set_option linter.all false
set_option maxRecDepth 100000
set_option maxHeartbeats 1000000
/-! VD: more rules: repr with dicts, list(d.items()), pop of own dicts -/
namespace VD
open PySem PySem.Spec PyProof.Rows L2

/-! ### repr where dicts are within, but no list -/
mutual
def nlD : D → Bool
  | .lst _ => false
  | .tup ds => nlL ds
  | .dic ks => nlK ks
  | _ => true
def nlL : List D → Bool
  | [] => true
  | d :: r => nlD d && nlL r
def nlK : List (Key × D) → Bool
  | [] => true
  | (_, d) :: r => nlD d && nlK r
end
section
variable {X : Cx} {pins : List (Addr × Obj)} {σ : L2.St} {H : Hp} {w : Wd} {s : Shared}
mutual
theorem safe_run (I : Inv X pins σ H s) (sub : SubW w H) : ∀ (d : D) {v : V} {v' : Value}, nlD d = true → datD d = true → Rep w d v → RelV v v' → ∃ as, Safe as ∧ Reads s.heap v' (toPy d) as
  | .tup xs, v, v', nl, c, r, rv => by
    cases r with
    | @tup p vs _ z r =>
      cases (show v' = Value.ref p from rv)
      obtain ⟨us, rl, pl, _⟩ := I.tuple (H := H) (.inl (.inl (sub _ _ z)))
      obtain ⟨as, sa, ra⟩ := safeL_run I sub xs (by simpa [nlD] using nl) (by simpa [datD] using c) r rl
      obtain ⟨o, ho, hc, n, hd⟩ := pl
      exact ⟨as, sa, .tuple ho hc hd (by simpa using ra)⟩
  | .lst xs, v, v', nl, c, r, rv => by simp [nlD] at nl
  | .dic xs, v, v', nl, c, r, rv => by
    cases r with
    | @dic p _ vs _ z r =>
      cases (show v' = Value.ref p from rv)
      obtain ⟨_, s1, va, ra, o, es, ep, ho, hx, hd, hk, hp, _⟩ := dk_rd I.hok (rd_of sub z)
      obtain ⟨as, sa, ka⟩ := keys_read (h := s.heap) hp
      obtain ⟨bs, sb, kb⟩ := safeK_run I sub xs (by simpa [nlD] using nl) (by simpa [datD] using c) r ra
      have e1 : (va.map fun kv => keyPy kv.1) = (toPyK xs).map (·.1) := by
        rw [toPyK_fst]
        have q := congrArg (List.map keyPy) ((KV.keys ra).symm.trans r.keys.symm)
        simpa [List.map_map, Function.comp_def] using q
      refine ⟨p :: as ++ bs, (sa.cons (fun e => by simp [e] at s1)).app sb, .dict ho hx.1 hd ?_ ?_⟩
      · rw [← e1]; exact ka
      · rw [vals_eq hp]; exact kb
  | .non, v, v', _, c, r, rv => by cases r; cases rv; exact ⟨[], (fun h => nomatch h), .none⟩
  | .bl _, v, v', _, c, r, rv => by cases r; cases rv; exact ⟨[], (fun h => nomatch h), .bool _⟩
  | .int i, v, v', _, c, r, rv => by cases r; obtain ⟨t, rfl⟩ := rv; exact ⟨[], (fun h => nomatch h), .int i t⟩
  | .str x, v, v', _, c, r, rv => by cases r; obtain ⟨t, rfl⟩ := rv; exact ⟨[], (fun h => nomatch h), .str x t⟩
  | .ty _, _, _, _, c, _, _ => by simp [datD] at c
  | .ref _, _, _, _, c, _, _ => by simp [datD] at c
  | .dct _, _, _, _, c, _, _ => by simp [datD] at c
  | .tape, _, _, _, c, _, _ => by simp [datD] at c
theorem safeL_run (I : Inv X pins σ H s) (sub : SubW w H) : ∀ (ds : List D) {vs : List V} {vs' : List Value}, nlL ds = true → datL ds = true → Reps w ds vs → Vals vs vs' → ∃ as, Safe as ∧ ReadsAll s.heap vs' (toPyL ds) as
  | [], vs, vs', _, c, r, rv => by
    cases r
    cases rv
    exact ⟨[], (fun h => nomatch h), .nil⟩
  | x :: xs, vs, vs', nl, c, r, rv => by
    cases r with
    | cons a r =>
      cases rv with
      | cons va rv =>
        have c' : datD x = true ∧ datL xs = true := by simpa [datL] using c
        have n' : nlD x = true ∧ nlL xs = true := by simpa [nlL] using nl
        obtain ⟨as, sa, ra⟩ := safe_run I sub x n'.1 c'.1 a va
        obtain ⟨bs, sb, rb⟩ := safeL_run I sub xs n'.2 c'.2 r rv
        exact ⟨as ++ bs, sa.app sb, .cons ra rb⟩
theorem safeK_run (I : Inv X pins σ H s) (sub : SubW w H) : ∀ (ds : List (Key × D)) {vs : List (Key × V)} {vs' : List (Key × Value)}, nlK ds = true → datK ds = true → RepK w ds vs → KV vs vs' → ∃ as, Safe as ∧ ReadsAll s.heap (vs'.map (·.2)) ((toPyK ds).map (·.2)) as
  | [], vs, vs', _, c, r, rv => by
    cases r
    cases rv
    exact ⟨[], (fun h => nomatch h), .nil⟩
  | (k, x) :: xs, vs, vs', nl, c, r, rv => by
    cases r with
    | cons a r =>
      cases rv with
      | cons va rv =>
        have c' : datD x = true ∧ datK xs = true := by simpa [datK] using c
        have n' : nlD x = true ∧ nlK xs = true := by simpa [nlK] using nl
        obtain ⟨as, sa, ra⟩ := safe_run I sub x n'.1 c'.1 a va.2
        obtain ⟨bs, sb, rb⟩ := safeK_run I sub xs n'.2 c'.2 r rv
        exact ⟨as ++ bs, sa.app sb, .cons ra rb⟩
end
end


section
variable {X : Cx} {P : PX} {pos p lpos : Pos} {es : List Expr} {W : WA} {t : TA}
/-- a new list, not the interpreter's own dict of modules -/
theorem pe_lstB (h : PA X es t) : PE X (.List es lpos) (fun σ H Q => t σ H fun vs H1 => vs.length ≤ sizeLine ∧ ∀ p, H1 p = none → p ≠ sysModules → Q (.ref p) (upd H1 p (.lst vs))) := by
  constructor
  intro pins s σ H Q I hq
  refine wpAny_List_spliced (thn (h.run lpos pins s σ H _ I hq) ?_)
  rintro us s1 ⟨xs, H1, J, rel, z, q⟩
  refine ⟨by rw [← rel.length]; exact z, .ref s1.heap.objs.size, _, ?_, rfl, q _ (J.hok.fresh (Nat.le_refl _)) (Ne.symm (Nat.ne_of_lt J.big))⟩
  exact J.laid (t' := s1.toks) (fun b u e => Heap.get?_push_of_some _ e) (Nat.le_refl _) ⟨z, us, 0, rel, Heap.get?_push_size _ rfl⟩
def rReprS : List V → Hp → VK → Prop := fun xs H Q => ∃ w p vs ds, xs = [.ref p] ∧ SubW w H ∧ H p = some (.lst vs) ∧ p ≠ sysModules ∧ Reps w ds vs ∧ nlL ds = true ∧ datL ds = true ∧ showD (.lst ds) = true ∧ (toPy (.lst ds)).depth ≤ 60 ∧ (reprD (.lst ds)).length ≤ sizeLine ∧ Q (.str (reprD (.lst ds))) H
theorem cr_reprS (hg : X.A.guards = some []) (hu : X.A.units + 64 < cLine) : CallR X (.builtin "repr") rReprS := by
  intro pins s σ H xs us Q I rv h
  obtain ⟨Z, p, vs, ds, rfl, sub, hp, np, r, nl, dt, sh, dp, sz, q⟩ := h
  obtain ⟨v', rfl, rv1⟩ := vals1 rv
  cases (show v' = Value.ref p from rv1)
  obtain ⟨us, rl, pl, _⟩ := I.list (H := H) (.inl (.inl hp))
  obtain ⟨as, sa, ra⟩ := safeL_run I sub ds nl dt r rl
  obtain ⟨o, ho, hc, n, hd⟩ := pl.isList
  have rd : Reads s.heap (.ref p) (toPy (.lst ds)) (p :: as) := .list ho hc hd (by simpa using ra)
  refine repr_of_reads' rd sh (fun _ => sa.cons np) hg (by omega) (fun _ _ e => e) (fun h' u tk hk => ?_) sz
  exact ⟨.str _, H, I.kept hk, ⟨_, rfl⟩, q⟩
/-- repr([..]) -/
def wReprL (W : WA) : WE := fun s O Q => W s O fun bs O1 => allD bs fun ds => nlL ds = true ∧ datL ds = true ∧ showD (.lst ds) = true ∧ (toPy (.lst ds)).depth ≤ 60 ∧ (reprD (.lst ds)).length ≤ sizeLine ∧ Q (.d (.str (reprD (.lst ds)))) O1
theorem de_reprL (hgd : X.A.guards = some []) (hu : X.A.units + 64 < cLine) (hg : Gl X "repr") (hm : X.mg "repr" = none) (ha : DA X P es W) (hl : es.length ≤ 1000 := by decide)
    (he : starEach [.List es lpos] X.env = (false, eval (.List es lpos) X.env) :: starEach [] X.env := by rfl) : DE X P (.Call (.Name "repr" p) [.List es lpos] [] pos) (wReprL W) := by
  obtain ⟨t, q, h⟩ := ha.ex
  refine ⟨_, pe_callB (cr_reprS hgd hu) hg hm rfl (pa_cons (pe_lstB q) pa_nil he) (by decide) (by decide) he (by rfl), fun w σ s H O Q R rs ro w0 po => ?_⟩
  refine h _ _ _ _ _ _ _ rs ro w0 fun vs H2 Z2 bs O2 l2 s2 r2 e2 w2 => ?_
  obtain ⟨ds, h1, n1, n2, n3, n4, n5, q5⟩ := allD_ok e2 w2
  refine ⟨by rw [← e2.length, l2]; exact Nat.le_of_lt (small1000 hl), fun a ha np => ?_⟩
  have x3 := ext_put (c := .frz (.lst vs)) (r2.freeW ha)
  have r3 := (r2.newC (u := .lst vs) ha).tell (c := .frz (.lst vs)) (r2.freeW ha) (r2.free ha) upd_same
  refine ⟨(Z2.put a (.frz (.lst vs))).view, a, vs, ds, rfl, view_sub r3, upd_same, np, (h1.mono x3.l).mono view_le, n1, n2, n3, n4, n5, ?_⟩
  exact po _ _ _ _ _ (s2.trans x3) r3 (.d .str) q5
end

/-! ### repr of any such tree -/
section
variable {X : Cx} {P : PX}
def rReprN : List V → Hp → VK → Prop := fun xs H Q => ∃ w d v, xs = [v] ∧ SubW w H ∧ Rep w d v ∧ refD d = true ∧ nlD d = true ∧ datD d = true ∧ showD d = true ∧ (toPy d).depth ≤ 60 ∧ (reprD d).length ≤ sizeLine ∧ Q (.str (reprD d)) H
theorem cr_reprN (hg : X.A.guards = some []) (hu : X.A.units + 64 < cLine) : CallR X (.builtin "repr") rReprN := by
  intro pins s σ H xs us Q I rv h
  obtain ⟨Z, d, v, rfl, sub, r, rf, nl, dt, sh, dp, sz, q⟩ := h
  obtain ⟨v', rfl, rv1⟩ := vals1 rv
  obtain ⟨as, sa, rd⟩ := safe_run I sub d nl dt r rv1
  obtain ⟨a, rfl⟩ : ∃ a, v' = .ref a := by
    cases r with
    | tup => exact ⟨_, rv1⟩
    | lst => exact ⟨_, rv1⟩
    | dic => exact ⟨_, rv1⟩
    | _ => simp [refD] at rf
  refine repr_of_reads' rd sh (fun _ => sa) hg (by omega) (fun _ _ e => e) (fun h' u tk hk => ?_) sz
  exact ⟨.str _, H, I.kept hk, ⟨_, rfl⟩, q⟩
def wReprN : DLF := fun ds O Q => match ds with
  | [x] => eqB x fun d => refD d = true ∧ nlD d = true ∧ datD d = true ∧ showD d = true ∧ (toPy d).depth ≤ 60 ∧ (reprD d).length ≤ sizeLine ∧ Q (.d (.str (reprD d))) O
  | _ => False
theorem c_reprN (hg : X.A.guards = some []) (hu : X.A.units + 64 < cLine) : DCall X (.builtin "repr") wReprN := by
  refine ⟨_, cr_reprN hg hu, fun w H O ds vs Q R ro r q po => ?_⟩
  unfold wReprN at q
  split at q
  · obtain ⟨v, rfl, r1⟩ := r.one_ex
    obtain ⟨d, r2, h1, h2, h3, h4, h5, h6, q⟩ := eqB_ok r1 q
    exact ⟨w.view, d, v, rfl, view_sub ro, r2, h1, h2, h3, h4, h5, h6, po _ _ _ _ _ (Ext.refl _) ro (.d .str) q⟩
  · exact q.elim
/-- repr: data without dicts, or without lists -/
def wRepr2 : DLF := fun ds O Q => wRepr ds O Q ∨ wReprN ds O Q
theorem c_repr2 (hg : X.A.guards = some []) (hu : X.A.units + 64 < cLine) : DCall X (.builtin "repr") wRepr2 := (c_repr hg hu).or (c_reprN hg hu)

/-! ### x.pop(k), x an own dict -/
def dpQ (m : CM) (y : D) (K : D → CM → Prop) : Prop := match m with
  | .dic kvs => ∃ k v, keyD y = some k ∧ valG kvs k = some v ∧ K v (.dic (dropG kvs k))
  | _ => False
def wDPop1 (i : Nat) (Wk : WE) : WM := fun s O Q => (look s i fun x => ownQ x fun m => ∃ kvs, m = .dic kvs) ∧ Wk s O fun y O1 => isD y fun y => look s i fun x => ownQ x fun m => dpQ m y fun v m' => Q v (s.set i (some (.o m'))) O1
def wDPop2 (i : Nat) (Wk Wz : WE) : WM := fun s O Q => (look s i fun x => ownQ x fun m => ∃ kvs, m = .dic kvs) ∧ Wk s O fun y O1 => isD y fun y => Wz s O1 fun z O2 => isD z fun z => look s i fun x => ownQ x fun m => match m with
  | .dic kvs => ∃ k, keyD y = some k ∧ (match valG kvs k with | some v => Q v (s.set i (some (.o (.dic (dropG kvs k))))) O2 | none => Q z s O2)
  | _ => False
variable {apos cpos npos : Pos} {e f : Expr} {x : Str} {Wk Wz : WE}
theorem dm_dpop1 (i : Nat) (he : DE X P e Wk) (m : M1 X (.Name x npos) "pop" apos e cpos := by exact ⟨rfl, rfl, rfl, rfl⟩)
    (hN : X.N[i]? = some x := by rfl) (hv : Vis X.env.scope x := by first | exact Or.inl rfl | exact Or.inr (Or.inl rfl) | exact Or.inr (Or.inr rfl)) (hd : (x == ("__debug__" : Str)) = false := by decide) (hcd : (x == ("__classdict__" : Str)) = false := by decide) :
    DM X P (.Call (.Attribute (.Name x npos) "pop" apos) [e] [] cpos) (wDPop1 i Wk) := by
  obtain ⟨te, qe, he⟩ := he.ex
  refine ⟨_, pe_dpop1 (pe_var hN hv hd hcd) qe m, fun w σ s H O Q R rs ro ⟨h0, w1⟩ po => ?_⟩
  obtain ⟨sv, e0, h0⟩ := look_ex h0
  obtain ⟨m0, rfl, kvs, rfl⟩ := ownQ_ex h0
  obtain ⟨v, hσ, sr⟩ := rs.at' i _ e0
  cases sr with
  | @o m p u hw cr =>
    obtain ⟨us, rfl, ru⟩ := id cr
    refine ⟨_, hσ, p, rfl, .inl ⟨us, .inl (ro.cell _ _ hw)⟩, ?_⟩
    refine he _ _ _ _ _ _ _ rs ro w1 fun y H1 Z1 yd O1 s1 r1 e1 w2 => ?_
    obtain ⟨yd, rfl, w2⟩ := isD_ex w2
    obtain ⟨sv, e2, w2⟩ := look_ex w2
    rw [e0] at e2
    cases e2
    obtain ⟨k, vd, hk, hval, q⟩ := w2
    have hw1 := s1 _ _ hw
    have ru1 := ru.mono s1.l
    have hv0 := ru1.val (k := k)
    rw [hval] at hv0
    obtain ⟨v1, hv1, rv1⟩ := hv0
    have ex := exts_own (u' := .dK (dropK us k)) hw1
    refine ⟨us, k, v1, r1.cell _ _ hw1, keyD_ok e1.toD hk, hv1, ?_⟩
    exact po _ _ _ _ _ _ (s1.s.trans ex) ((rs.mono s1).putO e0 hσ hw1 (m' := .dic (dropG kvs k)) ⟨_, rfl, ru1.drop k⟩) (r1.putCell hw1 (fun _ z => by cases z) (fun z => by cases z) upd_same) (rv1.mono ex.l) q
theorem dm_dpop2 (i : Nat) (he : DE X P e Wk) (hf : DE X P f Wz) (m : M2 X (.Name x npos) "pop" apos e f cpos := by exact ⟨rfl, rfl, rfl, rfl⟩)
    (hN : X.N[i]? = some x := by rfl) (hv : Vis X.env.scope x := by first | exact Or.inl rfl | exact Or.inr (Or.inl rfl) | exact Or.inr (Or.inr rfl)) (hd : (x == ("__debug__" : Str)) = false := by decide) (hcd : (x == ("__classdict__" : Str)) = false := by decide) :
    DM X P (.Call (.Attribute (.Name x npos) "pop" apos) [e, f] [] cpos) (wDPop2 i Wk Wz) := by
  obtain ⟨te, qe, he⟩ := he.ex
  obtain ⟨tf, qf, hf⟩ := hf.ex
  refine ⟨_, pe_dpop2 (pe_var hN hv hd hcd) qe qf m, fun w σ s H O Q R rs ro ⟨h0, w1⟩ po => ?_⟩
  obtain ⟨sv, e0, h0⟩ := look_ex h0
  obtain ⟨m0, rfl, kvs, rfl⟩ := ownQ_ex h0
  obtain ⟨v, hσ, sr⟩ := rs.at' i _ e0
  cases sr with
  | @o m p u hw cr =>
    obtain ⟨us, rfl, ru⟩ := id cr
    refine ⟨_, hσ, p, rfl, .inl ⟨us, .inl (ro.cell _ _ hw)⟩, ?_⟩
    refine he _ _ _ _ _ _ _ rs ro w1 fun y H1 Z1 yd O1 s1 r1 e1 w2 => ?_
    obtain ⟨yd, rfl, w2⟩ := isD_ex w2
    refine hf _ _ _ _ _ _ _ (rs.mono s1) r1 w2 fun z H2 Z2 zd O2 s2 r2 e2 w3 => ?_
    obtain ⟨zd, rfl, w3⟩ := isD_ex w3
    obtain ⟨sv, e3, w3⟩ := look_ex w3
    rw [e0] at e3
    cases e3
    obtain ⟨k, hk, q⟩ := w3
    have sm := s1.trans s2
    have hw1 := sm _ _ hw
    have ru1 := ru.mono sm.l
    have hv0 := ru1.val (k := k)
    refine ⟨us, k, r2.cell _ _ hw1, keyD_ok (e1.toD.mono s2.l) hk, fun v1 hv1 => ?_, fun hn => ?_⟩
    · cases hg : valG kvs k with
      | none => rw [hg] at hv0; rw [hv0] at hv1; cases hv1
      | some vd =>
        rw [hg] at hv0 q
        obtain ⟨v2, hv2, rv2⟩ := hv0
        rw [hv1] at hv2
        cases hv2
        have ex := exts_own (u' := .dK (dropK us k)) hw1
        exact po _ _ _ _ _ _ (sm.s.trans ex) ((rs.mono sm).putO e0 hσ hw1 (m' := .dic (dropG kvs k)) ⟨_, rfl, ru1.drop k⟩) (r2.putCell hw1 (fun _ z => by cases z) (fun z => by cases z) upd_same) (rv2.mono ex.l) q
    · cases hg : valG kvs k with
      | some vd => rw [hg] at hv0; obtain ⟨v2, hv2, _⟩ := hv0; rw [hn] at hv2; cases hv2
      | none =>
        rw [hg] at q
        exact po _ _ _ _ _ _ sm.s (rs.mono sm) r2 e2.toD q
end

/-! ### list(d.items()) -/
def itemsD (kvs : List (Key × D)) : List D := kvs.map fun kv => .tup [keyE kv.1, kv.2]
def withT (w : Wd) (H' : Hp) (ts : List Addr) : Wd := fun b => if b ∈ ts then (H' b).map Cell.frz else w b
theorem withT_in {w : Wd} {H' : Hp} {ts : List Addr} {b} (h : b ∈ ts) : withT w H' ts b = (H' b).map Cell.frz := if_pos h
theorem withT_out {w : Wd} {H' : Hp} {ts : List Addr} {b} (h : b ∉ ts) : withT w H' ts b = w b := if_neg h
theorem paired_in {H' : Hp} : ∀ {ts : List Addr} {us : List (Key × V)}, Paired (fun (t : Addr) (q : Key × V) => H' t = some (.tup [kV q.1, q.2])) ts us → ∀ b ∈ ts, ∃ xs, H' b = some (.tup xs)
  | _, _, .nil, _, h => nomatch h
  | _, _, .cons h t, b, hb => by
    rcases List.mem_cons.mp hb with rfl | hb
    · exact ⟨_, h⟩
    · exact paired_in t b hb
theorem rel_withT {w : Wd} {H H' : Hp} {O : OO} {ts : List Addr} (ro : RelO w H O) (s : Same H H') (hn : ∀ t ∈ ts, H t = none) (ht : ∀ b ∈ ts, ∃ xs, H' b = some (.tup xs)) : Ext w (withT w H' ts) ∧ RelO (withT w H' ts) H' O := by
  have out : ∀ {b c}, w b = some c → b ∉ ts := fun {b c} e z => by rw [ro.freeW (hn b z)] at e; cases e
  have ex : Ext w (withT w H' ts) := fun b c e => by rw [withT_out (out e)]; exact e
  have cs : ∀ {b c}, withT w H' ts b = some c → (b ∈ ts ∧ ∃ xs, H' b = some (.tup xs) ∧ c = .frz (.tup xs)) ∨ (b ∉ ts ∧ w b = some c) := fun {b c} e => by
    by_cases hb : b ∈ ts
    · obtain ⟨xs, hx⟩ := ht b hb
      rw [withT_in hb, hx] at e
      cases e
      exact .inl ⟨hb, xs, hx, rfl⟩
    · rw [withT_out hb] at e; exact .inr ⟨hb, e⟩
  have g := ro.grow s
  refine ⟨ex, fun b c e => ?_, fun a m e => (g.own a m e).mono ex.l, fun a m e => ?_, ro.fin.sub fun a q e => ?_, fun a c e => ?_⟩
  · rcases cs e with ⟨_, xs, hx, rfl⟩ | ⟨_, e⟩
    · exact hx
    · exact (g.cell b c e).mono ex.l
  · have : a ∉ ts := fun z => by rw [ro.free (hn a z)] at e; cases e
    rw [withT_out this]; exact ro.off a m e
  · rcases cs e with ⟨_, xs, hx, z⟩ | ⟨_, e⟩
    · cases z
    · exact e
  · rcases cs e with ⟨_, xs, hx, rfl⟩ | ⟨_, e⟩
    · exact fun _ z => by cases z
    · exact ro.nx _ _ e
theorem items_rep {w : Wd} {H' : Hp} {ts all : List Addr} {ks : List (Key × D)} {us : List (Key × V)} (ha : ∀ t ∈ ts, t ∈ all) (r : RepK w ks us) (p : Paired (fun (t : Addr) (q : Key × V) => H' t = some (.tup [kV q.1, q.2])) ts us) (sz : Le0 w (withT w H' all)) :
    Reps (withT w H' all) (itemsD ks) (ts.map V.ref) := by
  induction p generalizing ks with
  | nil => cases r; exact .nil
  | cons h t ih =>
    cases r with
    | cons a r =>
      refine .cons (.tup (vs := _) ?_ (.cons (rep_keyE _) (.one (a.mono sz)))) (ih (fun t ht => ha t (List.mem_cons_of_mem _ ht)) r)
      rw [withT_in (ha _ List.mem_cons_self), h]
      rfl
def wItems (W : WE) : WN := fun s O Q => W s O fun d O1 => ∃ kvs, asK d O1 = some kvs ∧ Q (.lst (itemsD kvs)) O1
section
variable {X : Cx} {P : PX} {e : Expr} {W : WE} {p apos cpos pos : Pos}
def rItemsR : V → Hp → VK → Prop := fun x H Q => ∃ (d : Addr) (kvs : List (Key × V)), x = .ref d ∧ Rd H d (.dK kvs) ∧
  ∀ (H' : Hp) (p : Addr) (ts : List Addr), (∀ b o, H b = some o → H' b = some o) → H p = none → (∀ t ∈ ts, H t = none) → p ∉ ts → H' p = some (.lst (ts.map V.ref)) → Paired (fun (t : Addr) (q : Key × V) => H' t = some (.tup [kV q.1, q.2])) ts kvs → Q (.ref p) H'
theorem pe_itemsR {te : TE} (hc : X.calm = true) (he : PE X e te) (hg : Gl X "list") (hm : X.mg "list" = none) (hv : bootBuiltins "list" = some (.type "list")) (hbase : attributeBase e "items" X.env (eval e X.env) = eval e X.env) (hline : (apos.endLine == cpos.line) = true)
    (hs : starEach [.Call (.Attribute e "items" apos) [] [] cpos] X.env = (false, eval (.Call (.Attribute e "items" apos) [] [] cpos) X.env) :: starEach [] X.env) :
    PE X (.Call (.Name "list" p) [.Call (.Attribute e "items" apos) [] [] cpos] [] pos) (fun σ H Q => te σ H fun x H1 => rItemsR x H1 Q) := by
  refine ⟨fun pins s σ H Q I hq => ?_⟩
  refine wpAny_Call_Name_kw (ld_blt I hg hm hv ?_)
  refine PyProof.Rows.callWith_type1 ?_ hs rfl
  rw [hs]
  show wpAny _ _ (spliced ((false, eval (.Call (.Attribute e "items" apos) [] [] cpos) X.env) :: backTo pos (starEach [] X.env))) _ _ s
  refine Calls.spliced_cons ?_
  refine wpAny_Call_method (T := "dict") (id := "dict.items") hbase rfl hline F.plainAttrs_dict F.slot_dict_items F.type_dict_items (thn (he.run pins s σ H _ I hq) fun u s1 ⟨x, H1, I1, rx, d, kvs, ex, hd, q⟩ => ?_)
  subst ex
  obtain rfl : u = Value.ref d := rx
  obtain ⟨hz, hs0, vs, kv, hdo⟩ := dk_rd I1.hok hd
  obtain ⟨ep, hat⟩ := hdo.dictAt
  have lk : kvs.length = vs.length := Paired.length kv
  have I2 : Inv X pins σ H1 { s1 with heap := s1.heap.push { cls := .type "dict_items", data := .fields #[.ref d] } } := I1.kept (t' := s1.toks) fun b ob q => Heap.get?_push_of_some _ q
  refine ⟨hdo.typeIs, hdo.mapOf.noDict, ?_⟩
  show wpAny _ _ (callWith cpos (.builtin "dict.items") [.ref d] [] []) _ X.xe s1
  refine method_meetsIn F.slot_dict_items F.entry_dict_items rfl (PySem.evalArgs_none ⟨rfl, hdo.typeIs, F.args_dict_items_1 _, _, meets_dict_items (mixKind X.prog X.w) d hs0, ⟨vs, hdo⟩, ?_⟩)
  refine Calls.spliced_nil ?_
  refine PySem.W.kdx_call (knd := mixKind X.prog X.w) (kvs := vs) (ep := ep) (I1.ok.hd hc) ⟨_, Heap.get?_push_size _ rfl, rfl, rfl⟩ (hat.push _) (by omega) fun h' tk acc c as hk hS hl hG hacc => ?_
  obtain ⟨H', k1, k2, k3, k4, k5, k6, J⟩ := LiI.items_laid (tk := tk) I2 hz kv hk hS hl hG hacc
  exact ⟨.ref _, H', J, rfl, q H' _ as k1 k2 k3 k4 k5 k6⟩
theorem dn_items (hc : X.calm = true) (he : DE X P e W) (hg : Gl X "list") (hm : X.mg "list" = none) (hv : bootBuiltins "list" = some (.type "list") := by rfl) (hbase : attributeBase e "items" X.env (eval e X.env) = eval e X.env := by rfl) (hline : (apos.endLine == cpos.line) = true := by rfl)
    (hs : starEach [.Call (.Attribute e "items" apos) [] [] cpos] X.env = (false, eval (.Call (.Attribute e "items" apos) [] [] cpos) X.env) :: starEach [] X.env := by rfl) :
    DN X P (.Call (.Name "list" p) [.Call (.Attribute e "items" apos) [] [] cpos] [] pos) (wItems W) := by
  obtain ⟨t, q, h⟩ := he.ex
  refine ⟨_, pe_itemsR hc q hg hm hv hbase hline hs, fun w σ s H O Q R rs ro w0 po => ?_⟩
  refine h _ _ _ _ _ _ _ rs ro w0 fun v H1 Z1 d O1 s1 r1 e1 w1 => ?_
  obtain ⟨kvs, hk, w1⟩ := w1
  obtain ⟨x, us, rfl, hx, ru⟩ := asK_ok r1 e1 hk
  refine ⟨x, us, rfl, hx, fun H' p ts sm hp hts hpt hl hP => ?_⟩
  obtain ⟨s2, r2⟩ := rel_withT r1 sm hts (paired_in hP)
  have rr := items_rep (fun t h => h) ru hP s2.l
  exact po p _ _ _ (.lst (itemsD kvs)) _ (s1.trans s2) r2 (by rw [withT_out hpt]; exact r1.freeW hp) (r1.free hp) hl ⟨_, rfl, rr⟩ w1
end
end VD

set_option Elab.async false
set_option linter.all false
set_option maxRecDepth 100000
set_option maxHeartbeats 1000000
/-! VD: walks over dicts with tuple keys -/
namespace VD
open PySem PySem.Spec PyProof.Rows L2

section
variable {X : Cx} {own : List (Addr × Obj)} {σ : L2.St} {H : Hp} {s : Shared} {d : Addr} {o : Obj}
/-- a locked dict with tuple keys, by its entries -/
theorem frzT_all {kvs : List (List Key × V)} (J : Inv X own σ H s) (h : H d = some (.frz o (.dT kvs))) :
    (d == sysModules) = false ∧ s.heap.get? d = some o ∧ o.ExactDict ∧ ∃ (es : Array DictEntry) (ep : Nat), o.data = .dict es ep ∧ es.size = kvs.length ∧
      ∀ (i : Nat) (k : List Key) (v : V), kvs[i]? = some (k, v) → ∃ (en : DictEntry) (q : Addr), es[i]? = some en ∧ en.key = .ref q ∧ H q = some (.tup (k.map kV)) ∧ RelV v en.val := by
  obtain ⟨at_, _, notSys, xs, pr, o2, es, ep, at2, exact_, dat, ents, _⟩ := J.hok d _ h
  rw [at_] at at2
  cases at2
  refine ⟨notSys, at_, exact_, es, ep, dat, ?_, fun i k v e => ?_⟩
  · rw [size_of_entries ents]
    exact (Paired.length pr).symm
  · obtain ⟨b, hb, e1, e2, e3⟩ := paired_get pr e
    have q := entry_at ents i
    rw [hb] at q
    exact ⟨_, b.2.1, q, rfl, e2, e3⟩
end
/-- the pairs of a dict with tuple keys -/
def ItiT (d : Addr) (o : Obj) (kvs : List (List Key × V)) : It :=
  ⟨fun i H => H d = some (.frz o (.dT kvs)) ∧ i < kvs.length, fun i H x H' => ∃ (T q : Addr) (k : List Key) (v : V), kvs[i]? = some (k, v) ∧ x = .ref T ∧ H q = some (.tup (k.map kV)) ∧ H T = none ∧ H' = upd H T (.tup [.ref q, v]), fun i H => H d = some (.frz o (.dT kvs)) ∧ kvs.length ≤ i⟩
section
variable {P : Program} {w : World} {K : PySem.W.Frag} {d : Addr} {o : Obj} {es : Array DictEntry} {ep : Nat}
theorem turn_pairsT {kvs : List (List Key × V)} {elts : List Expr} {kk : Nat} {tpos : Pos} (it : Addr) (hod : o.data = .dict es ep) :
    Turn P w K (.Tuple elts kk tpos) (ItiT d o kvs) [it] it (fun i h => ∃ ok ov, IsItemIter h it d i kvs.length ep ok ov) where
  mem := by simp
  obj := fun i h st b hb => by
    cases (show b = it by simpa using hb)
    obtain ⟨ok, ov, e⟩ := st
    exact ⟨_, e, fun v z => nomatch z⟩
  keep := fun i h h' ⟨ok, ov, e⟩ k => ⟨ok, ov, k it (by simp) _ e⟩
  item := by
    rintro X rfl rfl rfl hc i own s σ H E J hf ⟨ok, ov, iter⟩ ⟨hd, hi⟩
    obtain ⟨notSys, at_, exact_, es', ep', dat, hsz, ent⟩ := frzT_all J hd
    obtain ⟨e1, e2⟩ := dict_ep hod dat
    subst e1 e2
    have hk : kvs[i]? = some kvs[i] := List.getElem?_eq_getElem hi
    obtain ⟨en, q, hen, key, hq, rel⟩ := ent i kvs[i].1 kvs[i].2 hk
    have hi2 : i < es'.size := by omega
    rw [Array.getElem?_eq_getElem hi2] at hen
    cases hen
    rw [← hsz] at iter
    have lt_it : it < s.heap.objs.size := Heap.lt_size iter
    refine DT.nextI iter ⟨o, at_, exact_, dat⟩ hi2 fun h1 out hT hz hk1 => ?_
    refine ⟨_, rfl, wpAny_letOwnedTupleGo_items (s := { s with heap := h1 }) out fun h2 iter2 sb => ?_⟩
    have hT2 : h2.get? s.heap.objs.size = some { cls := .type "tuple", data := .seq #[es'[i].key, es'[i].val] } := (sb.2 _ (Nat.ne_of_gt lt_it)).trans hT
    have new : ObjOk X.prog X.w (upd H s.heap.objs.size (.tup [.ref q, kvs[i].2])) h2 s.heap.objs.size (.tup [.ref q, kvs[i].2]) :=
      ⟨by show 2 ≤ sizeLine; decide, [es'[i].key, es'[i].val], .cons key (.cons rel .nil), ⟨_, hT2, rfl, _, rfl⟩⟩
    have J2 : Inv X own σ (upd H s.heap.objs.size (.tup [.ref q, kvs[i].2])) { s with heap := h2 } :=
      J.turnedNew (t' := s.toks) (ch := [it]) (fun b ob hb e => (sb.2 b (by simpa using hb)).trans (hk1 b ob (by simpa using hb) e)) hf (Nat.le_refl _) new
    refine ⟨.ref s.heap.objs.size, _, J2, rfl, ⟨_, q, kvs[i].1, kvs[i].2, hk, rfl, hq, J.hok.fresh (Nat.le_refl _), rfl⟩, ⟨es'[i].key, es'[i].val, by rw [← hsz]; exact iter2⟩, fun b hb => ?_⟩
    cases (show b = it by simpa using hb)
    rw [upd_ne (Nat.ne_of_lt lt_it)]
    exact (hf _ (by simp)).1
  done := by
    rintro X rfl rfl rfl hc i own s σ H E J hf ⟨ok, ov, iter⟩ ⟨hd, hi⟩
    obtain ⟨notSys, at_, exact_, es', ep', dat, hsz, ent⟩ := frzT_all J hd
    obtain ⟨e1, e2⟩ := dict_ep hod dat
    subst e1 e2
    obtain ⟨f0, f1, f2, f3, f4, f5⟩ := hf it (by simp)
    rw [← hsz] at iter
    exact DT.endI (J.ok.hd hc) iter ⟨o, at_, exact_, dat⟩ (by omega) fun h' eb => ⟨rfl, J.turned (t' := s.toks) (fun b ob hb e => eb b ob hb e) f0 f1 f3 f4 f5⟩
  self := fun A i s Q E ⟨_, _, e⟩ h => PySem.W.kcp_self e h
end
section
variable {X : Cx} {e : Expr} {td : TE} {apos cpos : Pos}
/-- the dict is locked -/
def iPairsT (td : TE) : TI := fun σ H R => td σ H fun x H1 => ∃ d o kvs, x = .ref d ∧ H1 d = some (.frz o (.dT kvs)) ∧ R (ItiT d o kvs) H1
theorem pi_pairsT {elts : List Expr} {kk : Nat} {tpos : Pos} (he : PE X e td) (hbase : attributeBase e "items" X.env (eval e X.env) = eval e X.env := by rfl) (hline : (apos.endLine == cpos.line) = true := by rfl) :
    PI X (.Tuple elts kk tpos) (.Call (.Attribute e "items" apos) [] [] cpos) (iPairsT td) := by
  constructor
  intro own s σ H R J h
  refine wpAny_Call_method (T := "dict") (id := "dict.items") hbase rfl hline F.plainAttrs_dict F.slot_dict_items F.type_dict_items (thn (he.run own s σ H _ J h) ?_)
  rintro u s1 ⟨x, H1, J1, rel, d, o, kvs, rfl, hd, q⟩
  cases (show u = Value.ref d from rel)
  obtain ⟨notSys, at_, exact_, es, ep, dat, hsz, _⟩ := frzT_all J1 hd
  have raw : DT.Raw s1.heap d es ep := ⟨o, at_, exact_, dat⟩
  have J2 : Inv X own σ H1 { s1 with heap := s1.heap.push { cls := .type "dict_items", data := .fields #[.ref d] } } := J1.kept (t' := s1.toks) fun b ob e => Heap.get?_push_of_some _ e
  have fin : wpAny (model X.prog X.w) X.A (pyIter (.ref s1.heap.objs.size)) (PIE X own σ (.Tuple elts kk tpos) R) X.xe { s1 with heap := s1.heap.push { cls := .type "dict_items", data := .fields #[.ref d] } } := by
    refine DT.iterI (s := { s1 with heap := s1.heap.push { cls := .type "dict_items", data := .fields #[.ref d] } }) ⟨_, Heap.get?_push_size _ rfl, rfl, rfl⟩ (raw.push _) (pi_one (tk := s1.toks) J2 _ (turn_pairsT _ dat) ⟨.none, .none, ?_⟩ q)
    rw [← hsz]
    exact Heap.get?_push_size _ rfl
  have noD : ∀ b, Value.ref d = .ref b → ∃ ob, s1.heap.get? b = some ob ∧ ob.dict = none := fun b z => by cases z; exact ⟨o, at_, exact_.2.1⟩
  refine ⟨raw.typeIs, noD, ?_⟩
  show wpAny _ _ (callWith cpos (.builtin "dict.items") [.ref d] [] []) _ X.xe s1
  exact method_meetsIn F.slot_dict_items F.entry_dict_items rfl (PySem.evalArgs_none ⟨rfl, raw.typeIs, F.args_dict_items_1 _, _, DT.meetsItems (es := es) (ep := ep) notSys, raw, fin⟩)
end

/-! ### d.items(), of a dict of whatever keys -/
/-- the tuple at an address is told of -/
theorem tup_told {w : Wd} {H : Hp} {O : OO} {q : Addr} {xs : List V} (ro : RelO w H O) (h : H q = some (.tup xs)) : ∃ w', Ext w w' ∧ RelO w' H O ∧ w' q = some (.frz (.tup xs)) := by
  cases e : w q with
  | none =>
    have no : O q = none := by
      cases z : O q with
      | none => rfl
      | some m =>
        obtain ⟨u, e1, p⟩ := (ro.own _ _ z).notbl
        rw [h] at e1
        cases e1
        exact absurd rfl (p.2.2 xs)
    exact ⟨_, ext_put (c := .frz (.tup xs)) e, ro.tell e no h, put_same⟩
  | some c =>
    have k := ro.cell _ _ e
    have nx := ro.nx _ _ e
    refine ⟨w, Ext.refl _, ro, ?_⟩
    cases c with
    | frz u => have k : H q = some u := k; rw [h] at k; cases k; exact e
    | fix u => have k : H q = some u := k; rw [h] at k; cases k; exact absurd rfl (nx.2.2 xs)
    | own u => have k : H q = some u := k; rw [h] at k; cases k; exact absurd rfl (nx.2.2 xs)
    | tape => obtain ⟨_, e1, _⟩ := k; rw [h] at e1; cases e1
    | tab _ => obtain ⟨_, e1, _⟩ := k; rw [h] at e1; cases e1
theorem RepT.get {w : Wd} : ∀ {kvs us} {i : Nat} {k d}, RepT w kvs us → kvs[i]? = some (k, d) → ∃ v, us[i]? = some (k, v) ∧ Rep w d v
  | _, _, _, _, _, .nil, e => by simp at e
  | _, _, 0, _, _, .cons h _, e => by simp at e; obtain ⟨rfl, rfl⟩ := e; exact ⟨_, rfl, h⟩
  | _, _, i + 1, _, _, .cons _ r, e => by
    obtain ⟨v, h1, h2⟩ := RepT.get (i := i) r (by simpa using e)
    exact ⟨v, by simpa using h1, h2⟩
theorem reps_keys {w : Wd} : ∀ (k : List Key), Reps w (k.map keyE) (k.map kV)
  | [] => .nil
  | x :: r => .cons (rep_keyE x) (reps_keys r)
theorem wk_pairsT {st : Bool} {w : Wd} {C : OO → Prop} {d : Addr} {o : Obj} {us : List (List Key × V)} {kvs : List (List Key × D)} (hl : ∀ w' H O, Ord st w w' → RelO w' H O → C O → H d = some (.frz o (.dT us)) ∧ RepT w' kvs us) :
    Wk st w (ItiT d o us) (kvs.map fun kv => .tup [.tup (kv.1.map keyE), kv.2]) C := by
  intro w' H O i s ro c
  obtain ⟨hd, r⟩ := hl w' H O s ro c
  refine ⟨fun hi => ⟨hd, by rw [hi, List.length_map, r.length]; exact Nat.le_refl _⟩, fun x hx => ?_⟩
  rw [List.getElem?_map] at hx
  obtain ⟨⟨k, y⟩, hk, rfl⟩ := Option.map_eq_some_iff.mp hx
  obtain ⟨v, hv, rv⟩ := r.get hk
  refine ⟨⟨hd, (List.getElem?_eq_some_iff.mp hv).1⟩, fun x H' ⟨T, q, k', v', hk', ex, hq, hT, eh⟩ => ?_⟩
  subst eh ex
  rw [hv] at hk'
  cases hk'
  obtain ⟨w2, x2, r2, hq2⟩ := tup_told ro hq
  obtain ⟨s3, r3⟩ := r2.newZ (u := .tup [.ref q, v]) hT
  exact ⟨_, x2.trans s3, r3, .tup put_same (.cons (.tup (s3 _ _ hq2) (reps_keys k)) (.one (rv.mono (x2.trans s3).l)))⟩
def dctM (a : Addr) (O : OO) (K : List (List Key × D) → (OO → Prop) → OO → Prop) : Option MO → Prop
  | some (.lkt od us kvs) => K kvs (fun O => O a = some (.lkt od us kvs)) O
  | _ => False
def dctI (d : BV) (O : OO) (K : List (List Key × D) → (OO → Prop) → OO → Prop) : Prop := match d with
  | .d (.dct kvs) => K kvs (fun _ => True) O
  | .c false (.ldct kvs) => K kvs (fun _ => True) O
  | .d (.ref a) => dctM a O K (O a)
  | _ => False
theorem dctI_ok {w : Wd} {H : Hp} {O : OO} {d : BV} {v : V} {K : List (List Key × D) → (OO → Prop) → OO → Prop} (ro : RelO w H O) (r : BRep w d v) (q : dctI d O K) : ∃ p o us kvs C, v = .ref p ∧ H p = some (.frz o (.dT us)) ∧ K kvs C O ∧
    ∀ w' H O, ExtS w w' → RelO w' H O → C O → H p = some (.frz o (.dT us)) ∧ RepT w' kvs us := by
  unfold dctI at q
  split at q
  · cases r.toD with
    | dct e r2 => exact ⟨_, _, _, _, _, rfl, ro.frz e, q, fun w' H O s ro _ => ⟨ro.frz (s.l.frz _ _ e), r2.mono s.l⟩⟩
  · cases r with
    | fix e c =>
      obtain ⟨o, us, rfl, r2⟩ := c
      exact ⟨_, _, _, _, _, rfl, ro.cell _ _ e, q, fun w' H O s ro _ => ⟨ro.cell _ _ (s _ _ e (fun _ z => by cases z)), r2.mono s.l⟩⟩
  · rename_i a
    cases r.toD
    unfold dctM at q
    split at q
    · rename_i e
      exact ⟨_, _, _, _, _, rfl, (ro.own _ _ e).1, q, fun w' H O s ro c => ro.own _ _ c⟩
    · exact q.elim
  · exact q.elim
/-- the pairs of a dict, whatever its keys -/
def wiItT (W : WE) : WI := fun s O K => W s O fun d O1 => dctI d O1 fun kvs C O2 => K (kvs.map fun kv => .tup [.tup (kv.1.map keyE), kv.2]) C O2
def wiItA (W : WE) : WI := fun s O K => wiIt W s O K ∨ wiItT W s O K
section
variable {st : Bool} {X : Cx} {P : PX} {e : Expr} {W : WE} {apos cpos tpos : Pos} {elts : List Expr} {kk : Nat}
theorem di_itemsT (h : DE X P e W) (hbase : attributeBase e "items" X.env (eval e X.env) = eval e X.env := by rfl) (hline : (apos.endLine == cpos.line) = true := by rfl) :
    DI st X P (.Tuple elts kk tpos) (.Call (.Attribute e "items" apos) [] [] cpos) (wiItT W) := by
  obtain ⟨t, q, h⟩ := h.ex
  refine ⟨_, pi_pairsT q hbase hline, fun w σ s H O K R rs ro w0 k => ?_⟩
  refine h _ _ _ _ _ _ _ rs ro w0 fun v H1 Z1 d O1 s1 r1 e1 w1 => ?_
  obtain ⟨p, o, us, kvs, C, rfl, hp, w2, hC⟩ := dctI_ok r1 e1 w1
  exact ⟨p, o, us, rfl, hp, k _ _ _ _ _ _ s1 r1 w2 (wk_pairsT fun w' H O s => hC w' H O s.s)⟩
theorem di_itemsA (h : DE X P e W) (hbase : attributeBase e "items" X.env (eval e X.env) = eval e X.env := by rfl) (hline : (apos.endLine == cpos.line) = true := by rfl) :
    DI st X P (.Tuple elts kk tpos) (.Call (.Attribute e "items" apos) [] [] cpos) (wiItA W) := by
  obtain ⟨t, q, k⟩ := (di_items (st := st) (elts := elts) (kk := kk) (tpos := tpos) h hbase hline).ex
  obtain ⟨t2, q2, k2⟩ := (di_itemsT (st := st) (elts := elts) (kk := kk) (tpos := tpos) h hbase hline).ex
  exact ⟨_, pi_union q q2, fun w σ s H O K R rs ro w0 f => w0.elim (fun w0 => .inl (k _ _ _ _ _ _ _ rs ro w0 f)) fun w0 => .inr (k2 _ _ _ _ _ _ _ rs ro w0 f)⟩
end
end VD

set_option Elab.async false
set_option linter.all false
set_option maxRecDepth 100000
set_option maxHeartbeats 1000000
/-! VD: == and != of tuples that hold dicts -/
namespace PySem.SeqAt
open AutoSeq1 (wpAny_loadPart')
open MeetsSeq MeetsSeq2 MeetsSeq3 SeqRoads2
section
variable {prog : Program} {w : World}
/-- all places alike, and as many -/
def sameB (m n k : Nat) (e : Nat → Bool) (i : Nat) : Bool := ((List.range m).drop i).all e && n == k
theorem tuple_neIn (l b : Addr) (xs ys : Array Value) (n n2 : Nat) (dd dd2 : Option Addr) (sl sl2 : Array (Option Value)) (e : Nat → Bool) :
    MeetsIn prog w (Builtin.«tuple.__ne__» ⟨[.ref l, .ref b], []⟩)
      (fun A R s => s.heap.get? l = some { cls := .type "tuple", dict := dd, data := .seq xs n, slots := sl } ∧ s.heap.get? b = some { cls := .type "tuple", dict := dd2, data := .seq ys n2, slots := sl2 } ∧
        (∀ j (h1 : j < xs.size) (h2 : j < ys.size), EqIn prog w A.in1 s xs[j] ys[j] (e j)) ∧ R (.ok (.ret (.bool (!sameB (min xs.size ys.size) xs.size ys.size e 0)))) s) :=
  .of_wp fun A R s ⟨hl, hb, he, h⟩ => by
    obtain ⟨hp, g, d, tk, os⟩ := s
    have ft := AutoSeq1.sub_tuple_tuple
    have len : (xs.toList.zip ys.toList).length = min xs.size ys.size := by simp
    wp_walk using wpAny_loadPart' hl, wpAny_loadPart' hb, wpAny_forIn_list _ (fun rest c s' => c.1 = none ∧ s' = ⟨hp, g, d, tk, os⟩ ∧ ∃ i, rest = (xs.toList.zip ys.toList).drop i ∧ R (.ok (.ret (.bool (!sameB (min xs.size ys.size) xs.size ys.size e i)))) ⟨hp, g, d, tk, os⟩) _
    case turn =>
      rintro ⟨y, x⟩ rest c s' ⟨hc, rfl, i, hz, hR⟩
      have hi : i < (xs.toList.zip ys.toList).length := by
        rcases Nat.lt_or_ge i (xs.toList.zip ys.toList).length with q | q
        · exact q
        · rw [List.drop_of_length_le q] at hz; cases hz
      have hm : i < min xs.size ys.size := len ▸ hi
      have i1 := Nat.lt_of_lt_of_le hm (Nat.min_le_left _ _)
      have i2 := Nat.lt_of_lt_of_le hm (Nat.min_le_right _ _)
      rw [List.drop_eq_getElem_cons hi] at hz
      injection hz with hp2 hrest
      obtain rfl : y = xs[i] := by simpa using congrArg Prod.fst hp2
      obtain rfl : x = ys[i] := by simpa using congrArg Prod.snd hp2
      have step : sameB (min xs.size ys.size) xs.size ys.size e i = (e i && sameB (min xs.size ys.size) xs.size ys.size e (i + 1)) := by
        unfold sameB
        rw [show (List.range (min xs.size ys.size)).drop i = i :: (List.range (min xs.size ys.size)).drop (i + 1) by simp [List.drop_eq_getElem_cons, hm], List.all_cons, Bool.and_assoc]
      rw [step] at hR
      refine wpAny_bind (he i i1 i2 _ _ ?_)
      cases hy : e i with
      | true => rw [hy] at hR; wp_walk; exact ⟨rfl, rfl, i + 1, hrest, by simpa using hR⟩
      | false => rw [hy] at hR; wp_walk; exact ⟨_, rfl, by simpa using hR⟩
    case fin =>
      rintro ⟨c1, c2⟩ s' ⟨hc, rfl, i, hz, hR⟩
      simp only at hc
      subst hc
      have hge : min xs.size ys.size ≤ i := by
        rcases Nat.lt_or_ge i (xs.toList.zip ys.toList).length with q | q
        · rw [List.drop_eq_getElem_cons q] at hz; cases hz
        · exact len ▸ q
      unfold sameB at hR
      rw [List.drop_of_length_le (by simpa using hge)] at hR
      wp_walk
      exact ⟨_, rfl, by simpa [Builtin.Tuple.tupleCompareSizes, bne] using hR⟩
    case h => exact ⟨rfl, rfl, 0, rfl, h⟩
theorem neIn_tuples {A : Around} {s : Shared} {E : Value → Shared → Prop} {l b : Addr} {xs ys : Array Value} {e : Nat → Bool} {Q : Value → Shared → Prop} (hl : s.heap.IsTuple l xs) (hb : s.heap.IsTuple b ys) (hu : A.units < cLine)
    (he : ∀ j (h1 : j < xs.size) (h2 : j < ys.size), EqIn prog w A.in1 s xs[j] ys[j] (e j)) (h : Q (.bool (!sameB (min xs.size ys.size) xs.size ys.size e 0)) s) : wpAny (model prog w) A (richCompare .NotEq (.ref l) (.ref b)) Q E s := by
  obtain ⟨⟨c1, d1, dat1, s1⟩, o1, k1, n1, e1⟩ := id hl
  obtain ⟨⟨c2, d2, dat2, s2⟩, o2, k2, n2, e2⟩ := id hb
  simp only at k1 e1 k2 e2
  subst k1 e1 k2 e2
  exact wpAny_richCompare_same_room (T := "tuple") (op := .NotEq) ⟨_, o1, rfl⟩ ⟨_, o2, rfl⟩ F.slot_tuple_ne (call_meetsIn F.slot_tuple_ne ⟨_, o1, rfl⟩ F.entry_tuple_ne (F.args_tuple_ne_2 _ _) (tuple_neIn l b xs ys n1 n2 d1 d2 s1 s2 e)
    ⟨o1, o2, he, show Value.bool _ ≠ Value.notImplemented ∧ Q (.bool _) s from ⟨(fun x => nomatch x), h⟩⟩) hu
end
end PySem.SeqAt
namespace VD
open PySem PySem.Spec PyProof.Rows L2
section
variable {X : Cx}
def rEqP (f : Bool → Bool) : R2 := fun x y H Q => ∃ w xs ys, SubW w H ∧ Rep w (.tup xs) x ∧ Rep w (.tup ys) y ∧ cmpL xs ys = true ∧ dpD (.tup xs) ≤ 60 ∧ Q (.bl (f (eqvD (.tup xs) (.tup ys)))) H
theorem same_eqv {f : Nat → Bool} {n k : Nat} {b : Bool} (h : ((List.range (min n k)).all f && n == k) = b) : PySem.SeqAt.sameB (min n k) n k f 0 = b := h
theorem op_neP (hu : X.A.units + 64 < cLine) : OpR X (compareOp .NotEq) (rEqP (!·)) := by
  intro pins s σ H x y v u Q I rx ry h
  obtain ⟨w, xs, ys, sub, r1, r2, c, hd, q⟩ := h
  cases r1 with
  | @tup p vs _ z r =>
  cases r2 with
  | @tup p2 ws _ z2 k =>
    cases (show v = Value.ref p from rx)
    cases (show u = Value.ref p2 from ry)
    obtain ⟨us, rl, pl, _⟩ := I.tuple (H := H) (.inl (.inl (sub _ _ z)))
    obtain ⟨us2, rl2, pl2, _⟩ := I.tuple (H := H) (.inl (.inl (sub _ _ z2)))
    obtain ⟨f, hf, hr⟩ := eqL_run I sub xs ys X.A.in1 c (by simp only [dpD] at hd; show X.A.units + 1 + _ < _; omega) r k rl rl2
    refine PySem.SeqAt.neIn_tuples pl pl2 (by omega) (fun j h1 h2 => hf j (by simpa using h1) (by simpa using h2)) ?_
    rw [List.size_toArray, List.size_toArray, ← rl.length, ← rl2.length, ← r.length, ← k.length, same_eqv hr]
    exact ⟨.bl _, H, I, rfl, q⟩
theorem op_eqP (hu : X.A.units + 64 < cLine) : OpR X (compareOp .Eq) (rEqP id) := by
  intro pins s σ H x y v u Q I rx ry h
  obtain ⟨w, xs, ys, sub, r1, r2, c, hd, q⟩ := h
  cases r1 with
  | @tup p vs _ z r =>
  cases r2 with
  | @tup p2 ws _ z2 k =>
    cases (show v = Value.ref p from rx)
    cases (show u = Value.ref p2 from ry)
    obtain ⟨us, rl, pl, _⟩ := I.tuple (H := H) (.inl (.inl (sub _ _ z)))
    obtain ⟨us2, rl2, pl2, _⟩ := I.tuple (H := H) (.inl (.inl (sub _ _ z2)))
    obtain ⟨f, hf, hr⟩ := eqL_run I sub xs ys X.A.in1 c (by simp only [dpD] at hd; show X.A.units + 1 + _ < _; omega) r k rl rl2
    refine PySem.SeqAt.rcIn_tuples pl pl2 (by omega) (fun j h1 h2 => hf j (by simpa using h1) (by simpa using h2)) ?_
    rw [List.size_toArray, List.size_toArray, ← rl.length, ← rl2.length, ← r.length, ← k.length, hr]
    exact ⟨.bl _, H, I, rfl, q⟩
/-- what ==, != ask: plain data, two dicts, or two tuples -/
def isTupD : D → Bool | .tup _ => true | _ => false
theorem tup_ex {d} (h : isTupD d = true) : ∃ xs, d = .tup xs := by cases d <;> first | exact ⟨_, rfl⟩ | cases h
def eqC2 (d e : D) : Prop := eqC d e ∨ (dpD d ≤ 60 ∧ isTupD d = true ∧ isTupD e = true ∧ cmpD d e = true)
def wEq2 : DOF := fun x y O Q => eqB x fun d => eqB y fun e => eqC2 d e ∧ Q (.d (.bl (eqvD d e))) O
def wNe2 : DOF := fun x y O Q => eqB x fun d => eqB y fun e => eqC2 d e ∧ Q (.d (.bl (!eqvD d e))) O
theorem cmp_tup {xs ys : List D} (h : cmpD (.tup xs) (.tup ys) = true) : cmpL xs ys = true := by simpa [cmpD] using h
theorem o_eq2 (hu : X.A.units + 64 < cLine) : DOp X (compareOp .Eq) wEq2 := by
  refine ⟨_, OpR.or (op_eqT hu) (op_eqP hu), fun w H O x y vx vy Q R ro rx ry q po => ?_⟩
  obtain ⟨d, r1, q⟩ := eqB_ok rx q
  obtain ⟨e, r2, c, q⟩ := eqB_ok ry q
  rcases c with c | ⟨h1, h2, h3, h4⟩
  · exact .inl ⟨_, d, e, view_sub ro, r1, r2, c, po _ _ _ _ _ (Ext.refl _) ro (.d .bl) q⟩
  · obtain ⟨xs, rfl⟩ := tup_ex h2
    obtain ⟨ys, rfl⟩ := tup_ex h3
    exact .inr ⟨_, xs, ys, view_sub ro, r1, r2, cmp_tup h4, h1, po _ _ _ _ _ (Ext.refl _) ro (.d .bl) q⟩
theorem o_ne2 (hu : X.A.units + 64 < cLine) : DOp X (compareOp .NotEq) wNe2 := by
  refine ⟨_, OpR.or (op_neT hu) (op_neP hu), fun w H O x y vx vy Q R ro rx ry q po => ?_⟩
  obtain ⟨d, r1, q⟩ := eqB_ok rx q
  obtain ⟨e, r2, c, q⟩ := eqB_ok ry q
  rcases c with c | ⟨h1, h2, h3, h4⟩
  · exact .inl ⟨_, d, e, view_sub ro, r1, r2, c, po _ _ _ _ _ (Ext.refl _) ro (.d .bl) q⟩
  · obtain ⟨xs, rfl⟩ := tup_ex h2
    obtain ⟨ys, rfl⟩ := tup_ex h3
    exact .inr ⟨_, xs, ys, view_sub ro, r1, r2, cmp_tup h4, h1, po _ _ _ _ _ (Ext.refl _) ro (.d .bl) q⟩
end
end VD

set_option Elab.async false
set_option linter.all false
set_option maxRecDepth 100000
set_option maxHeartbeats 1000000
/-! VD: sorted of texts, any number of them -/
namespace VD
open PySem PySem.Spec PyProof.Rows L2
section
variable {X : Cx}
def rSortedSA (K : PySem.W.Frag) : List V → Hp → VK → Prop := fun vs H Q => ∃ (a : Addr) (xs : List Str), vs = [V.ref a] ∧ SqL K H a (xs.map V.str) ∧ ∀ ys p, ys.Perm xs → sortedS ys = true → H p = none → Q (.ref p) (upd H p (.lst (ys.map V.str)))
theorem cr_sortedSA : CallR X (.builtin "sorted") (rSortedSA X.K) := by
  rintro own s σ H vs us Q J rel ⟨a, xs, rfl, seq, q⟩
  obtain ⟨its, rv, isl, hz⟩ := J.list seq
  have len := rv.length
  rw [List.length_map] at len
  rw [Vals.ref1 rel]
  refine PyProof.Rows.sorted_strsAny isl.isList rv.strs (by rw [← rv.length]; exact hz) fun out ys h1 h2 h3 => ?_
  obtain ⟨ep, at_⟩ := PyProof.Rows.sortedAll_at s.heap its out
  have hl : (ys.map V.str).length ≤ sizeLine := by
    rw [List.length_map, h2.length_eq]
    rw [List.length_map] at hz
    exact hz
  refine ⟨.ref _, _, ?_, rfl, q ys _ h2 h3 (J.hok.fresh (Nat.le_succ _))⟩
  exact J.laid (t' := s.toks) (fun _ _ => PyProof.Rows.sortedAll_old) (Nat.le_succ _) ⟨hl, out.toList, ep, vals_of_strs h1, at_⟩
theorem call_sortedDA (hc : X.calm = true) : CallR X (.builtin "sorted") (fun xs H Q => ∃ (a : Addr) (kvs : List (Key × V)) (ks : List Str), xs = [.ref a] ∧ Rd H a (.dK kvs) ∧ kvs.map (·.1) = ks.map Sum.inr ∧
    ∀ ys p, ys.Perm ks → sortedS ys = true → H p = none → Q (.ref p) (upd H p (.lst (ys.map V.str)))) := by
  rintro own s σ H xs us Q J rel ⟨a, kvs, ks, rfl, hd, hks, q⟩
  obtain ⟨u, rfl, rx⟩ := vals1 rel
  cases (show u = Value.ref a from rx)
  obtain ⟨z, lo, vs, kv, dd⟩ := dk_rd J.hok hd
  obtain ⟨ep, at_⟩ := dd.dictAt
  have keys : vs.map (·.1) = ks.map Sum.inr := kv.keys.symm.trans hks
  have len : vs.length = ks.length := by simpa using congrArg List.length keys
  have small : vs.length ≤ sizeLine := by rw [← Paired.length kv]; exact z
  refine Calls.call_function_entry PyProof.Rows.kind_sorted PyProof.Rows.plain_sorted PyProof.Rows.entry_sorted (PyProof.Rows.args_sorted1 _) ?_
  unfold Builtin.«sorted»
  refine wpAny_bind (m := checkCount "sorted" 1 1 _) (wpAny_pure (wpAny_bind (PySem.W.kdu_collect (A := X.A.in1) (PySem.W.kdl_dict (knd := mixKind X.prog X.w) (kvs := vs) (ep := ep) lo) (J.ok.hd hc) at_ small fun h1 tk acc kept acc_ok => ?_)))
  have accL : acc.toList.length = ks.length := by rw [Array.length_toList, acc_ok.1, len]
  have txts : StrsAre acc.toList ks := strs_at accL fun j v e => by
    obtain ⟨k, x, e1, e2⟩ := acc_ok.2 j v (by rw [← Array.getElem?_toList]; exact e)
    have e3 : (ks.map Sum.inr)[j]? = some k := by rw [← keys, List.getElem?_map, e1]; rfl
    rw [List.getElem?_map] at e3
    obtain ⟨y, e4, rfl⟩ := Option.map_eq_some_iff.mp e3
    obtain ⟨t, ev⟩ := Value.isStrOf_shape (x := y) (v := v) e2
    exact ⟨y, t, e4, ev⟩
  have accZ : acc.toList.length ≤ sizeLine := by rw [accL, ← len]; exact small
  have J1 : Inv X own σ H { s with heap := h1, toks := tk } := J.kept kept
  refine wpAny_bind (wpAny_newList ?_ accZ)
  have new : (h1.push (seqObj "list" acc.toList.toArray 0)).get? h1.objs.size = some (seqObj "list" acc.toList.toArray 0) := Heap.get?_push_size _ rfl
  show wpAny _ _ _ _ _ { s with heap := h1.push (seqObj "list" acc.toList.toArray 0), toks := tk }
  refine wpAny_bind (wpAny_holding (wpAny_call_entry PyProof.Rows.slot_list_sort ⟨_, new, rfl⟩ PyProof.Rows.entry_list_sort ?_ (PyProof.Rows.args_list_sort _)))
  refine list_sort_treeKAny strKind_oneLt (s := { s with heap := h1.push (seqObj "list" acc.toList.toArray 0), toks := tk }) new txts.keysOf (fun v₁ v₂ rest e => keyKind_strs (by rw [← e]; exact txts)) accZ fun st hp hs => ⟨_, rfl, ?_⟩
  obtain ⟨ys, g1, g2, g3⟩ := sorted_out_str txts hp hs
  obtain ⟨e', at2⟩ := PyProof.Rows.sortedHeap_at (vs := acc.toList) (out := (arrOf st).map (·.2)) new
  have hl : (ys.map V.str).length ≤ sizeLine := by rw [List.length_map, g2.length_eq, ← len]; exact small
  have ok : ObjOk X.prog X.w (upd H h1.objs.size (.lst (ys.map V.str))) (PyProof.Rows.sortedHeap (h1.push (seqObj "list" acc.toList.toArray 0)) h1.objs.size acc.toList ((arrOf st).map (·.2))) h1.objs.size (.lst (ys.map V.str)) :=
    ⟨hl, ((arrOf st).map (·.2)).toList, e', vals_of_strs g1, by rw [Array.toArray_toList]; exact at2⟩
  refine wpAny_pure ⟨_, rfl, .ref h1.objs.size, _, J1.laid (t' := tk) (fun b u e => ?_) (Nat.le_refl _) ok, rfl, q ys _ g2 g3 (J1.hok.fresh (Nat.le_refl _))⟩
  have lt := Heap.lt_size e
  rw [PyProof.Rows.sortedHeap_old (Nat.ne_of_lt lt) (by rw [size_push']; exact Nat.lt_succ_of_lt lt)]
  exact Heap.get?_push_of_some _ e
/-- sorted(x): ints, texts, a dict of such keys (ints: fewer than 64) -/
def wSorted2 : NLF := n1 fun d O Q =>
  (∃ es ns, asL d O = some es ∧ asI es = some ns ∧ Q (.lst ((sortI ns).map D.int)) O) ∨
  (∃ es ns, asL d O = some es ∧ asStr es = some ns ∧ Q (.lst ((sortS ns).map D.str)) O) ∨
  (∃ kvs ns, asK d O = some kvs ∧ keysI (kvs.map (·.1)) = some ns ∧ ns.length < 64 ∧ Q (.lst ((sortI ns).map D.int)) O) ∨
  (∃ kvs ns, asK d O = some kvs ∧ keysS (kvs.map (·.1)) = some ns ∧ Q (.lst ((sortS ns).map D.str)) O)
theorem c_sorted2 (hc : X.calm = true) : NCall X (.builtin "sorted") wSorted2 := by
  refine ⟨_, (CallR.or cr_sortedI cr_sortedSA).or (CallR.or (call_sortedDI hc) (call_sortedDA hc)), fun w H O ds vs Q R ro rr q po => ?_⟩
  obtain ⟨d, rfl, q⟩ := n1_ex q
  obtain ⟨v, rfl, r⟩ := rr.one_ex
  have outI : ∀ ns, Q (.lst ((sortI ns).map D.int)) O → ∀ b, H b = none → R (.ref b) (upd H b (.lst ((sortI ns).map V.int))) := fun ns q b hb =>
    po b _ _ _ (.lst ((sortI ns).map D.int)) _ (Ext.refl _) (ro.newC hb) (ro.freeW hb) (ro.free hb) upd_same ⟨_, rfl, Reps.of_ints _⟩ q
  have outS : ∀ ns, Q (.lst ((sortS ns).map D.str)) O → ∀ b, H b = none → R (.ref b) (upd H b (.lst ((sortS ns).map V.str))) := fun ns q b hb =>
    po b _ _ _ (.lst ((sortS ns).map D.str)) _ (Ext.refl _) (ro.newC hb) (ro.freeW hb) (ro.free hb) upd_same ⟨_, rfl, Reps.of_strs _⟩ q
  rcases q with ⟨es, ns, he, hn, q⟩ | ⟨es, ns, he, hn, q⟩ | ⟨kvs, ns, he, hn, hl, q⟩ | ⟨kvs, ns, he, hn, q⟩
  · obtain ⟨p, ws, rfl, hp, r1⟩ := asL_ok ro r he
    rw [asI_ok hn] at r1
    rw [r1.ints] at hp
    exact .inl (.inl ⟨p, ns, rfl, .inl (.inl hp), fun ms b hm hs hb => by rw [sortI_of hm hs]; exact outI ns q b hb⟩)
  · obtain ⟨p, ws, rfl, hp, r1⟩ := asL_ok ro r he
    rw [asStr_ok hn] at r1
    rw [r1.strs] at hp
    exact .inl (.inr ⟨p, ns, rfl, .inl (.inl hp), fun ms b hm hs hb => by rw [sortS_of hm hs]; exact outS ns q b hb⟩)
  · obtain ⟨p, us, rfl, hp, r1⟩ := asK_ok ro r he
    exact .inr (.inl ⟨p, us, ns, rfl, hp, by rw [← r1.keys]; exact keysI_ok hn, hl, fun ms b hm hs hb => by rw [sortI_of hm hs]; exact outI ns q b hb⟩)
  · obtain ⟨p, us, rfl, hp, r1⟩ := asK_ok ro r he
    exact .inr (.inr ⟨p, us, ns, rfl, hp, by rw [← r1.keys]; exact keysS_ok hn, fun ms b hm hs hb => by rw [sortS_of hm hs]; exact outS ns q b hb⟩)
end
end VD

set_option Elab.async false
set_option linter.all false
set_option maxRecDepth 100000
/-! VD: plain walks: comprehensions and for, by what each turn does -/
namespace VD
open PySem PySem.Spec PyProof.Rows L2
/-- a list comprehension whose turns change nothing: f tells what each item gives -/
theorem lcN_run {g : WG} {Wt : WT} {We : WE} {C : OO → Prop} {s0 : SD} {K : List D → OO → Prop} {O : OO} {f : D → Option D} (hC : C O) :
    ∀ (ds acc : List D), (∀ d ∈ ds, ∀ (Ky : D → OO → Prop) (Kn : OO → Prop), (match f d with | some y => Ky y O | none => Kn O) → g d s0 O fun s2 O2 => Wt s2 O2 fun b O3 => if b = true then We s2 O3 fun y O4 => isD y fun y => Ky y O4 else Kn O3) →
      acc.length + ds.length ≤ sizeLine → K (acc ++ ds.filterMap f) O → lcN g Wt We C s0 K ds acc O
  | [], acc, _, _, hk => ⟨hC, by simpa using hk⟩
  | d :: r, acc, h, hl, hk => by
    refine ⟨hC, h d List.mem_cons_self (fun y O4 => acc.length < sizeLine ∧ lcN g Wt We C s0 K r (acc ++ [y]) O4) (fun O3 => lcN g Wt We C s0 K r acc O3) ?_⟩
    have h' := fun x hx => h x (List.mem_cons_of_mem _ hx)
    simp only [List.length_cons] at hl
    cases e : f d with
    | some y =>
      refine ⟨by omega, lcN_run hC r (acc ++ [y]) h' (by simp; omega) ?_⟩
      simpa [List.filterMap_cons, e] using hk
    | none =>
      refine lcN_run hC r acc h' (by omega) ?_
      simpa [List.filterMap_cons, e] using hk
/-- a for whose turns keep I -/
theorem forN_run {g : WG} {B : WS} {C : OO → Prop} {D' : DEnds} {O : OO} (I : List D → SD → Prop) (hC : C O) :
    ∀ (ds : List D) (s : SD), (∀ d r s, d :: r <:+ ds → I (d :: r) s → ∀ D2 : DEnds, D2.rt = D'.rt → D2.bk = D'.nx → (∀ s', I r s' → D2.nx s' O) → (∀ s', I r s' → D2.ct s' O) → g d s O fun s2 O2 => B D2 s2 O2) → (∀ s, I [] s → D'.nx s O) → I ds s → forN g B C D' ds s O
  | [], s, _, hn, hi => ⟨hC, hn s hi⟩
  | d :: r, s, h, hn, hi => by
    have ih : ∀ s', I r s' → forN g B C D' r s' O := fun s' hs' => forN_run I hC r s' (fun d' r' s'' hsuf => h d' r' s'' (hsuf.trans (List.suffix_cons d r))) hn hs'
    exact ⟨hC, h d r s (List.suffix_refl _) hi { D' with nx := forN g B C D' r, ct := forN g B C D' r, bk := D'.nx } rfl rfl ih ih⟩
end VD

set_option Elab.async false
set_option linter.all false
set_option maxRecDepth 100000
/-! VD: a dict display with one tuple key -/
namespace VD
open PySem PySem.Spec PyProof.Rows L2
section
variable {X : Cx} {P : PX} {pos : Pos} {k v : Expr}
def tDispT1 (trs : List (TE × TE)) : TE := fun σ H Q => ∀ p, H p = none → tPairs trs σ (upd H p (.dT [])) fun ps H2 => H2 p = some (.dT []) ∧ ∃ (ks : List Key) (b : Addr) (y : V), ps = [(.ref b, y)] ∧ H2 b = some (.tup (ks.map kV)) ∧ Q (.ref p) (upd H2 p (.dT [(ks, y)]))
theorem pe_dispT1 {ks : List (Option Expr)} {vs : List Expr} {trs : List (TE × TE)} (hu : (tupleKind (mixKind X.prog X.w)).room X.A) (h : PPs X pos ks vs trs) (hall : ks.all (·.isSome) = true) (hl : ks.length = vs.length) (h0 : ks ≠ []) (h15 : ks.length ≤ 15) : PE X (.Dict ks vs pos) (tDispT1 trs) := by
  refine ⟨fun pins s σ H Q I q => ?_⟩
  have hn := I.hok.fresh (Nat.le_refl s.heap.objs.size)
  have I1 := I.laid (a := s.heap.objs.size) (o := .dT []) (h' := s.heap.push { cls := .type "dict", data := .dict #[] }) (t' := s.toks) (fun _ _ q => Heap.get?_push_of_some _ q) (Nat.le_refl _) (dt_empty s.heap I.big)
  have hp := pairTrees_length ks vs X.env pos hall hl
  rw [arm_eval_Dict, zip_pairTrees ks vs X.env pos hall hl, dictDisplay_pairs _ (fun z => by rw [z] at hp; exact h0 (List.length_eq_zero_iff.mp hp.symm)) (by omega)]
  refine wpAny_bind (wpAny_standAt (wpAny_bind (wpAny_subDictH (knd := tupleKind (mixKind X.prog X.w)) hu (by omega) ?_)))
  refine thn (h.run pins _ σ _ _ I1 (q _ hn)) fun ws s2 ⟨ps, H2, I2, rel, e, kk, b, y, ep, eb, q2⟩ => ?_
  subst ep
  obtain ⟨u, rfl, ru⟩ : ∃ u, ws = [(Value.ref b, u)] ∧ RelV y u := by
    cases rel with
    | @cons _ w _ _ hd tl =>
      cases tl
      obtain ⟨w1, w2⟩ := w
      obtain ⟨h1, h2⟩ := hd
      cases (show w1 = Value.ref b from h1)
      exact ⟨w2, rfl, h2⟩
  obtain ⟨z, hd, xs, r0, dd⟩ := dt_of I2.hok e
  cases r0
  refine ⟨[(kk, b, u)], ⟨rfl, rfl, key_of I2.hok eb, True.intro⟩, dd, fun h' tk dd' hs => wpAny_pure ⟨.ref s.heap.objs.size, _, ?_, rfl, q2⟩⟩
  obtain ⟨q', es, ep, hq, h2, h3, h4, _, h5⟩ := dd'
  refine d_write I2 (by rw [e]; exact True.intro) hs ⟨q', hq⟩ ⟨by rw [sizeLine_eq]; simp, hd, [(kk, b, u)], .cons ⟨rfl, ?_, ru⟩ .nil, q', es, ep, hq, h2, h3, h4, h5⟩
  rw [upd_ne (ne_of eb e (fun z => nomatch z))]
  exact eb
def wDispT1 (Wk Wv : WE) : WN := fun s O Q => Wk s O fun y O1 => isD y fun y => Wv s O1 fun d O2 => isD d fun d => ∃ ks, keyT y = some ks ∧ Q (.dct [(ks, d)]) O2
theorem dn_dispT1 {Wk Wv : WE} (hu : X.A.units < cLine) (hk : DE X P k Wk) (hv : DE X P v Wv) : DN X P (.Dict [some k] [v] pos) (wDispT1 Wk Wv) := by
  obtain ⟨tk, qk, hk⟩ := hk.ex
  obtain ⟨tv, qv, hv⟩ := hv.ex
  refine ⟨_, pe_dispT1 hu (pps_cons qk qv pps_nil) rfl rfl (fun z => nomatch z) (by simp), fun w σ s H O Q R rs ro q po p hp => ?_⟩
  have nw := ro.freeW hp
  have no := ro.free hp
  have x0 := ext_put (c := .fix (.dT [])) nw
  refine hk _ _ _ _ _ _ _ (rs.mono x0) ((ro.newC (u := .dT []) hp).tell nw no upd_same) q fun x H1 Z1 y O1 s1 r1 e1 w1 => ?_
  obtain ⟨y, rfl, w2⟩ := isD_ex w1
  refine hv _ _ _ _ _ _ _ (rs.mono (x0.trans s1)) r1 w2 fun u H2 Z2 d O2 s2 r2 e2 w3 => ?_
  obtain ⟨d, rfl, ks, hks, q'⟩ := isD_ex w3
  have hc : Z2 p = some (.fix (.dT [])) := s2 _ _ (s1 _ _ put_same)
  obtain ⟨b, rfl, hb⟩ := keyT_ok r2 (e1.toD.mono s2.l) hks
  refine ⟨r2.cell _ _ hc, ks, b, u, rfl, hb, ?_⟩
  have r3 := r2.remCell (u' := .dT [(ks, u)]) hc
  have no' : O2 p = none := by
    cases e : O2 p with
    | none => rfl
    | some m => rw [r2.off _ _ e] at hc; cases hc
  exact po p _ _ _ (.dct [(ks, d)]) _ (ext_rem (x0.trans (s1.trans s2)) nw) r3 rem_same no' upd_same ⟨_, rfl, .cons (e2.toD.mono (rem_le ⟨_, hc⟩)) .nil⟩ q'
end
end VD

set_option Elab.async false
set_option linter.all false
set_option maxRecDepth 100000
/-! VD: a list so many times; a tuple so many times -/
namespace VD
open PySem PySem.Spec PyProof.Rows L2
def repL (xs : List D) (k : Int) : List D := (List.replicate k.toNat xs).flatten
theorem Reps.flat {w : Wd} {ds vs} (r : Reps w ds vs) : ∀ n : Nat, Reps w (List.replicate n ds).flatten (List.replicate n vs).flatten
  | 0 => .nil
  | n + 1 => by
    rw [List.replicate_succ, List.replicate_succ, List.flatten_cons, List.flatten_cons]
    exact r.append (Reps.flat r n)
section
variable {X : Cx} {P : PX}
def wRepL : BV → BV → OO → (CM → OO → Prop) → Prop := fun x y O Q => ∃ xs k, asL x O = some xs ∧ y = .d (.int k) ∧ -(2 ^ 63) ≤ k ∧ k < 2 ^ 63 ∧ xs.length * k.toNat ≤ sizeLine ∧ Q (.lst (repL xs k)) O
theorem n_repL : NOp X (binaryOp .Mult) wRepL := by
  refine ⟨_, op_rep, fun w H O x y vx vy Q R ro rx ry q po => ?_⟩
  obtain ⟨xs, k, ex, rfl, h1, h2, l, q⟩ := q
  obtain ⟨p, vs, rfl, hp, r1⟩ := asL_ok ro rx ex
  cases ry.toD
  refine ⟨p, k, vs, rfl, rfl, hp, h1, h2, by rw [← r1.length]; exact l, fun c hc => ?_⟩
  exact po c _ _ _ (.lst (repL xs k)) _ (Ext.refl _) (ro.newC hc) (ro.freeW hc) (ro.free hc) upd_same ⟨_, rfl, r1.flat _⟩ q
end
end VD

set_option Elab.async false
set_option linter.all false
set_option maxRecDepth 100000
set_option maxHeartbeats 1000000
/-! VD: plain small trees: what repr asks is there -/
namespace VD
open PySem PySem.Spec PyProof.Rows L2
mutual
/-- small leaves only -/
def plD : D → Bool
  | .int i => decide (i.natAbs < 10 ^ 12)
  | .str x => x.cps.toList.all fun c => decide (c < 16 ^ 8)
  | .tup ds => plL ds
  | .lst ds => plL ds
  | .dic kvs => plK kvs
  | .non => true
  | .bl _ => true
  | _ => false
def plL : List D → Bool
  | [] => true
  | d :: r => plD d && plL r
def plK : List (Key × D) → Bool
  | [] => true
  | (.inl i, d) :: r => decide (i.natAbs < 10 ^ 12) && plD d && plK r
  | (.inr x, d) :: r => (x.cps.toList.all fun c => decide (c < 16 ^ 8)) && plD d && plK r
end
mutual
def wgD : D → Nat
  | .int _ => 41
  | .str x => x.cps.size
  | .tup ds => wgL ds
  | .lst ds => wgL ds
  | .dic kvs => wgK kvs
  | _ => 0
def wgL : List D → Nat
  | [] => 0
  | d :: r => wgD d + 1 + wgL r
def wgK : List (Key × D) → Nat
  | [] => 0
  | (.inl _, d) :: r => 41 + wgD d + 2 + wgK r
  | (.inr x, d) :: r => x.cps.size + wgD d + 2 + wgK r
end
theorem log2_12 {i : Int} (h : i.natAbs < 10 ^ 12) : i.natAbs.log2 < 40 := by
  by_cases h0 : i.natAbs = 0
  · rw [h0]; decide
  · rw [Nat.log2_lt h0]
    exact Nat.lt_of_lt_of_le h (by decide)
theorem wg_int {i : Int} (h : i.natAbs < 10 ^ 12) : PyData.weight (.int i) ≤ 41 := by
  unfold PyData.weight
  have := log2_12 h
  split <;> omega
mutual
theorem pl_ok : ∀ d, plD d = true → datD d = true ∧ PyData.showable (toPy d) = true ∧ PyData.leavesShort 13 (toPy d) = true ∧ PyData.weight (toPy d) ≤ wgD d ∧ PyData.depth (toPy d) ≤ dpD d
  | .non, _ => by simp [datD, toPy, PyData.showable, PyData.leavesShort, PyData.weight, PyData.depth, dpD]
  | .bl _, _ => by simp [datD, toPy, PyData.showable, PyData.leavesShort, PyData.weight, PyData.depth, dpD]
  | .int i, h => by
    have h' : i.natAbs < 10 ^ 12 := by simpa [plD] using h
    have := log2_12 h'
    refine ⟨rfl, ?_, ?_, wg_int h', by simp [toPy, PyData.depth]⟩
    · simp only [toPy, PyData.showable, decide_eq_true_eq]; omega
    · simp only [toPy, PyData.leavesShort, decide_eq_true_eq]; exact PyData.shown_int_le h'
  | .str x, h => by
    refine ⟨rfl, by simp [toPy, PyData.showable], ?_, by simp [toPy, PyData.weight, wgD], by simp [toPy, PyData.depth]⟩
    simpa only [plD, toPy, PyData.leavesShort] using h
  | .tup ds, h => by
    obtain ⟨a, b, c, d, e⟩ := plL_ok ds (by simpa [plD] using h)
    simp only [datD, toPy, PyData.showable, PyData.leavesShort, PyData.weight, PyData.depth, dpD, wgD]
    exact ⟨a, b, c, d, by omega⟩
  | .lst ds, h => by
    obtain ⟨a, b, c, d, e⟩ := plL_ok ds (by simpa [plD] using h)
    simp only [datD, toPy, PyData.showable, PyData.leavesShort, PyData.weight, PyData.depth, dpD, wgD]
    exact ⟨a, b, c, d, by omega⟩
  | .dic ds, h => by
    obtain ⟨a, b, c, d, e⟩ := plK_ok ds (by simpa [plD] using h)
    simp only [datD, toPy, PyData.showable, PyData.leavesShort, PyData.weight, PyData.depth, dpD, wgD]
    exact ⟨a, b, c, d, by omega⟩
  | .ty _, h => by simp [plD] at h
  | .dct _, h => by simp [plD] at h
  | .ref _, h => by simp [plD] at h
  | .tape, h => by simp [plD] at h
theorem plL_ok : ∀ ds, plL ds = true → datL ds = true ∧ PyData.showableAll (toPyL ds) = true ∧ PyData.leavesShortAll 13 (toPyL ds) = true ∧ PyData.weightAll (toPyL ds) ≤ wgL ds ∧ PyData.depthAll (toPyL ds) ≤ dpL ds
  | [], _ => by simp [datL, toPyL, PyData.showableAll, PyData.leavesShortAll, PyData.weightAll, PyData.depthAll]
  | d :: r, h => by
    simp only [plL, Bool.and_eq_true] at h
    obtain ⟨a, b, c, e, f⟩ := pl_ok d h.1
    obtain ⟨a', b', c', e', f'⟩ := plL_ok r h.2
    simp only [datL, toPyL, PyData.showableAll, PyData.leavesShortAll, PyData.weightAll, PyData.depthAll, dpL, wgL, Bool.and_eq_true]
    exact ⟨⟨a, a'⟩, ⟨b, b'⟩, ⟨c, c'⟩, by omega, by omega⟩
theorem plK_ok : ∀ ds, plK ds = true → datK ds = true ∧ PyData.showableKv (toPyK ds) = true ∧ PyData.leavesShortKv 13 (toPyK ds) = true ∧ PyData.weightKv (toPyK ds) ≤ wgK ds ∧ PyData.depthKv (toPyK ds) ≤ dpK ds
  | [], _ => by simp [datK, toPyK, PyData.showableKv, PyData.leavesShortKv, PyData.weightKv, PyData.depthKv]
  | (.inl i, d) :: r, h => by
    simp only [plK, Bool.and_eq_true, decide_eq_true_eq] at h
    obtain ⟨a, b, c, e, f⟩ := pl_ok d h.1.2
    obtain ⟨a', b', c', e', f'⟩ := plK_ok r h.2
    have h1 := log2_12 h.1.1
    have h2 := PyData.shown_int_le h.1.1
    have h3 := wg_int h.1.1
    simp only [datK, toPyK, keyPy, PyData.showableKv, PyData.leavesShortKv, PyData.weightKv, PyData.depthKv, dpK, wgK, Bool.and_eq_true, PyData.showable, PyData.leavesShort, decide_eq_true_eq, PyData.depth]
    exact ⟨⟨a, a'⟩, ⟨⟨by omega, b⟩, b'⟩, ⟨⟨h2, c⟩, c'⟩, by omega, by omega⟩
  | (.inr x, d) :: r, h => by
    simp only [plK, Bool.and_eq_true] at h
    obtain ⟨a, b, c, e, f⟩ := pl_ok d h.1.2
    obtain ⟨a', b', c', e', f'⟩ := plK_ok r h.2
    simp only [datK, toPyK, keyPy, PyData.showableKv, PyData.leavesShortKv, PyData.weightKv, PyData.depthKv, dpK, wgK, Bool.and_eq_true, PyData.showable, PyData.leavesShort, PyData.depth, PyData.weight]
    exact ⟨⟨a, a'⟩, ⟨⟨True.intro, b⟩, b'⟩, ⟨⟨h.1.1, c⟩, c'⟩, by omega, by omega⟩
end
mutual
/-- no dict within -/
def ndD : D → Bool
  | .dic _ => false
  | .tup ds => ndL ds
  | .lst ds => ndL ds
  | _ => true
def ndL : List D → Bool
  | [] => true
  | d :: r => ndD d && ndL r
end
mutual
theorem pl_nd : ∀ d, ndD d = true → (toPy d).hasDict = false
  | .non, _ => by simp [toPy, PyData.hasDict]
  | .bl _, _ => by simp [toPy, PyData.hasDict]
  | .int _, _ => by simp [toPy, PyData.hasDict]
  | .str _, _ => by simp [toPy, PyData.hasDict]
  | .tup ds, h => by simp only [toPy, PyData.hasDict]; exact plL_nd ds (by simpa [ndD] using h)
  | .lst ds, h => by simp only [toPy, PyData.hasDict]; exact plL_nd ds (by simpa [ndD] using h)
  | .dic _, h => by simp [ndD] at h
  | .ty _, h => by simp [toPy, PyData.hasDict]
  | .dct _, h => by simp [toPy, PyData.hasDict]
  | .ref _, h => by simp [toPy, PyData.hasDict]
  | .tape, h => by simp [toPy, PyData.hasDict]
theorem plL_nd : ∀ ds, ndL ds = true → PyData.hasDictAll (toPyL ds) = false
  | [], _ => by simp [toPyL, PyData.hasDictAll]
  | d :: r, h => by
    simp only [ndL, Bool.and_eq_true] at h
    simp only [toPyL, PyData.hasDictAll, pl_nd d h.1, plL_nd r h.2, Bool.or_self]
end
/-- a small tree, shown -/
structure Small (d : D) : Prop where
  pl : plD d = true
  wg : wgD d ≤ 1048576
  dp : dpD d ≤ 60
theorem Small.ok {d : D} (h : Small d) : datD d = true ∧ showD d = true ∧ (toPy d).depth ≤ 60 ∧ (reprD d).length ≤ sizeLine := by
  obtain ⟨a, b, c, e, f⟩ := pl_ok d h.pl
  exact ⟨a, b, Nat.le_trans f h.dp, PyData.shown_fits (B := 13) (by decide) (by decide) c (Nat.le_trans e (Nat.le_trans h.wg (by decide)))⟩
theorem wRepr2_pl {d : D} {O : OO} {Q : BV → OO → Prop} (hr : refD d = true) (h : Small d) (hn : ndD d = true ∨ nlD d = true) (q : Q (.d (.str (reprD d))) O) : wRepr2 [.d d] O Q := by
  obtain ⟨a, b, c, e⟩ := h.ok
  rcases hn with hn | hn
  · left
    show wRepr1 d O Q
    cases d with
    | int i => simp [refD] at hr
    | _ => exact ⟨hr, pl_nd _ hn, a, b, c, e, q⟩
  · right
    exact ⟨hr, hn, a, b, c, e, q⟩
theorem reprL_pl {ds : List D} {K : Prop} (h : Small (.lst ds)) (hn : nlL ds = true) (q : K) : nlL ds = true ∧ datL ds = true ∧ showD (.lst ds) = true ∧ (toPy (.lst ds)).depth ≤ 60 ∧ (reprD (.lst ds)).length ≤ sizeLine ∧ K := by
  obtain ⟨a, b, c, e⟩ := h.ok
  exact ⟨hn, by simpa [datD] using a, b, c, e, q⟩
end VD

set_option Elab.async false
set_option linter.all false
set_option maxRecDepth 100000
set_option maxHeartbeats 1000000
/-! VD: sorted of a tuple of texts -/
namespace VD
open PySem PySem.Spec PyProof.Rows L2
section
variable {X : Cx} {P : PX}
def rSortedTS (K : PySem.W.Frag) : List V → Hp → VK → Prop := fun vs H Q => ∃ (a : Addr) (xs : List Str), vs = [V.ref a] ∧ SqT K H a (xs.map V.str) ∧ ∀ ys p, ys.Perm xs → sortedS ys = true → H p = none → Q (.ref p) (upd H p (.lst (ys.map V.str)))
theorem cr_sortedTS : CallR X (.builtin "sorted") (rSortedTS X.K) := by
  rintro own s σ H vs us Q J rel ⟨a, xs, rfl, seq, q⟩
  obtain ⟨its, rv, ⟨o, ho, hc, n, hd⟩, hz⟩ := J.tuple seq
  have len := rv.length
  rw [List.length_map] at len hz
  rw [Vals.ref1 rel]
  have txts : StrsAre its xs := rv.strs
  refine Calls.call_function_entry PyProof.Rows.kind_sorted PyProof.Rows.plain_sorted PyProof.Rows.entry_sorted (PyProof.Rows.args_sorted1 _) ?_
  unfold Builtin.«sorted»
  refine wpAny_bind (m := checkCount "sorted" 1 1 _) (wpAny_pure (wpAny_bind (wpAny_collect_seq a (.inr rfl) ho hc hd (fun h1 kp => ?_) (by rw [List.size_toArray]; omega))))
  have J1 : Inv X own σ H { s with heap := h1 } := J.kept (t' := s.toks) kp
  have accZ : its.length ≤ sizeLine := by omega
  show wpAny _ _ _ _ _ { s with heap := h1 }
  refine wpAny_bind (wpAny_newList ?_ (by simpa using accZ))
  have new : (h1.push (seqObj "list" its.toArray 0)).get? h1.objs.size = some (seqObj "list" its.toArray 0) := Heap.get?_push_size _ rfl
  show wpAny _ _ _ _ _ { s with heap := h1.push (seqObj "list" its.toArray 0) }
  refine wpAny_bind (wpAny_holding (wpAny_call_entry PyProof.Rows.slot_list_sort ⟨_, new, rfl⟩ PyProof.Rows.entry_list_sort ?_ (PyProof.Rows.args_list_sort _)))
  refine list_sort_treeKAny strKind_oneLt (s := { s with heap := h1.push (seqObj "list" its.toArray 0) }) new txts.keysOf (fun v₁ v₂ rest e => keyKind_strs (by rw [← e]; exact txts)) accZ fun st hp hs => ⟨_, rfl, ?_⟩
  obtain ⟨ys, g1, g2, g3⟩ := sorted_out_str txts hp hs
  obtain ⟨e', at2⟩ := PyProof.Rows.sortedHeap_at (vs := its) (out := (arrOf st).map (·.2)) new
  have hl : (ys.map V.str).length ≤ sizeLine := by rw [List.length_map, g2.length_eq]; omega
  have ok : ObjOk X.prog X.w (upd H h1.objs.size (.lst (ys.map V.str))) (PyProof.Rows.sortedHeap (h1.push (seqObj "list" its.toArray 0)) h1.objs.size its ((arrOf st).map (·.2))) h1.objs.size (.lst (ys.map V.str)) :=
    ⟨hl, ((arrOf st).map (·.2)).toList, e', vals_of_strs g1, by rw [Array.toArray_toList]; exact at2⟩
  refine wpAny_pure ⟨_, rfl, .ref h1.objs.size, _, J1.laid (t' := s.toks) (fun b u e => ?_) (Nat.le_refl _) ok, rfl, q ys _ g2 g3 (J1.hok.fresh (Nat.le_refl _))⟩
  have lt := Heap.lt_size e
  rw [PyProof.Rows.sortedHeap_old (Nat.ne_of_lt lt) (by rw [size_push']; exact Nat.lt_succ_of_lt lt)]
  exact Heap.get?_push_of_some _ e
def asTS (d : BV) : Option (List Str) := match d with
  | .d (.tup es) => asStr es
  | _ => none
/-- sorted(x), of a tuple of texts, too -/
def wSorted3 : NLF := fun ds O Q => wSorted2 ds O Q ∨ n1 (fun d O Q => ∃ ns, asTS d = some ns ∧ Q (.lst ((sortS ns).map D.str)) O) ds O Q
theorem c_sorted3 (hc : X.calm = true) : NCall X (.builtin "sorted") wSorted3 := by
  obtain ⟨t, p, h⟩ := (c_sorted2 (X := X) hc).ex
  refine ⟨_, CallR.or p cr_sortedTS, fun w H O ds vs Q R ro rr q po => ?_⟩
  rcases q with q | q
  · exact .inl (h w H O ds vs Q R ro rr q po)
  · obtain ⟨d, rfl, ns, hn, q⟩ := n1_ex q
    obtain ⟨v, rfl, r⟩ := rr.one_ex
    have outS : ∀ b, H b = none → R (.ref b) (upd H b (.lst ((sortS ns).map V.str))) := fun b hb =>
      po b _ _ _ (.lst ((sortS ns).map D.str)) _ (Ext.refl _) (ro.newC hb) (ro.freeW hb) (ro.free hb) upd_same ⟨_, rfl, Reps.of_strs _⟩ q
    unfold asTS at hn
    split at hn
    · have r := r.toD
      cases r with
      | tup e r1 =>
        rw [asStr_ok hn] at r1
        have e2 := ro.frz e
        rw [r1.strs] at e2
        exact .inr ⟨_, ns, rfl, .inl (.inl e2), fun ms b hm hs hb => by rw [sortS_of hm hs]; exact outS b hb⟩
    · cases hn
end
end VD

set_option Elab.async false
set_option linter.all false
set_option maxRecDepth 100000

/-! KM: the text by places -/
namespace KM
open PySem PySem.Spec PyProof.Rows L2 VD
def top (i : Nat) : Stmt := PySem.Challenge.pw_keptviews_k64_whole_tables_merged.main.body.getD i (.Pass ⟨0, 0, 0, 0⟩)
abbrev s_is_integer : Stmt := top 4
abbrev N_is_integer : List Str := ["thing"]
theorem sc_is_integer : FnScope N_is_integer ["thing"] (defScope s_is_integer) := ⟨rfl, rfl, rfl, by decide +kernel, rfl, by decide +kernel, by decide +kernel⟩
abbrev s_is_within : Stmt := top 5
abbrev N_is_within : List Str := ["thing", "least", "most"]
theorem sc_is_within : FnScope N_is_within ["thing", "least", "most"] (defScope s_is_within) := ⟨rfl, rfl, rfl, by decide +kernel, rfl, by decide +kernel, by decide +kernel⟩
abbrev s_is_name : Stmt := top 6
abbrev N_is_name : List Str := ["thing", "sign"]
theorem sc_is_name : FnScope N_is_name ["thing"] (defScope s_is_name) := ⟨rfl, rfl, rfl, by decide +kernel, rfl, by decide +kernel, by decide +kernel⟩
abbrev s_is_word : Stmt := top 10
abbrev N_is_word : List Str := ["thing", "sign"]
theorem sc_is_word : FnScope N_is_word ["thing"] (defScope s_is_word) := ⟨rfl, rfl, rfl, by decide +kernel, rfl, by decide +kernel, by decide +kernel⟩
abbrev s_is_value : Stmt := top 11
abbrev N_is_value : List Str := ["thing"]
theorem sc_is_value : FnScope N_is_value ["thing"] (defScope s_is_value) := ⟨rfl, rfl, rfl, by decide +kernel, rfl, by decide +kernel, by decide +kernel⟩
abbrev s_is_flat_table : Stmt := top 14
abbrev N_is_flat_table : List Str := ["thing", "name", "value"]
theorem sc_is_flat_table : FnScope N_is_flat_table ["thing"] (defScope s_is_flat_table) := ⟨rfl, rfl, rfl, by decide +kernel, rfl, by decide +kernel, by decide +kernel⟩
abbrev s_check_flat : Stmt := top 15
abbrev N_check_flat : List Str := ["table"]
theorem sc_check_flat : FnScope N_check_flat ["table"] (defScope s_check_flat) := ⟨rfl, rfl, rfl, by decide +kernel, rfl, by decide +kernel, by decide +kernel⟩
abbrev s_all_names : Stmt := top 16
abbrev N_all_names : List Str := ["tables", "found", "table"]
theorem sc_all_names : FnScope N_all_names ["tables"] (defScope s_all_names) := ⟨rfl, rfl, rfl, by decide +kernel, rfl, by decide +kernel, by decide +kernel⟩
abbrev s_difference : Stmt := top 17
abbrev N_difference : List Str := ["one", "other", "found", "name", "pair"]
theorem sc_difference : FnScope N_difference ["one", "other"] (defScope s_difference) := ⟨rfl, rfl, rfl, by decide +kernel, rfl, by decide +kernel, by decide +kernel⟩
abbrev s_merged_value : Stmt := top 18
abbrev N_merged_value : List Str := ["old", "first", "second"]
theorem sc_merged_value : FnScope N_merged_value ["old", "first", "second"] (defScope s_merged_value) := ⟨rfl, rfl, rfl, by decide +kernel, rfl, by decide +kernel, by decide +kernel⟩
abbrev s_raw_merged : Stmt := top 19
abbrev N_raw_merged : List Str := ["base", "one", "other", "found", "clashes", "name", "told"]
theorem sc_raw_merged : FnScope N_raw_merged ["base", "one", "other"] (defScope s_raw_merged) := ⟨rfl, rfl, rfl, by decide +kernel, rfl, by decide +kernel, by decide +kernel⟩
abbrev s_merged : Stmt := top 20
abbrev N_merged : List Str := ["base", "one", "other"]
theorem sc_merged : FnScope N_merged ["base", "one", "other"] (defScope s_merged) := ⟨rfl, rfl, rfl, by decide +kernel, rfl, by decide +kernel, by decide +kernel⟩
abbrev s_law_tape : Stmt := top 22
abbrev N_law_tape : List Str := ["script", "cells", "cell"]
theorem sc_law_tape : FnScope N_law_tape ["script"] (defScope s_law_tape) := ⟨rfl, rfl, rfl, by decide +kernel, rfl, by decide +kernel, by decide +kernel⟩
abbrev s_law_pick : Stmt := top 23
abbrev N_law_pick : List Str := ["tape", "many", "cell", "digit", "number"]
theorem sc_law_pick : FnScope N_law_pick ["tape", "many"] (defScope s_law_pick) := ⟨rfl, rfl, rfl, by decide +kernel, rfl, by decide +kernel, by decide +kernel⟩
abbrev s_law_any : Stmt := top 24
abbrev N_law_any : List Str := ["tape", "things"]
theorem sc_law_any : FnScope N_law_any ["tape", "things"] (defScope s_law_any) := ⟨rfl, rfl, rfl, by decide +kernel, rfl, by decide +kernel, by decide +kernel⟩
abbrev s_law_table : Stmt := top 25
abbrev N_law_table : List Str := ["tape", "names", "found", "name"]
theorem sc_law_table : FnScope N_law_table ["tape", "names"] (defScope s_law_table) := ⟨rfl, rfl, rfl, by decide +kernel, rfl, by decide +kernel, by decide +kernel⟩
abbrev s_law_turned : Stmt := top 26
abbrev N_law_turned : List Str := ["tape", "names", "table", "found", "name", "way"]
theorem sc_law_turned : FnScope N_law_turned ["tape", "names", "table"] (defScope s_law_turned) := ⟨rfl, rfl, rfl, by decide +kernel, rfl, by decide +kernel, by decide +kernel⟩
abbrev s_law_merged : Stmt := top 27
abbrev N_law_merged : List Str := ["base", "one", "other", "found", "clashes", "name", "stood", "mine", "its", "told"]
theorem sc_law_merged : FnScope N_law_merged ["base", "one", "other"] (defScope s_law_merged) := ⟨rfl, rfl, rfl, by decide +kernel, rfl, by decide +kernel, by decide +kernel⟩
abbrev s_law_word : Stmt := top 28
abbrev N_law_word : List Str := ["call", "found", "e", "flags"]
theorem sc_law_word : FnScope N_law_word ["call"] (defScope s_law_word) := ⟨rfl, rfl, rfl, by decide +kernel, rfl, by decide +kernel, by decide +kernel⟩
abbrev s_law_no_table : Stmt := top 29
abbrev N_law_no_table : List Str := ["tape", "deep", "turn", "some"]
theorem sc_law_no_table : FnScope N_law_no_table ["tape"] (defScope s_law_no_table) := ⟨rfl, rfl, rfl, by decide +kernel, rfl, by decide +kernel, by decide +kernel⟩
abbrev s_law_unlike : Stmt := top 30
abbrev N_law_unlike : List Str := ["one", "other", "found", "name"]
theorem sc_law_unlike : FnScope N_law_unlike ["one", "other"] (defScope s_law_unlike) := ⟨rfl, rfl, rfl, by decide +kernel, rfl, by decide +kernel, by decide +kernel⟩
abbrev s_law_led : Stmt := top 31
abbrev N_law_led : List Str := ["one", "told", "found", "name"]
theorem sc_law_led : FnScope N_law_led ["one", "told"] (defScope s_law_led) := ⟨rfl, rfl, rfl, by decide +kernel, rfl, by decide +kernel, by decide +kernel⟩
abbrev s_law_part : Stmt := top 32
abbrev N_law_part : List Str := ["table", "names", "name"]
theorem sc_law_part : FnScope N_law_part ["table", "names"] (defScope s_law_part) := ⟨rfl, rfl, rfl, by decide +kernel, rfl, by decide +kernel, by decide +kernel⟩
abbrev s_law_are_right : Stmt := top 33
abbrev N_law_are_right : List Str := ["tape", "names", "base", "one", "other", "kept", "told", "back", "own", "sure", "name", "some", "rest", "both_pieces", "lot"]
theorem sc_law_are_right : FnScope N_law_are_right ["tape", "names", "base", "one", "other"] (defScope s_law_are_right) := ⟨rfl, rfl, rfl, by decide +kernel, rfl, by decide +kernel, by decide +kernel⟩
abbrev s_law_bounds_right : Stmt := top 34
abbrev N_law_bounds_right : List Str := ["wide", "one", "other", "more"]
theorem sc_law_bounds_right : FnScope N_law_bounds_right [] (defScope s_law_bounds_right) := ⟨rfl, rfl, rfl, by decide +kernel, rfl, by decide +kernel, by decide +kernel⟩
abbrev s_law_word_of : Stmt := top 35
abbrev N_law_word_of : List Str := ["one", "other"]
theorem sc_law_word_of : FnScope N_law_word_of ["one", "other"] (defScope s_law_word_of) := ⟨rfl, rfl, rfl, by decide +kernel, rfl, by decide +kernel, by decide +kernel⟩
abbrev s_law : Stmt := top 36
abbrev N_law : List Str := ["script", "tape", "base", "one", "other", "turn", "names", "none", "odd", "words"]
theorem sc_law : FnScope N_law ["script"] (defScope s_law) := ⟨rfl, rfl, rfl, by decide +kernel, rfl, by decide +kernel, by decide +kernel⟩
structure TX (K : PySem.W.Frag) (mg : Str → Option Value) : Type where
  C_NoTable : Addr
  m_NoTable : mg "NoTable" = some (.ref C_NoTable)
  C_TraceError : Addr
  m_TraceError : mg "TraceError" = some (.ref C_TraceError)
  x_NoTable : XCls K mg "NoTable" C_NoTable
  X_NoTable : ExcC K C_NoTable
  ex_NoTable_TraceError : PySem.W.exmOne K (.ref C_NoTable) (.ref C_TraceError) = some true
  ki_NoTable_NoTable : PySem.W.kitOne K (.ref C_NoTable) (.ref C_NoTable) = some true
  ki_NoTable_ValueError : PySem.W.kitOne K (.ref C_NoTable) (.type "ValueError") = some true
  a_is_integer : Addr
  d_is_integer : FuncData
  F_is_integer : Fun K "is_integer" "is_integer" s_is_integer a_is_integer d_is_integer
  b_is_integer : Binds K d_is_integer ["thing"] []
  m_is_integer : mg "is_integer" = some (.ref a_is_integer)
  a_is_within : Addr
  d_is_within : FuncData
  F_is_within : Fun K "is_within" "is_within" s_is_within a_is_within d_is_within
  b_is_within : Binds K d_is_within ["thing", "least", "most"] []
  m_is_within : mg "is_within" = some (.ref a_is_within)
  a_is_name : Addr
  d_is_name : FuncData
  F_is_name : Fun K "is_name" "is_name" s_is_name a_is_name d_is_name
  b_is_name : Binds K d_is_name ["thing"] []
  m_is_name : mg "is_name" = some (.ref a_is_name)
  a_is_word : Addr
  d_is_word : FuncData
  F_is_word : Fun K "is_word" "is_word" s_is_word a_is_word d_is_word
  b_is_word : Binds K d_is_word ["thing"] []
  m_is_word : mg "is_word" = some (.ref a_is_word)
  a_is_value : Addr
  d_is_value : FuncData
  F_is_value : Fun K "is_value" "is_value" s_is_value a_is_value d_is_value
  b_is_value : Binds K d_is_value ["thing"] []
  m_is_value : mg "is_value" = some (.ref a_is_value)
  a_is_flat_table : Addr
  d_is_flat_table : FuncData
  F_is_flat_table : Fun K "is_flat_table" "is_flat_table" s_is_flat_table a_is_flat_table d_is_flat_table
  b_is_flat_table : Binds K d_is_flat_table ["thing"] []
  m_is_flat_table : mg "is_flat_table" = some (.ref a_is_flat_table)
  a_check_flat : Addr
  d_check_flat : FuncData
  F_check_flat : Fun K "check_flat" "check_flat" s_check_flat a_check_flat d_check_flat
  b_check_flat : Binds K d_check_flat ["table"] []
  m_check_flat : mg "check_flat" = some (.ref a_check_flat)
  a_all_names : Addr
  d_all_names : FuncData
  F_all_names : Fun K "all_names" "all_names" s_all_names a_all_names d_all_names
  b_all_names : Binds K d_all_names ["tables"] []
  m_all_names : mg "all_names" = some (.ref a_all_names)
  a_difference : Addr
  d_difference : FuncData
  F_difference : Fun K "difference" "difference" s_difference a_difference d_difference
  b_difference : Binds K d_difference ["one", "other"] []
  m_difference : mg "difference" = some (.ref a_difference)
  a_merged_value : Addr
  d_merged_value : FuncData
  F_merged_value : Fun K "merged_value" "merged_value" s_merged_value a_merged_value d_merged_value
  b_merged_value : Binds K d_merged_value ["old", "first", "second"] []
  m_merged_value : mg "merged_value" = some (.ref a_merged_value)
  a_raw_merged : Addr
  d_raw_merged : FuncData
  F_raw_merged : Fun K "raw_merged" "raw_merged" s_raw_merged a_raw_merged d_raw_merged
  b_raw_merged : Binds K d_raw_merged ["base", "one", "other"] []
  m_raw_merged : mg "raw_merged" = some (.ref a_raw_merged)
  a_merged : Addr
  d_merged : FuncData
  F_merged : Fun K "merged" "merged" s_merged a_merged d_merged
  b_merged : Binds K d_merged ["base", "one", "other"] []
  m_merged : mg "merged" = some (.ref a_merged)
  a_law_tape : Addr
  d_law_tape : FuncData
  F_law_tape : Fun K "_law_tape" "_law_tape" s_law_tape a_law_tape d_law_tape
  b_law_tape : Binds K d_law_tape ["script"] []
  m_law_tape : mg "_law_tape" = some (.ref a_law_tape)
  a_law_pick : Addr
  d_law_pick : FuncData
  F_law_pick : Fun K "_law_pick" "_law_pick" s_law_pick a_law_pick d_law_pick
  b_law_pick : Binds K d_law_pick ["tape", "many"] []
  m_law_pick : mg "_law_pick" = some (.ref a_law_pick)
  a_law_any : Addr
  d_law_any : FuncData
  F_law_any : Fun K "_law_any" "_law_any" s_law_any a_law_any d_law_any
  b_law_any : Binds K d_law_any ["tape", "things"] []
  m_law_any : mg "_law_any" = some (.ref a_law_any)
  a_law_table : Addr
  d_law_table : FuncData
  F_law_table : Fun K "_law_table" "_law_table" s_law_table a_law_table d_law_table
  b_law_table : Binds K d_law_table ["tape", "names"] []
  m_law_table : mg "_law_table" = some (.ref a_law_table)
  a_law_turned : Addr
  d_law_turned : FuncData
  F_law_turned : Fun K "_law_turned" "_law_turned" s_law_turned a_law_turned d_law_turned
  b_law_turned : Binds K d_law_turned ["tape", "names", "table"] []
  m_law_turned : mg "_law_turned" = some (.ref a_law_turned)
  a_law_merged : Addr
  d_law_merged : FuncData
  F_law_merged : Fun K "_law_merged" "_law_merged" s_law_merged a_law_merged d_law_merged
  b_law_merged : Binds K d_law_merged ["base", "one", "other"] []
  m_law_merged : mg "_law_merged" = some (.ref a_law_merged)
  a_law_word : Addr
  d_law_word : FuncData
  F_law_word : Fun K "_law_word" "_law_word" s_law_word a_law_word d_law_word
  b_law_word : Binds K d_law_word ["call"] []
  m_law_word : mg "_law_word" = some (.ref a_law_word)
  a_law_no_table : Addr
  d_law_no_table : FuncData
  F_law_no_table : Fun K "_law_no_table" "_law_no_table" s_law_no_table a_law_no_table d_law_no_table
  b_law_no_table : Binds K d_law_no_table ["tape"] []
  m_law_no_table : mg "_law_no_table" = some (.ref a_law_no_table)
  a_law_unlike : Addr
  d_law_unlike : FuncData
  F_law_unlike : Fun K "_law_unlike" "_law_unlike" s_law_unlike a_law_unlike d_law_unlike
  b_law_unlike : Binds K d_law_unlike ["one", "other"] []
  m_law_unlike : mg "_law_unlike" = some (.ref a_law_unlike)
  a_law_led : Addr
  d_law_led : FuncData
  F_law_led : Fun K "_law_led" "_law_led" s_law_led a_law_led d_law_led
  b_law_led : Binds K d_law_led ["one", "told"] []
  m_law_led : mg "_law_led" = some (.ref a_law_led)
  a_law_part : Addr
  d_law_part : FuncData
  F_law_part : Fun K "_law_part" "_law_part" s_law_part a_law_part d_law_part
  b_law_part : Binds K d_law_part ["table", "names"] []
  m_law_part : mg "_law_part" = some (.ref a_law_part)
  a_law_are_right : Addr
  d_law_are_right : FuncData
  F_law_are_right : Fun K "_law_are_right" "_law_are_right" s_law_are_right a_law_are_right d_law_are_right
  b_law_are_right : Binds K d_law_are_right ["tape", "names", "base", "one", "other"] []
  m_law_are_right : mg "_law_are_right" = some (.ref a_law_are_right)
  a_law_bounds_right : Addr
  d_law_bounds_right : FuncData
  F_law_bounds_right : Fun K "_law_bounds_right" "_law_bounds_right" s_law_bounds_right a_law_bounds_right d_law_bounds_right
  b_law_bounds_right : Binds K d_law_bounds_right [] []
  m_law_bounds_right : mg "_law_bounds_right" = some (.ref a_law_bounds_right)
  tc_law_bounds_right : Addr
  tp_law_bounds_right : Addr
  co_law_bounds_right : d_law_bounds_right.code = .ref tc_law_bounds_right
  a_law_word_of : Addr
  d_law_word_of : FuncData
  F_law_word_of : Fun K "_law_word_of" "_law_word_of" s_law_word_of a_law_word_of d_law_word_of
  b_law_word_of : Binds K d_law_word_of ["one", "other"] []
  m_law_word_of : mg "_law_word_of" = some (.ref a_law_word_of)
  tc_law_word_of : Addr
  tp_law_word_of : Addr
  co_law_word_of : d_law_word_of.code = .ref tc_law_word_of
  a_law : Addr
  d_law : FuncData
  F_law : Fun K "law" "law" s_law a_law d_law
  b_law : Binds K d_law ["script"] []
  m_law : mg "law" = some (.ref a_law)
  tc_law : Addr
  tp_law : Addr
  co_law : d_law.code = .ref tc_law
  z_ValueError : mg "ValueError" = none
  z_abs : mg "abs" = none
  z_all : mg "all" = none
  z_bool : mg "bool" = none
  z_dict : mg "dict" = none
  z_int : mg "int" = none
  z_isinstance : mg "isinstance" = none
  z_len : mg "len" = none
  z_list : mg "list" = none
  z_range : mg "range" = none
  z_repr : mg "repr" = none
  z_sorted : mg "sorted" = none
  z_str : mg "str" = none
  z_tuple : mg "tuple" = none
  k_MOST_NAMES : ∃ t, mg "MOST_NAMES" = some (.int 200 t)
  k_MOST_SIGNS : ∃ t, mg "MOST_SIGNS" = some (.int 8 t)
  k_MOST_VALUE : ∃ t, mg "MOST_VALUE" = some (.int 1000000 t)
structure CSt where
  un : Unit := ()
section
variable {K : PySem.W.Frag} {mg : Str → Option Value}
def TX.cs (T : TX K mg) : CSt := {}
def TX.cl (T : TX K mg) : Nat → Addr
  | 0 => T.C_NoTable
  | _ => 0
def TX.tabs (T : TX K mg) : List (Addr × Str) := [(T.tp_law_bounds_right, "_law_bounds_right" ++ ".<locals>." ++ "<lambda>"), (T.tp_law_word_of, "_law_word_of" ++ ".<locals>." ++ "<lambda>"), (T.tp_law, "law" ++ ".<locals>." ++ "<lambda>")]
def isx_TraceError : Nat → Option Bool
  | 0 => some true
  | _ => none
def isc_NoTable : Nat → Option Bool
  | 0 => some true
  | _ => none
def isc_ValueError : Nat → Option Bool
  | 0 => some true
  | _ => none
theorem TX.hx_TraceError (T : TX K mg) (k : Nat) (b : Bool) (h : isx_TraceError k = some b) : PySem.W.exmOne K (.ref (T.cl k)) (.ref T.C_TraceError) = some b := match k, h with
  | 0, h => by cases h; exact T.ex_NoTable_TraceError

theorem TX.hX (T : TX K mg) (k : Nat) (h : isx_TraceError k = some true) : ExcC K (T.cl k) := match k, h with
  | 0, h => T.X_NoTable

theorem TX.hi_NoTable (T : TX K mg) (k : Nat) (b : Bool) (h : isc_NoTable k = some b) : PySem.W.kitOne K (.ref (T.cl k)) (.ref T.C_NoTable) = some b := match k, h with
  | 0, h => by cases h; exact T.ki_NoTable_NoTable

theorem TX.hi_ValueError (T : TX K mg) (k : Nat) (b : Bool) (h : isc_ValueError k = some b) : PySem.W.kitOne K (.ref (T.cl k)) (.type "ValueError") = some b := match k, h with
  | 0, h => by cases h; exact T.ki_NoTable_ValueError

structure TBs (T : TX K mg) (base : Heap) : Prop where
  un : True := True.intro
  t_law_bounds_right : LamX.TabB base mg T.tc_law_bounds_right T.tp_law_bounds_right
  t_law_word_of : LamX.TabB base mg T.tc_law_word_of T.tp_law_word_of
  t_law : LamX.TabB base mg T.tc_law T.tp_law

end
end KM

set_option Elab.async false
set_option linter.all false
set_option maxRecDepth 100000

/-! KM: what each def asks -/
namespace KM
open PySem PySem.Spec PyProof.Rows L2 VD
def W_is_integer (CS : CSt) (R : RZ) : WS := (wRet (wAnd (wCB wIsi (wCons (wVar 0) (wCons (wC (.ty "int")) wNil))) (wNot (wCB wIsi (wCons (wVar 0) (wCons (wC (.ty "bool")) wNil))))))
abbrev A_is_integer (CS : CSt) : SpD := spec N_is_integer 1 (W_is_integer CS)
def W_is_within (CS : CSt) (R : RZ) : WS := (wRet (wAnd (wCall (A_is_integer CS) (wCons (wVar 0) wNil)) (wChain wLe wLe (wVar 1) (wVar 0) (wVar 2))))
abbrev A_is_within (CS : CSt) : SpD := spec N_is_within 3 (W_is_within CS)
def W_is_name (CS : CSt) (R : RZ) : WS := (wRet (wAnd (wCB wIsi (wCons (wVar 0) (wCons (wC (.ty "str")) wNil))) (wAnd (wChain wLe wLe (wC (.int 1)) (wCB wLen (wCons (wVar 0) wNil)) (wC (.int 12))) (wCB wAll (wCons (wFrz (wLc (wiA false (wVar 0)) (wgName 1) (fun _ O Q => Q true O) (wChain wLe wLe (wC (.str "a")) (wVar 1) (wC (.str "z"))) [1])) wNil)))))
abbrev A_is_name (CS : CSt) : SpD := spec N_is_name 1 (W_is_name CS)
def W_is_word (CS : CSt) (R : RZ) : WS := (wRet (wAnd (wCB wIsi (wCons (wVar 0) (wCons (wC (.ty "str")) wNil))) (wAnd (wOp wLe (wCB wLen (wCons (wVar 0) wNil)) (wC (.int 8))) (wCB wAll (wCons (wFrz (wLc (wiA false (wVar 0)) (wgName 1) (fun _ O Q => Q true O) (wChain wLe wLe (wC (.str "a")) (wVar 1) (wC (.str "z"))) [1])) wNil)))))
abbrev A_is_word (CS : CSt) : SpD := spec N_is_word 1 (W_is_word CS)
def W_is_value (CS : CSt) (R : RZ) : WS := (wRet (wOr (wCall (A_is_word CS) (wCons (wVar 0) wNil)) (wCall (A_is_within CS) (wCons (wVar 0) (wCons (wUn wNeg (wC (.int 1000000))) (wCons (wC (.int 1000000)) wNil))))))
abbrev A_is_value (CS : CSt) : SpD := spec N_is_value 1 (W_is_value CS)
def W_is_flat_table (CS : CSt) (R : RZ) : WS := (wSeq (wIfS (tOrW (tNotW (wTst (wCB wIsi (wCons (wVar 0) (wCons (wC (.ty "dict")) wNil))))) (wTst (wOp wGt (wCB wLen (wCons (wVar 0) wNil)) (wC (.int 200))))) (wRet (wC (.bl false))) wNext) (wRet (wCB wAll (wCons (wFrz (wLc (wiItA (wVar 0)) (wgTup 2 (wgCons (wgName 1) (wgCons (wgName 2) wgNil))) (fun _ O Q => Q true O) (wAnd (wCall (A_is_name CS) (wCons (wVar 1) wNil)) (wCall (A_is_value CS) (wCons (wVar 2) wNil))) [1, 2])) wNil))))
abbrev A_is_flat_table (CS : CSt) : SpD := spec N_is_flat_table 1 (W_is_flat_table CS)
def W_check_flat (CS : CSt) (R : RZ) : WS := (wIfS (tNotW (wTst (wCall (A_is_flat_table CS) (wCons (wVar 0) wNil)))) (wRaise (fun k fs _ O => R k fs O) 0) wNext)
abbrev A_check_flat (CS : CSt) : SpD := spec N_check_flat 1 (W_check_flat CS)
def W_all_names (CS : CSt) (R : RZ) : WS := (wSeq (wOwn 1 wNewK) (wSeq (wFor (wiA true (wVar 0)) (wgName 2) (wExpM (wOm 1 "dict" oUpd (wCons (wVar 2) wNil)))) (wRet (wFrz (wCN wSorted2 (wCons (wVar 1) wNil))))))
abbrev A_all_names (CS : CSt) : SpD := spec N_all_names 1 (W_all_names CS)
def W_difference (CS : CSt) (R : RZ) : WS := (wSeq (wDrop (wCallX (fun k fs _ O => R k fs O) (A_check_flat CS) (wCons (wVar 0) wNil))) (wSeq (wDrop (wCallX (fun k fs _ O => R k fs O) (A_check_flat CS) (wCons (wVar 1) wNil))) (wSeq (wOwn 2 wNewK) (wSeq (wFor (wiN 0 true (wCall (A_all_names CS) (wCons (wFrz (wLst (wCons (wVar 0) (wCons (wVar 1) wNil)))) wNil))) (wgName 3) (wSeq (wAsg (wTup (wCons (wGet2 (wVar 0) (wVar 3) (wC .non)) (wCons (wGet2 (wVar 1) (wVar 3) (wC .non)) wNil))) (wgName 4)) (wIfS (wTst (wOp wNe2 (wOp wIx (wVar 4) (wC (.int 0))) (wOp wIx (wVar 4) (wC (.int 1))))) (wAsg (wVar 4) (wgOSub 2 (wVar 3))) wNext))) (wFz 2 (wRet (wVar 2)))))))
abbrev A_difference (CS : CSt) : SpD := spec N_difference 2 (W_difference CS)
def W_merged_value (CS : CSt) (R : RZ) : WS := (wSeq (wIfS (tOrW (wTst (wOp wEq2 (wVar 1) (wVar 2))) (wTst (wOp wEq2 (wVar 2) (wVar 0)))) (wRet (wTup (wCons (wVar 1) (wCons (wC (.bl false)) wNil)))) wNext) (wRet (wIf (wTst (wOp wEq2 (wVar 1) (wVar 0))) (wTup (wCons (wVar 2) (wCons (wC (.bl false)) wNil))) (wTup (wCons (wVar 1) (wCons (wC (.bl true)) wNil))))))
abbrev A_merged_value (CS : CSt) : SpD := spec N_merged_value 3 (W_merged_value CS)
def W_raw_merged (CS : CSt) (R : RZ) : WS := (wSeq (wPar [3, 4] (wqO wNewK (wqO (wLst wNil) wqNil))) (wSeq (wFor (wiN 0 true (wCall (A_all_names CS) (wCons (wFrz (wLst (wCons (wVar 0) (wCons (wVar 1) (wCons (wVar 2) wNil))))) wNil))) (wgName 5) (wSeq (wAsg (wCall (A_merged_value CS) (wCons (wGet2 (wVar 0) (wVar 5) (wC .non)) (wCons (wGet2 (wVar 1) (wVar 5) (wC .non)) (wCons (wGet2 (wVar 2) (wVar 5) (wC .non)) wNil)))) (wgName 6)) (wSeq (wIfS (wTst (wOp wNotN (wOp wIx (wVar 6) (wC (.int 0))) (wC .non))) (wAsg (wOp wIx (wVar 6) (wC (.int 0))) (wgOSub 3 (wVar 5))) wNext) (wIfS (wTst (wOp wIx (wVar 6) (wC (.int 1)))) (wExpM (wOm 4 "list" oApp (wCons (wVar 5) wNil))) wNext)))) (wFz 3 (wRet (wTup (wCons (wVar 3) (wCons (wCB wTuple (wCons (wVar 4) wNil)) wNil)))))))
abbrev A_raw_merged (CS : CSt) : SpD := spec N_raw_merged 3 (W_raw_merged CS)
def W_merged (CS : CSt) (R : RZ) : WS := (wSeq (wDrop (wCallX (fun k fs _ O => R k fs O) (A_check_flat CS) (wCons (wVar 0) wNil))) (wSeq (wDrop (wCallX (fun k fs _ O => R k fs O) (A_check_flat CS) (wCons (wVar 1) wNil))) (wSeq (wDrop (wCallX (fun k fs _ O => R k fs O) (A_check_flat CS) (wCons (wVar 2) wNil))) (wRet (wCall (A_raw_merged CS) (wCons (wVar 0) (wCons (wVar 1) (wCons (wVar 2) wNil))))))))
abbrev A_merged (CS : CSt) : SpD := spec N_merged 3 (W_merged CS)
abbrev A_law_pick (CS : CSt) : SpD := spDraw
def Wr_law_pick (CS : CSt) (R : RZ) : WS := (wSeq (wIfS (tAndW (wTst (wOp wEq2 (wOp wIx (wVar 0) (wC (.int 2))) (wC (.int 0)))) (wTst (wOp wLt (wOp wIx (wVar 0) (wC (.int 1))) (wCB wLen (wCons (wOp wIx (wVar 0) (wC (.int 0))) wNil))))) (wSeq (wAsg (wOp wIx (wOp wIx (wVar 0) (wC (.int 0))) (wOp wIx (wVar 0) (wC (.int 1)))) (wgName 2)) (wSeq (wAsg (wOp wAdd (wOp wIx (wVar 0) (wC (.int 1))) (wC (.int 1))) (wgSub (wVar 0) (wC (.int 1)))) (wSeq (wAsg (wOp wMod (wCB wInt1 (wCons (wOp wAdd (wOp wAdd (wOp wMulI (wOp wIx (wVar 0) (wC (.int 3))) (wC (.int 69621))) (wVar 2)) (wC (.int 11))) wNil)) (wC (.int 2147483629))) (wgSub (wVar 0) (wC (.int 3)))) (wIfS (wTst (wOp wGe (wVar 2) (wOp wPow (wC (.int 10)) (wC (.int 18))))) (wAsg (wVar 2) (wgSub (wVar 0) (wC (.int 2)))) wNext)))) wNext) (wSeq (wIfS (wTst (wOp wGt (wOp wIx (wVar 0) (wC (.int 2))) (wC (.int 0)))) (wSeq (wAsg (wOp wMod (wCB wInt1 (wCons (wOp wIx (wVar 0) (wC (.int 2))) wNil)) (wVar 1)) (wgName 3)) (wSeq (wAsg (wOp wDiv (wOp wIx (wVar 0) (wC (.int 2))) (wVar 1)) (wgSub (wVar 0) (wC (.int 2)))) (wRet (wVar 3)))) wNext) (wSeq (wAsg (wOp wAdd (wOp wIx (wVar 0) (wC (.int 4))) (wC (.int 1))) (wgSub (wVar 0) (wC (.int 4)))) (wSeq (wAsg (wOp wMod (wCB wInt1 (wCons (wOp wMulI (wCB wInt1 (wCons (wOp wAdd (wOp wIx (wVar 0) (wC (.int 3))) (wOp wMulI (wC (.int 7919)) (wOp wIx (wVar 0) (wC (.int 4))))) wNil)) (wC (.int 48271))) wNil)) (wC (.int 2147483647))) (wgName 4)) (wSeq (wAsg (wOp wMod (wCB wInt1 (wCons (wOp wMulI (wVar 4) (wOp wAdd (wOp wDiv (wVar 4) (wC (.int 1009))) (wC (.int 69621)))) wNil)) (wC (.int 2147483647))) (wgName 4)) (wSeq (wAsg (wOp wMod (wCB wInt1 (wCons (wOp wMulI (wVar 4) (wOp wAdd (wOp wDiv (wVar 4) (wC (.int 2003))) (wC (.int 40692)))) wNil)) (wC (.int 2147483399))) (wgName 4)) (wRet (wOp wMod (wCB wInt1 (wCons (wOp wDiv (wVar 4) (wC (.int 16))) wNil)) (wVar 1)))))))))
def W_law_any (CS : CSt) (R : RZ) : WS := (wRet (wOp wIx (wVar 1) (wCall (A_law_pick CS) (wCons (wVar 0) (wCons (wCB wLen (wCons (wVar 1) wNil)) wNil)))))
abbrev A_law_any (CS : CSt) : SpD := spec N_law_any 2 (W_law_any CS)
def W_law_table (CS : CSt) (R : RZ) : WS := (wSeq (wOwn 2 wNewK) (wSeq (wFor (wiA true (wVar 1)) (wgName 3) (wIfS (wTst (wOp wGt (wCall (A_law_pick CS) (wCons (wVar 0) (wCons (wC (.int 3)) wNil))) (wC (.int 0)))) (wAsg (wCall (A_law_any CS) (wCons (wVar 0) (wCons (wFrz (wLst (wCons (wC (.int 0)) (wCons (wC (.int 1)) (wCons (wUn wNeg (wC (.int 1))) (wCons (wC (.int 7)) (wCons (wC (.int 1000000)) (wCons (wUn wNeg (wC (.int 1000000))) (wCons (wC (.str "")) (wCons (wC (.str "a")) (wCons (wC (.str "zz")) (wCons (wC (.str "abcdefgh")) wNil)))))))))))) wNil))) (wgOSub 2 (wVar 3))) wNext)) (wFz 2 (wRet (wVar 2)))))
abbrev A_law_table (CS : CSt) : SpD := spec N_law_table 2 (W_law_table CS)
def W_law_turned (CS : CSt) (R : RZ) : WS := (wSeq (wOwn 3 (wCN wDict2 (wCons (wFrz (wItems (wVar 2))) wNil))) (wSeq (wFor (wiA true (wVar 1)) (wgName 4) (wSeq (wAsg (wCall (A_law_pick CS) (wCons (wVar 0) (wCons (wC (.int 5)) wNil))) (wgName 5)) (wSeq (wIfS (wTst (wOp wEq2 (wVar 5) (wC (.int 0)))) (wAsg (wCall (A_law_any CS) (wCons (wVar 0) (wCons (wFrz (wLst (wCons (wC (.int 0)) (wCons (wC (.int 1)) (wCons (wC (.int 2)) (wCons (wC (.str "a")) (wCons (wC (.str "b")) (wCons (wC (.str "")) wNil)))))))) wNil))) (wgOSub 3 (wVar 4))) wNext) (wIfS (tAndW (wTst (wOp wEq2 (wVar 5) (wC (.int 1)))) (wTst (wOp wIn (wVar 4) (wVar 3)))) (wExpM (wDPop1 3 (wVar 4))) wNext)))) (wFz 3 (wRet (wVar 3)))))
abbrev A_law_turned (CS : CSt) : SpD := spec N_law_turned 3 (W_law_turned CS)
def W_law_merged (CS : CSt) (R : RZ) : WS := (wSeq (wPar [3, 4] (wqO wNewK (wqO (wLst wNil) wqNil))) (wSeq (wFor (wiN 0 true (wFrz (wCN wSorted2 (wCons (wFrz (wCN wDict2 (wCons (wFrz (wOpN wAddN (wFrz (wOpN wAddN (wFrz (wItems (wVar 0))) (wFrz (wItems (wVar 1))))) (wFrz (wItems (wVar 2))))) wNil))) wNil)))) (wgName 5) (wSeq (wPar [6, 7, 8] (wqD (wGet2 (wVar 0) (wVar 5) (wC .non)) (wqD (wGet2 (wVar 1) (wVar 5) (wC .non)) (wqD (wGet2 (wVar 2) (wVar 5) (wC .non)) wqNil)))) (wSeq (wAsg (wIf (wTst (wOp wEq2 (wVar 7) (wVar 6))) (wVar 8) (wVar 7)) (wgName 9)) (wSeq (wIfS (tAndW (wTst (wOp wNe2 (wVar 7) (wVar 8))) (tAndW (wTst (wOp wNe2 (wVar 7) (wVar 6))) (wTst (wOp wNe2 (wVar 8) (wVar 6))))) (wExpM (wOm 4 "list" oApp (wCons (wVar 5) wNil))) wNext) (wIfS (wTst (wOp wNotN (wVar 9) (wC .non))) (wAsg (wVar 9) (wgOSub 3 (wVar 5))) wNext))))) (wFz 3 (wRet (wTup (wCons (wVar 3) (wCons (wCB wTuple (wCons (wVar 4) wNil)) wNil)))))))
abbrev A_law_merged (CS : CSt) : SpD := spec N_law_merged 3 (W_law_merged CS)
def W_law_word : WTh := fun f TT => (wSeq (wAsg (wC (.str "let")) (wgName 1)) (wSeq (wTry 2 isx_TraceError (fun _ _ _ _ => False) (fun Rb => (wDrop (wAct f TT Rb 4))) (fun a k fs => (wSeq (wAsg (wFrz (wLst (wCons (wIsX isc_NoTable k a 2) wNil))) (wgName 3)) (wSeq (wAsg (wIf (wTst (wOp wEq2 (wBm "list" mCnt (wVar 3) (wCons (wC (.bl true)) wNil)) (wC (.int 1)))) (wOp wIx (wFrz (wLst (wCons (wC (.str "table")) wNil))) (wBm "list" mIdx (wVar 3) (wCons (wC (.bl true)) wNil))) (wC (.str "other"))) (wgName 1)) (wIfS (tNotW (wTst (wIsX isc_ValueError k a 2))) (wAsg (wC (.str "other")) (wgName 1)) wNext))))) (wRet (wVar 1))))
def W_law_no_table (CS : CSt) (R : RZ) : WS := (wSeq (wAsg (wCall (A_law_any CS) (wCons (wVar 0) (wCons (wFrz (wLst (wCons (wC .non) (wCons (wC (.bl true)) (wCons (wC (.str "A")) (wCons (wC (.int 0)) wNil)))))) wNil))) (wgName 1)) (wSeq (wFor (wiR1 (wCons (wCall (A_law_any CS) (wCons (wVar 0) (wCons (wFrz (wLst (wCons (wC (.int 0)) (wCons (wC (.int 1)) (wCons (wC (.int 60)) wNil))))) wNil))) wNil)) (wgName 2) (wAsg (wCall (A_law_any CS) (wCons (wVar 0) (wCons (wFrz (wLst (wCons (wTup (wCons (wVar 1) wNil)) (wCons (wFrz (wLst (wCons (wVar 1) wNil))) wNil)))) wNil))) (wgName 1))) (wSeq (wOwn 3 (wLst (wCons (wC .non) (wCons (wC (.int 0)) (wCons (wFrz (wLst wNil)) (wCons (wTup wNil) (wCons (wC (.str "a")) (wCons (wFrz (wDisp (wpCons (wC (.str "A")) (wC (.int 1)) wpNil))) (wCons (wFrz (wDisp (wpCons (wC (.str "")) (wC (.int 1)) wpNil))) (wCons (wFrz (wDisp (wpCons (wC (.str "abcdefghijklm")) (wC (.int 1)) wpNil))) (wCons (wFrz (wDisp (wpCons (wC (.int 1)) (wC (.int 1)) wpNil))) (wCons (wFrz (wDisp (wpCons (wC (.str "a")) (wC .non) wpNil))) (wCons (wFrz (wDisp (wpCons (wC (.str "a")) (wC (.bl true)) wpNil))) wNil))))))))))))) (wSeq (wExpM (wOm 3 "list" oApp (wCons (wFrz (wDisp (wpCons (wC (.str "a")) (wTup (wCons (wC (.int 1)) wNil)) wpNil))) wNil))) (wSeq (wOwn 3 (wOpN wAddN (wVar 3) (wFrz (wLst (wCons (wFrz (wDisp (wpCons (wC (.str "a")) (wC (.str "B")) wpNil))) (wCons (wFrz (wDisp (wpCons (wC (.str "a")) (wC (.str "abcdefghi")) wpNil))) (wCons (wFrz (wDisp (wpCons (wC (.str "a")) (wC (.int 1000001)) wpNil))) (wCons (wFrz (wDisp (wpCons (wC (.str "a")) (wUn wNeg (wC (.int 1000001))) wpNil))) (wCons (wFrz (wDisp (wpCons (wC (.str "a")) (wFrz (wLst wNil)) wpNil))) (wCons (wFrz (wDispT1 (wTup (wCons (wC (.str "a")) wNil)) (wC (.int 1)))) wNil)))))))))) (wSeq (wOwn 3 (wOpN wAddN (wVar 3) (wFrz (wLst (wCons (wFrz (wDisp (wpCons (wC (.str "a")) (wFrz wNewK) wpNil))) (wCons (wVar 1) wNil)))))) (wFz 3 (wRet (wCall (A_law_any CS) (wCons (wVar 0) (wCons (wVar 3) wNil)))))))))))
abbrev A_law_no_table (CS : CSt) : SpD := spec N_law_no_table 1 (W_law_no_table CS)
def W_law_unlike (CS : CSt) (R : RZ) : WS := (wSeq (wOwn 2 wNewK) (wSeq (wFor (wiN 0 true (wFrz (wCN wSorted2 (wCons (wFrz (wCN wDict2 (wCons (wFrz (wOpN wAddN (wFrz (wItems (wVar 0))) (wFrz (wItems (wVar 1))))) wNil))) wNil)))) (wgName 3) (wIfS (wTst (wOp wNe2 (wGet2 (wVar 0) (wVar 3) (wC .non)) (wGet2 (wVar 1) (wVar 3) (wC .non)))) (wAsg (wTup (wCons (wGet2 (wVar 0) (wVar 3) (wC .non)) (wCons (wGet2 (wVar 1) (wVar 3) (wC .non)) wNil))) (wgOSub 2 (wVar 3))) wNext)) (wFz 2 (wRet (wVar 2)))))
abbrev A_law_unlike (CS : CSt) : SpD := spec N_law_unlike 2 (W_law_unlike CS)
def W_law_led (CS : CSt) (R : RZ) : WS := (wSeq (wOwn 2 (wCN wDict2 (wCons (wFrz (wItems (wVar 0))) wNil))) (wSeq (wFor (wiA true (wVar 1)) (wgName 3) (wIfS (wTst (wOp wIsN (wOp wIx (wOp wIx (wVar 1) (wVar 3)) (wC (.int 1))) (wC .non))) (wExpM (wDPop1 2 (wVar 3))) (wAsg (wOp wIx (wOp wIx (wVar 1) (wVar 3)) (wC (.int 1))) (wgOSub 2 (wVar 3))))) (wFz 2 (wRet (wVar 2)))))
abbrev A_law_led (CS : CSt) : SpD := spec N_law_led 2 (W_law_led CS)
def W_law_part (CS : CSt) (R : RZ) : WS := (wRet (wFrz (wCN wDict2 (wCons (wFrz (wLc (wiA false (wVar 0)) (wgName 2) (wTst (wOp wIn (wVar 2) (wVar 1))) (wTup (wCons (wVar 2) (wCons (wOp wIx (wVar 0) (wVar 2)) wNil))) [2])) wNil))))
abbrev A_law_part (CS : CSt) : SpD := spec N_law_part 2 (W_law_part CS)
def W_law_are_right (CS : CSt) (R : RZ) : WS := (wSeq (wAsg (wReprL (wCons (wVar 2) (wCons (wVar 3) (wCons (wVar 4) wNil)))) (wgName 5)) (wSeq (wAsg (wTup (wCons (wCallX (fun k fs _ O => R k fs O) (A_merged CS) (wCons (wVar 2) (wCons (wVar 3) (wCons (wVar 4) wNil)))) (wCons (wCallX (fun k fs _ O => R k fs O) (A_merged CS) (wCons (wVar 2) (wCons (wVar 4) (wCons (wVar 3) wNil)))) wNil))) (wgTup 2 (wgCons (wgName 6) (wgCons (wgName 7) wgNil)))) (wSeq (wAsg (wCall (A_law_merged CS) (wCons (wVar 2) (wCons (wVar 3) (wCons (wVar 4) wNil)))) (wgName 8)) (wSeq (wIfS (tOrW (wTst (wOp wNe2 (wVar 6) (wVar 8))) (tOrW (wTst (wOp wNe2 (wCB wRepr2 (wCons (wOp wIx (wVar 6) (wC (.int 1))) wNil)) (wCB wRepr2 (wCons (wOp wIx (wVar 8) (wC (.int 1))) wNil)))) (tOrW (wTst (wOp wNe2 (wVar 7) (wCall (A_law_merged CS) (wCons (wVar 2) (wCons (wVar 4) (wCons (wVar 3) wNil)))))) (wTst (wOp wNe2 (wOp wIx (wVar 7) (wC (.int 1))) (wOp wIx (wVar 6) (wC (.int 1)))))))) (wRet (wC (.bl false))) wNext) (wSeq (wOwn 9 (wLc (wiA false (wVar 1)) (wgName 10) (wTst (wOp wNotIn (wVar 10) (wOp wIx (wVar 6) (wC (.int 1))))) (wVar 10) [10])) (wFz 9 (wSeq (wIfS (wTst (wOp wNe2 (wCall (A_law_part CS) (wCons (wOp wIx (wVar 6) (wC (.int 0))) (wCons (wVar 9) wNil))) (wCall (A_law_part CS) (wCons (wOp wIx (wVar 7) (wC (.int 0))) (wCons (wVar 9) wNil))))) (wRet (wC (.bl false))) wNext) (wSeq (wIfS (tOrW (wTst (wOp wNe2 (wCallX (fun k fs _ O => R k fs O) (A_difference CS) (wCons (wVar 3) (wCons (wVar 4) wNil))) (wCall (A_law_unlike CS) (wCons (wVar 3) (wCons (wVar 4) wNil))))) (wTst (wOp wNe2 (wCall (A_law_led CS) (wCons (wVar 3) (wCons (wCallX (fun k fs _ O => R k fs O) (A_difference CS) (wCons (wVar 3) (wCons (wVar 4) wNil))) wNil))) (wVar 4)))) (wRet (wC (.bl false))) wNext) (wSeq (wIfS (tOrW (wTst (wOp wNe2 (wCallX (fun k fs _ O => R k fs O) (A_difference CS) (wCons (wVar 3) (wCons (wVar 3) wNil))) (wFrz wNewK))) (tOrW (wTst (wOp wNe2 (wCallX (fun k fs _ O => R k fs O) (A_merged CS) (wCons (wVar 2) (wCons (wVar 3) (wCons (wVar 2) wNil)))) (wTup (wCons (wVar 3) (wCons (wTup wNil) wNil))))) (wTst (wOp wNe2 (wCallX (fun k fs _ O => R k fs O) (A_merged CS) (wCons (wVar 2) (wCons (wVar 2) (wCons (wVar 3) wNil)))) (wTup (wCons (wVar 3) (wCons (wTup wNil) wNil))))))) (wRet (wC (.bl false))) wNext) (wSeq (wIfS (wTst (wOp wNe2 (wCallX (fun k fs _ O => R k fs O) (A_merged CS) (wCons (wVar 2) (wCons (wVar 3) (wCons (wVar 3) wNil)))) (wTup (wCons (wVar 3) (wCons (wTup wNil) wNil))))) (wRet (wC (.bl false))) wNext) (wSeq (wAsg (wFrz (wLc (wiA false (wVar 1)) (wgName 10) (wTst (wOp wEq2 (wCall (A_law_pick CS) (wCons (wVar 0) (wCons (wC (.int 2)) wNil))) (wC (.int 0)))) (wVar 10) [10])) (wgName 11)) (wSeq (wOwn 12 (wLc (wiA false (wVar 1)) (wgName 10) (wTst (wOp wNotIn (wVar 10) (wVar 11))) (wVar 10) [10])) (wFz 12 (wSeq (wOwn 13 (wLc (wiN 1 false (wTup (wCons (wVar 11) (wCons (wVar 12) wNil)))) (wgName 14) (fun _ O Q => Q true O) (wCall (A_merged CS) (wCons (wCall (A_law_part CS) (wCons (wVar 2) (wCons (wVar 14) wNil))) (wCons (wCall (A_law_part CS) (wCons (wVar 3) (wCons (wVar 14) wNil))) (wCons (wCall (A_law_part CS) (wCons (wVar 4) (wCons (wVar 14) wNil))) wNil)))) [14])) (wSeq (wIfS (wTst (wOp wNe2 (wFrz (wCN wDict2 (wCons (wFrz (wOpN wAddN (wFrz (wItems (wOp wIx (wOp wIx (wVar 13) (wC (.int 0))) (wC (.int 0))))) (wFrz (wItems (wOp wIx (wOp wIx (wVar 13) (wC (.int 1))) (wC (.int 0))))))) wNil))) (wOp wIx (wVar 6) (wC (.int 0))))) (wRet (wC (.bl false))) wNext) (wRet (wAnd (wOp wEq2 (wCB wTuple (wCons (wFrz (wCN wSorted3 (wCons (wOp wAdd (wOp wIx (wOp wIx (wVar 13) (wC (.int 0))) (wC (.int 1))) (wOp wIx (wOp wIx (wVar 13) (wC (.int 1))) (wC (.int 1)))) wNil))) wNil)) (wOp wIx (wVar 6) (wC (.int 1)))) (wOp wEq2 (wReprL (wCons (wVar 2) (wCons (wVar 3) (wCons (wVar 4) wNil)))) (wVar 5)))))))))))))))))))
abbrev A_law_are_right (CS : CSt) : SpD := spec N_law_are_right 5 (W_law_are_right CS)
def W_law_bounds_right (CS : CSt) (R : RZ) : WS := (wSeq (wOwn 0 wNewK) (wSeq (wFor (wiN 2 true (wC (.str "abcdefghijklmnopqrst"))) (wgName 1) (wFor (wiN 2 true (wC (.str "abcdefghij"))) (wgName 2) (wAsg (wC (.int 2)) (wgOSub 0 (wOp wAdd (wOp wAdd (wC (.str "w")) (wVar 1)) (wVar 2)))))) (wSeq (wAsg (wFrz (wCN wDict2 (wCons (wFrz (wOpN wAddN (wFrz (wItems (wVar 0))) (wFrz (wLst (wCons (wTup (wCons (wC (.str "onemore")) (wCons (wC (.int 0)) wNil))) wNil))))) wNil))) (wgName 3)) (wFz 0 (wSeq (wIfS (tOrW (wTst (wOp wNe2 (wCB wLen (wCons (wVar 0) wNil)) (wC (.int 200)))) (tOrW (wTst (wOp wNe2 (wCallX (fun k fs _ O => R k fs O) (A_merged CS) (wCons (wVar 0) (wCons (wVar 0) (wCons (wFrz wNewK) wNil)))) (wTup (wCons (wFrz wNewK) (wCons (wTup wNil) wNil))))) (wTst (wOp wNe2 (wCB wLen (wCons (wCallX (fun k fs _ O => R k fs O) (A_difference CS) (wCons (wVar 0) (wCons (wFrz wNewK) wNil))) wNil)) (wC (.int 200)))))) (wRet (wC (.bl false))) wNext) (wRet (wOp wEq2 (wLam W_law_word N_law_word fun Rl => (wCallX Rl (A_difference CS) (wCons (wVar 3) (wCons (wFrz wNewK) wNil)))) (wC (.str "table")))))))))
abbrev A_law_bounds_right (CS : CSt) : SpD := spec N_law_bounds_right 0 (W_law_bounds_right CS)
def W_law_word_of (CS : CSt) (R : RZ) : WS := (wRet (wLam W_law_word N_law_word fun Rl => (wCallX Rl (A_difference CS) (wCons (wVar 0) (wCons (wVar 1) wNil)))))
abbrev A_law_word_of (CS : CSt) : SpD := spec N_law_word_of 2 (W_law_word_of CS)
def W_law (CS : CSt) (R : RZ) : WS := (wSeq (wAsg (wTup (wCons (wFrz (wDisp (wpCons (wC (.str "a")) (wC (.int 1)) (wpCons (wC (.str "b")) (wC (.int 2)) (wpCons (wC (.str "c")) (wC (.int 3)) wpNil))))) (wCons (wFrz (wDisp (wpCons (wC (.str "a")) (wC (.int 1)) (wpCons (wC (.str "b")) (wC (.int 5)) (wpCons (wC (.str "d")) (wC (.int 4)) wpNil))))) (wCons (wFrz (wDisp (wpCons (wC (.str "a")) (wC (.int 9)) (wpCons (wC (.str "b")) (wC (.int 6)) (wpCons (wC (.str "c")) (wC (.int 3)) wpNil))))) wNil)))) (wgTup 3 (wgCons (wgName 2) (wgCons (wgName 3) (wgCons (wgName 4) wgNil))))) (wSeq (wIfS (tOrW (wTst (wOp wNe2 (wCallX (fun k fs _ O => R k fs O) (A_merged CS) (wCons (wVar 2) (wCons (wVar 3) (wCons (wVar 4) wNil)))) (wTup (wCons (wFrz (wDisp (wpCons (wC (.str "a")) (wC (.int 9)) (wpCons (wC (.str "b")) (wC (.int 5)) (wpCons (wC (.str "d")) (wC (.int 4)) wpNil))))) (wCons (wTup (wCons (wC (.str "b")) wNil)) wNil))))) (tNotW (wTst (wCallX (fun k fs _ O => R k fs O) (A_law_bounds_right CS) wNil)))) (wRet (wC (.bl false))) wNext) (wSeq (wIfS (wTst (wOp wNe2 (wCallX (fun k fs _ O => R k fs O) (A_difference CS) (wCons (wVar 3) (wCons (wVar 4) wNil))) (wFrz (wDisp (wpCons (wC (.str "a")) (wTup (wCons (wC (.int 1)) (wCons (wC (.int 9)) wNil))) (wpCons (wC (.str "b")) (wTup (wCons (wC (.int 5)) (wCons (wC (.int 6)) wNil))) (wpCons (wC (.str "c")) (wTup (wCons (wC .non) (wCons (wC (.int 3)) wNil))) (wpCons (wC (.str "d")) (wTup (wCons (wC (.int 4)) (wCons (wC .non) wNil))) wpNil)))))))) (wRet (wC (.bl false))) wNext) (wSeq (wFor (wiR1 (wCons (wC (.int 6)) wNil)) (wgName 5) (wSeq (wAsg (wSl (wFrz (wLst (wCons (wC (.str "a")) (wCons (wC (.str "b")) (wCons (wC (.str "c")) (wCons (wC (.str "dd")) (wCons (wC (.str "zzzzzzzzzzzz")) (wCons (wC (.str "name")) wNil)))))))) wNoP (wPart (wOp wAdd (wC (.int 1)) (wCall (A_law_pick CS) (wCons (wVar 1) (wCons (wC (.int 6)) wNil)))))) (wgName 6)) (wSeq (wAsg (wCall (A_law_table CS) (wCons (wVar 1) (wCons (wVar 6) wNil))) (wgName 2)) (wSeq (wAsg (wTup (wCons (wCall (A_law_turned CS) (wCons (wVar 1) (wCons (wVar 6) (wCons (wVar 2) wNil)))) (wCons (wCall (A_law_turned CS) (wCons (wVar 1) (wCons (wVar 6) (wCons (wVar 2) wNil)))) wNil))) (wgTup 2 (wgCons (wgName 3) (wgCons (wgName 4) wgNil)))) (wSeq (wIfS (wTst (wOp wEq2 (wCall (A_law_pick CS) (wCons (wVar 1) (wCons (wC (.int 4)) wNil))) (wC (.int 0)))) (wAsg (wCall (A_law_table CS) (wCons (wVar 1) (wCons (wVar 6) wNil))) (wgName 4)) wNext) (wSeq (wIfS (tNotW (wTst (wCallX (fun k fs _ O => R k fs O) (A_law_are_right CS) (wCons (wVar 1) (wCons (wVar 6) (wCons (wVar 2) (wCons (wVar 3) (wCons (wVar 4) wNil)))))))) (wRet (wC (.bl false))) wNext) (wSeq (wAsg (wTup (wCons (wCall (A_law_no_table CS) (wCons (wVar 1) wNil)) (wCons (wCall (A_law_no_table CS) (wCons (wVar 1) wNil)) wNil))) (wgTup 2 (wgCons (wgName 7) (wgCons (wgName 8) wgNil)))) (wSeq (wOwn 9 (wLst (wCons (wLam W_law_word N_law_word fun Rl => (wCallX Rl (A_difference CS) (wCons (wVar 7) (wCons (wVar 8) wNil)))) (wCons (wCall (A_law_word_of CS) (wCons (wVar 3) (wCons (wVar 7) wNil))) wNil)))) (wSeq (wExpM (wOm 9 "list" oApp (wCons (wLam W_law_word N_law_word fun Rl => (wCallX Rl (A_merged CS) (wCons (wVar 7) (wCons (wVar 3) (wCons (wVar 4) wNil))))) wNil))) (wSeq (wExpM (wOm 9 "list" oApp (wCons (wLam W_law_word N_law_word fun Rl => (wCallX Rl (A_merged CS) (wCons (wVar 2) (wCons (wVar 7) (wCons (wVar 8) wNil))))) wNil))) (wSeq (wExpM (wOm 9 "list" oApp (wCons (wLam W_law_word N_law_word fun Rl => (wCallX Rl (A_merged CS) (wCons (wVar 2) (wCons (wVar 3) (wCons (wVar 7) wNil))))) wNil))) (wIfS (wTst (wOp wNe2 (wVar 9) (wFrz (wOpN wRepL (wFrz (wLst (wCons (wC (.str "table")) wNil))) (wC (.int 5)))))) (wRet (wC (.bl false))) wNext)))))))))))) (wRet (wC (.bl true)))))))
end KM

set_option Elab.async false
set_option linter.all false
set_option maxRecDepth 100000

set_option maxHeartbeats 4000000
/-! KM: the code of the draws -/
namespace KM
open PySem PySem.Spec PyProof.Rows L2 VD
section
variable {P : Program} {w : World} {K : PySem.W.Frag} {mg : Str → Option Value} {base : Heap}
theorem raw_law_pick (T : TX K mg) : DFn P w K mg base T.cl T.tabs 1 T.a_law_pick T.d_law_pick ["tape", "many"] (spec N_law_pick 2 (Wr_law_pick T.cs)) := by
  refine fn_ok T.F_law_pick sc_law_pick rfl fun cdv A outer s H E R hcd hr => ?_
  have nd := sc_law_pick.nd
  have hu := hr.u64
  have tk := takes_of (X := (cxOf (L2.CX P w) P w K mg base N_law_pick "_law_pick" (defScope s_law_pick) T.a_law_pick cdv A outer s H E)) rfl rfl rfl rfl
  have po : PassesOwn (model P w) _ _ _ := passes_of (X := (cxOf (L2.CX P w) P w K mg base N_law_pick "_law_pick" (defScope s_law_pick) T.a_law_pick cdv A outer s H E)) rfl
  exact (dss_cons (ds_if (DW.dt (dw_and (dt_cmp (o_eq2 hr.u64) (de_ix hr.u1 (dv 0) de_int) de_int (nomark _)) (dw_and1 (dt_cmp o_lt (de_ix hr.u1 (dv 0) de_int) (de_cb c_len (by rfl) T.z_len rfl (da_cons (de_ix hr.u1 (dv 0) de_int) da_nil)) (nomark _))))) (dss_cons (ds_set 2 nd (de_ix hr.u1 (de_ix hr.u1 (dv 0) de_int) (de_ix hr.u1 (dv 0) de_int))) (dss_cons (ds_asg (de_op o_add (de_ix hr.u1 (dv 0) de_int) de_int) (dg_sub hr.u1 (dv 0) de_int)) (dss_cons (ds_asg (de_op o_mod (de_ct c_int (by rfl) T.z_int rfl (da_cons (de_op o_add (de_op o_add (de_op o_mulI (de_ix hr.u1 (dv 0) de_int) de_int) (dv 2)) de_int) da_nil)) de_int) (dg_sub hr.u1 (dv 0) de_int)) (dss_one (ds_if (dt_cmp o_ge (dv 2) (de_op o_pow de_int de_int) (nomark _)) (dss_one (ds_asg (dv 2) (dg_sub hr.u1 (dv 0) de_int))) dss_nil))))) dss_nil) (dss_cons (ds_if (dt_cmp o_gt (de_ix hr.u1 (dv 0) de_int) de_int (nomark _)) (dss_cons (ds_set 3 nd (de_op o_mod (de_ct c_int (by rfl) T.z_int rfl (da_cons (de_ix hr.u1 (dv 0) de_int) da_nil)) (dv 1))) (dss_cons (ds_asg (de_op o_div (de_ix hr.u1 (dv 0) de_int) (dv 1)) (dg_sub hr.u1 (dv 0) de_int)) (dss_one (ds_ret (dv 3))))) dss_nil) (dss_cons (ds_asg (de_op o_add (de_ix hr.u1 (dv 0) de_int) de_int) (dg_sub hr.u1 (dv 0) de_int)) (dss_cons (ds_set 4 nd (de_op o_mod (de_ct c_int (by rfl) T.z_int rfl (da_cons (de_op o_mulI (de_ct c_int (by rfl) T.z_int rfl (da_cons (de_op o_add (de_ix hr.u1 (dv 0) de_int) (de_op o_mulI de_int (de_ix hr.u1 (dv 0) de_int))) da_nil)) de_int) da_nil)) de_int)) (dss_cons (ds_set 4 nd (de_op o_mod (de_ct c_int (by rfl) T.z_int rfl (da_cons (de_op o_mulI (dv 4) (de_op o_add (de_op o_div (dv 4) de_int) de_int)) da_nil)) de_int)) (dss_cons (ds_set 4 nd (de_op o_mod (de_ct c_int (by rfl) T.z_int rfl (da_cons (de_op o_mulI (dv 4) (de_op o_add (de_op o_div (dv 4) de_int) de_int)) da_nil)) de_int)) (dss_one (ds_ret (de_op o_mod (de_ct c_int (by rfl) T.z_int rfl (da_cons (de_op o_div (dv 4) de_int) da_nil)) (dv 1))))))))))
end
end KM

set_option Elab.async false
set_option linter.all false
set_option maxRecDepth 100000
set_option maxHeartbeats 4000000
/-! KM: the draws, the tape -/
namespace KM
open PySem PySem.Spec PyProof.Rows L2 VD
variable {CS : CSt} {R : RZ} {O : OO} {Q : D → OO → Prop}
theorem atN {ds : List D} {k : Int} {j : Nat} {d : D} (hk : k = (j : Int)) (h : ds[j]? = some d) : atI ds k = some d := by subst hk; exact atI_nat h
theorem t0 {a b c d e : D} : atI [a, b, c, d, e] 0 = some a := rfl
theorem t1 {a b c d e : D} : atI [a, b, c, d, e] 1 = some b := rfl
theorem t2 {a b c d e : D} : atI [a, b, c, d, e] 2 = some c := rfl
theorem t3 {a b c d e : D} : atI [a, b, c, d, e] 3 = some d := rfl
theorem t4 {a b c d e : D} : atI [a, b, c, d, e] 4 = some e := rfl
theorem ixc1 : ixN 5 1 = some 1 := rfl
theorem ixc2 : ixN 5 2 = some 2 := rfl
theorem ixc3 : ixN 5 3 = some 3 := rfl
theorem ixc4 : ixN 5 4 = some 4 := rfl
theorem cm1 {i : Int} : CMul i 69621 := .inr ⟨by decide, by decide⟩
theorem cm2 {i : Int} : CMul 7919 i := .inl ⟨by decide, by decide⟩
theorem cm3 {i : Int} : CMul i 48271 := .inr ⟨by decide, by decide⟩
theorem cm4 {x : Int} (h0 : 0 ≤ x) (h1 : x < 2147483648) {y : Int} : CMul x y := .inl ⟨by omega, by omega⟩
theorem pw18 : CPow 10 18 := ⟨by decide, by decide, by decide⟩
theorem eqC_ii {i j : Int} : eqC (.int i) (.int j) := ⟨by simp [dpD], by simp [pln]⟩
theorem dp_i {i : Int} : dpD (.int i) = 0 := by simp [dpD]
theorem eqv_ii {i j : Int} : eqvD (.int i) (.int j) = decide (i = j) := by
  by_cases h : i = j <;> simp [eqvD, h]
/-- the tape's end: only the tape is changed -/
def TapeTo (a : Addr) (m : Int) (cells : List Int) (O : OO) (Q : D → OO → Prop) : Prop := ∀ k i' g' s' n', 0 ≤ k → k < m → 0 ≤ i' → 0 ≤ g' → Q (.int k) (updO O a (.lst (tapeD cells i' g' s' n')))
def pickA : WS := (wIfS (tAndW (wTst (wOp wEq2 (wOp wIx (wVar 0) (wC (.int 2))) (wC (.int 0)))) (wTst (wOp wLt (wOp wIx (wVar 0) (wC (.int 1))) (wCB wLen (wCons (wOp wIx (wVar 0) (wC (.int 0))) wNil))))) (wSeq (wAsg (wOp wIx (wOp wIx (wVar 0) (wC (.int 0))) (wOp wIx (wVar 0) (wC (.int 1)))) (wgName 2)) (wSeq (wAsg (wOp wAdd (wOp wIx (wVar 0) (wC (.int 1))) (wC (.int 1))) (wgSub (wVar 0) (wC (.int 1)))) (wSeq (wAsg (wOp wMod (wCB wInt1 (wCons (wOp wAdd (wOp wAdd (wOp wMulI (wOp wIx (wVar 0) (wC (.int 3))) (wC (.int 69621))) (wVar 2)) (wC (.int 11))) wNil)) (wC (.int 2147483629))) (wgSub (wVar 0) (wC (.int 3)))) (wIfS (wTst (wOp wGe (wVar 2) (wOp wPow (wC (.int 10)) (wC (.int 18))))) (wAsg (wVar 2) (wgSub (wVar 0) (wC (.int 2)))) wNext)))) wNext)
def pickB : WS := (wSeq (wIfS (wTst (wOp wGt (wOp wIx (wVar 0) (wC (.int 2))) (wC (.int 0)))) (wSeq (wAsg (wOp wMod (wCB wInt1 (wCons (wOp wIx (wVar 0) (wC (.int 2))) wNil)) (wVar 1)) (wgName 3)) (wSeq (wAsg (wOp wDiv (wOp wIx (wVar 0) (wC (.int 2))) (wVar 1)) (wgSub (wVar 0) (wC (.int 2)))) (wRet (wVar 3)))) wNext) (wSeq (wAsg (wOp wAdd (wOp wIx (wVar 0) (wC (.int 4))) (wC (.int 1))) (wgSub (wVar 0) (wC (.int 4)))) (wSeq (wAsg (wOp wMod (wCB wInt1 (wCons (wOp wMulI (wCB wInt1 (wCons (wOp wAdd (wOp wIx (wVar 0) (wC (.int 3))) (wOp wMulI (wC (.int 7919)) (wOp wIx (wVar 0) (wC (.int 4))))) wNil)) (wC (.int 48271))) wNil)) (wC (.int 2147483647))) (wgName 4)) (wSeq (wAsg (wOp wMod (wCB wInt1 (wCons (wOp wMulI (wVar 4) (wOp wAdd (wOp wDiv (wVar 4) (wC (.int 1009))) (wC (.int 69621)))) wNil)) (wC (.int 2147483647))) (wgName 4)) (wSeq (wAsg (wOp wMod (wCB wInt1 (wCons (wOp wMulI (wVar 4) (wOp wAdd (wOp wDiv (wVar 4) (wC (.int 2003))) (wC (.int 40692)))) wNil)) (wC (.int 2147483399))) (wgName 4)) (wRet (wOp wMod (wCB wInt1 (wCons (wOp wDiv (wVar 4) (wC (.int 16))) wNil)) (wVar 1))))))))
theorem pick_eq : Wr_law_pick CS R = wSeq pickA pickB := rfl
theorem ret0 {p : Prop} (h : p) : p := h
theorem pick_B {a : Addr} {cells : List Int} {m i g s n : Int} {x2 : Option SV} (hm0 : 0 < m) (hm1 : m < 1073741824) (hi : 0 ≤ i) (hg : 0 ≤ g) (q : TapeTo a m cells O Q) :
    pickB (retE Q) [some (.d (.ref a)), some (.d (.int m)), x2, none, none] (updO O a (.lst (tapeD cells i g s n))) := by
  unfold pickB
  simp [wSeq, isD, wgName, wPar, setAll, wqD, wqO, wqNil, wDrop, wRetN, wIfS, wNext, wTst, blQ, wOp, wOpN, wUn, wFrz, treeC, wTmp, wLive, liveC, wOwn, wAnd, wOr, wNot, wIf, tAndW, tOrW, tNotW, wChain, wC, wVar, look, bvOf, wNil, wCons, wTup, wLst, allD, wNewK, wNewT, wCB, wCN, w1, w2, n1, wCall, wCallX, toSV, wIsi, isaQ, tyD, tyM, isaB, wLen, lenD, lenM, wLe, wLt, wGt, wGe, wAdd, wAddL, wAddN, wSub, wMulI, wDiv, wMod, wPow, wNeg, wInt2, wInt1, wCmpI, wAbs, wIx, ixB, ixL, ixM, ixK, wIn, wNotIn, keyD, wIsN, wNotN, isNonB, isNonD, wBm, mApp, appM, mPop, popM, mCnt, mIdx, itY, wDict2, wgSub, refQ, setM, setC, wgOSub, ownQ, wOm, wOmM, tyC, oApp, oPop, oPopAt, oExt, oUpd, oIns, wExpM, wSetM, wRetM, wIxM, wDPop1, wDPop2, dpQ, wFz, fzS, wFld, wSFld, wGet2, wGet1, getQ, wEq, wNe, wEq2, wNe2, eqC2, eqB, eqC, asL, asLM, asK, asKM, asS, asT, asTM, wFor, wgTup, wgCons, wgNil, wTuple, wList, wiN, wiA, kindI, seqI, seqM, wiIt, wiItT, wiItA, dctI, dctM, wiVal, dicI, dicM, wiR1, wiR2, wiEn, wiZip, lstI, wSorted, wSorted2, wSorted3, asTS, wAll, wAny, wLc, wDc, wDisp, wDispT1, wRepL, repL, keyT, keyL, wpCons, wpNil, wItems, wSl, wSlN, wPart, wNoP, wipeS, wNever, retE, wReprL, wRaise, wRaiseA, wTry, rTry, sufD, wIsX, wAct, wLam, thL, lendS, lend1, noS, sstart, rNo, wAug, -List.lookup_eq_none_iff, tapeD, t2]
  by_cases h : 0 < g
  · simp [h]
    simp [wSeq, wAsg, isD, wgName, wPar, setAll, wqD, wqO, wqNil, wDrop, wRet, wRetN, wIfS, wNext, wTst, blQ, wOp, wOpN, wUn, wFrz, treeC, wTmp, wLive, liveC, wOwn, wAnd, wOr, wNot, wIf, tAndW, tOrW, tNotW, wChain, wC, wVar, look, bvOf, wNil, wCons, wTup, wLst, allD, wNewK, wNewT, wCB, wCN, w1, w2, n1, wCall, wCallX, toSV, wIsi, isaQ, tyD, tyM, isaB, wLen, lenD, lenM, wLe, wLt, wGt, wGe, wAdd, wAddL, wAddN, wSub, wMulI, wDiv, wMod, wPow, wNeg, wInt2, wInt1, wCmpI, wAbs, wIx, ixB, ixL, ixM, ixK, wIn, wNotIn, keyD, wIsN, wNotN, isNonB, isNonD, wBm, mApp, appM, mPop, popM, mCnt, mIdx, itY, wDict2, wgSub, refQ, setM, setC, wgOSub, ownQ, wOm, wOmM, tyC, oApp, oPop, oPopAt, oExt, oUpd, oIns, wExpM, wSetM, wRetM, wIxM, wDPop1, wDPop2, dpQ, wFz, fzS, wFld, wSFld, wGet2, wGet1, getQ, wEq, wNe, wEq2, wNe2, eqC2, eqB, eqC, asL, asLM, asK, asKM, asS, asT, asTM, wFor, wgTup, wgCons, wgNil, wTuple, wList, wiN, wiA, kindI, seqI, seqM, wiIt, wiItT, wiItA, dctI, dctM, wiVal, dicI, dicM, wiR1, wiR2, wiEn, wiZip, lstI, wSorted, wSorted2, wSorted3, asTS, wAll, wAny, wLc, wDc, wDisp, wDispT1, wRepL, repL, keyT, keyL, wpCons, wpNil, wItems, wSl, wSlN, wPart, wNoP, wipeS, wNever, retE, wReprL, wRaise, wRaiseA, wTry, rTry, sufD, wIsX, wAct, wLam, thL, lendS, lend1, noS, sstart, rNo, wAug, -List.lookup_eq_none_iff, tapeD, t2, hm0, hm1, ixc2]
    exact ret0 (q (g % m) i (g / m) s n (Int.emod_nonneg _ (by omega)) (Int.emod_lt_of_pos _ hm0) hi (Int.ediv_nonneg hg (by omega)))
  · simp [h]
    simp [wSeq, wAsg, isD, wgName, wPar, setAll, wqD, wqO, wqNil, wDrop, wRet, wRetN, wIfS, wNext, wTst, blQ, wOp, wOpN, wUn, wFrz, treeC, wTmp, wLive, liveC, wOwn, wAnd, wOr, wNot, wIf, tAndW, tOrW, tNotW, wChain, wC, wVar, look, bvOf, wNil, wCons, wTup, wLst, allD, wNewK, wNewT, wCB, wCN, w1, w2, n1, wCall, wCallX, toSV, wIsi, isaQ, tyD, tyM, isaB, wLen, lenD, lenM, wLe, wLt, wGt, wGe, wAdd, wAddL, wAddN, wSub, wMulI, wDiv, wMod, wPow, wNeg, wInt2, wInt1, wCmpI, wAbs, wIx, ixB, ixL, ixM, ixK, wIn, wNotIn, keyD, wIsN, wNotN, isNonB, isNonD, wBm, mApp, appM, mPop, popM, mCnt, mIdx, itY, wDict2, wgSub, refQ, setM, setC, wgOSub, ownQ, wOm, wOmM, tyC, oApp, oPop, oPopAt, oExt, oUpd, oIns, wExpM, wSetM, wRetM, wIxM, wDPop1, wDPop2, dpQ, wFz, fzS, wFld, wSFld, wGet2, wGet1, getQ, wEq, wNe, wEq2, wNe2, eqC2, eqB, eqC, asL, asLM, asK, asKM, asS, asT, asTM, wFor, wgTup, wgCons, wgNil, wTuple, wList, wiN, wiA, kindI, seqI, seqM, wiIt, wiItT, wiItA, dctI, dctM, wiVal, dicI, dicM, wiR1, wiR2, wiEn, wiZip, lstI, wSorted, wSorted2, wSorted3, asTS, wAll, wAny, wLc, wDc, wDisp, wDispT1, wRepL, repL, keyT, keyL, wpCons, wpNil, wItems, wSl, wSlN, wPart, wNoP, wipeS, wNever, retE, wReprL, wRaise, wRaiseA, wTry, rTry, sufD, wIsX, wAct, wLam, thL, lendS, lend1, noS, sstart, rNo, wAug, -List.lookup_eq_none_iff, tapeD, t2, t3, t4, hm0, hm1, ixc4, cm1, cm2, cm3]
    have r1 : ∀ y : Int, 0 ≤ y % 2147483647 ∧ y % 2147483647 < 2147483648 := fun y => by omega
    refine ⟨cm4 (r1 _).1 (r1 _).2, cm4 (r1 _).1 (r1 _).2, ?_⟩
    exact ret0 (q _ i g s (n + 1) (Int.emod_nonneg _ (by omega)) (Int.emod_lt_of_pos _ hm0) hi hg)
theorem wSeq_app (a b : WS) (D' : DEnds) (s : SD) (O : OO) : wSeq a b D' s O = a { D' with nx := b D' } s O := rfl
theorem law_law_pick {a : Addr} {m : Int} {cells i g s n} (ok : TapeOk cells i g) (hm0 : 0 < m) (hm1 : m < 1073741824) (ha : O a = some (.lst (tapeD cells i g s n)))
    (q : ∀ k cells' i' g' s' n', 0 ≤ k → k < m → TapeOk cells' i' g' → Q (.int k) (updO O a (.lst (tapeD cells' i' g' s' n')))) :
    Wr_law_pick CS R (retE Q) (sstart N_law_pick [.d (.ref a), .d (.int m)]) O := by
  obtain ⟨hc, hi, hg⟩ := ok
  have fin : TapeTo a m cells O Q := fun k i' g' s' n' h1 h2 h3 h4 => q k cells i' g' s' n' h1 h2 ⟨hc, h3, h4⟩
  have eO : O = updO O a (.lst (tapeD cells i g s n)) := (updO_self ha).symm
  rw [pick_eq]
  show pickA { retE Q with nx := pickB (retE Q) } [some (.d (.ref a)), some (.d (.int m)), none, none, none] O
  have key : ∀ x2 i' g' s' n', 0 ≤ i' → 0 ≤ g' → pickB (retE Q) [some (.d (.ref a)), some (.d (.int m)), x2, none, none] (updO O a (.lst (tapeD cells i' g' s' n'))) := fun x2 i' g' s' n' h1 h2 => pick_B hm0 hm1 h1 h2 fin
  generalize pickB (retE Q) = R at key ⊢
  unfold pickA
  simp [wSeq, isD, wgName, wPar, setAll, wqD, wqO, wqNil, wDrop, wRet, wRetN, wIfS, wNext, wTst, blQ, wOp, wOpN, wUn, wFrz, treeC, wTmp, wLive, liveC, wOwn, wAnd, wOr, wNot, wIf, tAndW, tOrW, tNotW, wChain, wC, wVar, look, bvOf, wNil, wCons, wTup, wLst, allD, wNewK, wNewT, wCB, wCN, w1, w2, n1, wCall, wCallX, toSV, wIsi, isaQ, tyD, tyM, isaB, wLen, lenD, lenM, wLe, wLt, wGt, wGe, wAdd, wAddL, wAddN, wSub, wMulI, wDiv, wMod, wPow, wNeg, wInt2, wInt1, wCmpI, wAbs, wIx, ixB, ixL, ixM, ixK, wIn, wNotIn, keyD, wIsN, wNotN, isNonB, isNonD, wBm, mApp, appM, mPop, popM, mCnt, mIdx, itY, wDict2, wgSub, refQ, setM, setC, wgOSub, ownQ, wOm, wOmM, tyC, oApp, oPop, oPopAt, oExt, oUpd, oIns, wExpM, wSetM, wRetM, wIxM, wDPop1, wDPop2, dpQ, wFz, fzS, wFld, wSFld, wGet2, wGet1, getQ, wEq, wNe, wEq2, wNe2, eqC2, eqB, eqC, asL, asLM, asK, asKM, asS, asT, asTM, wFor, wgTup, wgCons, wgNil, wTuple, wList, wiN, wiA, kindI, seqI, seqM, wiIt, wiItT, wiItA, dctI, dctM, wiVal, dicI, dicM, wiR1, wiR2, wiEn, wiZip, lstI, wSorted, wSorted2, wSorted3, asTS, wAll, wAny, wLc, wDc, wDisp, wDispT1, wRepL, repL, keyT, keyL, wpCons, wpNil, wItems, wSl, wSlN, wPart, wNoP, wipeS, wNever, retE, wReprL, wRaise, wRaiseA, wTry, rTry, sufD, wIsX, wAct, wLam, thL, lendS, lend1, noS, sstart, rNo, wAug, -List.lookup_eq_none_iff, ha, tapeD, t0, t1, t2, dp_i, eqv_ii]
  by_cases h1 : g = 0
  · by_cases h2 : i < (cells.length : Int)
    · have hj : i.toNat < cells.length := by omega
      have ec : atI (cells.map D.int) i = some (.int cells[i.toNat]) := atN (j := i.toNat) (by omega) (by simp [hj])
      have hcell := hc _ (List.getElem_mem hj)
      simp [h1, h2]
      generalize cells[i.toNat] = cell at *
      simp [wAsg, isD, wgName, wPar, setAll, wqD, wqO, wqNil, wDrop, wRet, wRetN, wIfS, wNext, wTst, blQ, wOp, wOpN, wUn, wFrz, treeC, wTmp, wLive, liveC, wOwn, wAnd, wOr, wNot, wIf, tAndW, tOrW, tNotW, wChain, wC, wVar, look, bvOf, wNil, wCons, wTup, wLst, allD, wNewK, wNewT, wCB, wCN, w1, w2, n1, wCall, wCallX, toSV, wIsi, isaQ, tyD, tyM, isaB, wLen, lenD, lenM, wLe, wLt, wGt, wGe, wAdd, wAddL, wAddN, wSub, wMulI, wDiv, wMod, wPow, wNeg, wInt2, wInt1, wCmpI, wAbs, wIx, ixB, ixL, ixM, ixK, wIn, wNotIn, keyD, wIsN, wNotN, isNonB, isNonD, wBm, mApp, appM, mPop, popM, mCnt, mIdx, itY, wDict2, wgSub, refQ, setM, setC, wgOSub, ownQ, wOm, wOmM, tyC, oApp, oPop, oPopAt, oExt, oUpd, oIns, wExpM, wSetM, wRetM, wIxM, wDPop1, wDPop2, dpQ, wFz, fzS, wFld, wSFld, wGet2, wGet1, getQ, wEq, wNe, wEq2, wNe2, eqC2, eqB, eqC, asL, asLM, asK, asKM, asS, asT, asTM, wFor, wgTup, wgCons, wgNil, wTuple, wList, wiN, wiA, kindI, seqI, seqM, wiIt, wiItT, wiItA, dctI, dctM, wiVal, dicI, dicM, wiR1, wiR2, wiEn, wiZip, lstI, wSorted, wSorted2, wSorted3, asTS, wAll, wAny, wLc, wDc, wDisp, wDispT1, wRepL, repL, keyT, keyL, wpCons, wpNil, wItems, wSl, wSlN, wPart, wNoP, wipeS, wNever, retE, wReprL, wRaise, wRaiseA, wTry, rTry, sufD, wIsX, wAct, wLam, thL, lendS, lend1, noS, sstart, rNo, wAug, -List.lookup_eq_none_iff, ha, tapeD, t0, t1, t2, t3, ec]
      rw [wSeq_app]
      simp [wAsg, isD, wgName, wPar, setAll, wqD, wqO, wqNil, wDrop, wRet, wRetN, wIfS, wNext, wTst, blQ, wOp, wOpN, wUn, wFrz, treeC, wTmp, wLive, liveC, wOwn, wAnd, wOr, wNot, wIf, tAndW, tOrW, tNotW, wChain, wC, wVar, look, bvOf, wNil, wCons, wTup, wLst, allD, wNewK, wNewT, wCB, wCN, w1, w2, n1, wCall, wCallX, toSV, wIsi, isaQ, tyD, tyM, isaB, wLen, lenD, lenM, wLe, wLt, wGt, wGe, wAdd, wAddL, wAddN, wSub, wMulI, wDiv, wMod, wPow, wNeg, wInt2, wInt1, wCmpI, wAbs, wIx, ixB, ixL, ixM, ixK, wIn, wNotIn, keyD, wIsN, wNotN, isNonB, isNonD, wBm, mApp, appM, mPop, popM, mCnt, mIdx, itY, wDict2, wgSub, refQ, setM, setC, wgOSub, ownQ, wOm, wOmM, tyC, oApp, oPop, oPopAt, oExt, oUpd, oIns, wExpM, wSetM, wRetM, wIxM, wDPop1, wDPop2, dpQ, wFz, fzS, wFld, wSFld, wGet2, wGet1, getQ, wEq, wNe, wEq2, wNe2, eqC2, eqB, eqC, asL, asLM, asK, asKM, asS, asT, asTM, wFor, wgTup, wgCons, wgNil, wTuple, wList, wiN, wiA, kindI, seqI, seqM, wiIt, wiItT, wiItA, dctI, dctM, wiVal, dicI, dicM, wiR1, wiR2, wiEn, wiZip, lstI, wSorted, wSorted2, wSorted3, asTS, wAll, wAny, wLc, wDc, wDisp, wDispT1, wRepL, repL, keyT, keyL, wpCons, wpNil, wItems, wSl, wSlN, wPart, wNoP, wipeS, wNever, retE, wReprL, wRaise, wRaiseA, wTry, rTry, sufD, wIsX, wAct, wLam, thL, lendS, lend1, noS, sstart, rNo, wAug, -List.lookup_eq_none_iff, ha, tapeD, t0, t1, t2, t3, ec, ixc1]
      rw [wSeq_app]
      simp [wAsg, isD, wgName, wPar, setAll, wqD, wqO, wqNil, wDrop, wRet, wRetN, wNext, wTst, blQ, wOp, wOpN, wUn, wFrz, treeC, wTmp, wLive, liveC, wOwn, wAnd, wOr, wNot, wIf, tAndW, tOrW, tNotW, wChain, wC, wVar, look, bvOf, wNil, wCons, wTup, wLst, allD, wNewK, wNewT, wCB, wCN, w1, w2, n1, wCall, wCallX, toSV, wIsi, isaQ, tyD, tyM, isaB, wLen, lenD, lenM, wLe, wLt, wGt, wGe, wAdd, wAddL, wAddN, wSub, wMulI, wDiv, wMod, wPow, wNeg, wInt2, wInt1, wCmpI, wAbs, wIx, ixB, ixL, ixM, ixK, wIn, wNotIn, keyD, wIsN, wNotN, isNonB, isNonD, wBm, mApp, appM, mPop, popM, mCnt, mIdx, itY, wDict2, wgSub, refQ, setM, setC, wgOSub, ownQ, wOm, wOmM, tyC, oApp, oPop, oPopAt, oExt, oUpd, oIns, wExpM, wSetM, wRetM, wIxM, wDPop1, wDPop2, dpQ, wFz, fzS, wFld, wSFld, wGet2, wGet1, getQ, wEq, wNe, wEq2, wNe2, eqC2, eqB, eqC, asL, asLM, asK, asKM, asS, asT, asTM, wFor, wgTup, wgCons, wgNil, wTuple, wList, wiN, wiA, kindI, seqI, seqM, wiIt, wiItT, wiItA, dctI, dctM, wiVal, dicI, dicM, wiR1, wiR2, wiEn, wiZip, lstI, wSorted, wSorted2, wSorted3, asTS, wAll, wAny, wLc, wDc, wDisp, wDispT1, wRepL, repL, keyT, keyL, wpCons, wpNil, wItems, wSl, wSlN, wPart, wNoP, wipeS, wNever, retE, wReprL, wRaise, wRaiseA, wTry, rTry, sufD, wIsX, wAct, wLam, thL, lendS, lend1, noS, sstart, rNo, wAug, -List.lookup_eq_none_iff, ha, tapeD, t0, t1, t2, t3, ec, ixc3, cm1]
      simp [wAsg, isD, wgName, wPar, setAll, wqD, wqO, wqNil, wDrop, wRet, wRetN, wIfS, wNext, wTst, blQ, wOp, wOpN, wUn, wFrz, treeC, wTmp, wLive, liveC, wOwn, wAnd, wOr, wNot, wIf, tAndW, tOrW, tNotW, wChain, wC, wVar, look, bvOf, wNil, wCons, wTup, wLst, allD, wNewK, wNewT, wCB, wCN, w1, w2, n1, wCall, wCallX, toSV, wIsi, isaQ, tyD, tyM, isaB, wLen, lenD, lenM, wLe, wLt, wGt, wGe, wAdd, wAddL, wAddN, wSub, wMulI, wDiv, wMod, wPow, wNeg, wInt2, wInt1, wCmpI, wAbs, wIx, ixB, ixL, ixM, ixK, wIn, wNotIn, keyD, wIsN, wNotN, isNonB, isNonD, wBm, mApp, appM, mPop, popM, mCnt, mIdx, itY, wDict2, wgSub, refQ, setM, setC, wgOSub, ownQ, wOm, wOmM, tyC, oApp, oPop, oPopAt, oExt, oUpd, oIns, wExpM, wSetM, wRetM, wIxM, wDPop1, wDPop2, dpQ, wFz, fzS, wFld, wSFld, wGet2, wGet1, getQ, wEq, wNe, wEq2, wNe2, eqC2, eqB, eqC, asL, asLM, asK, asKM, asS, asT, asTM, wFor, wgTup, wgCons, wgNil, wTuple, wList, wiN, wiA, kindI, seqI, seqM, wiIt, wiItT, wiItA, dctI, dctM, wiVal, dicI, dicM, wiR1, wiR2, wiEn, wiZip, lstI, wSorted, wSorted2, wSorted3, asTS, wAll, wAny, wLc, wDc, wDisp, wDispT1, wRepL, repL, keyT, keyL, wpCons, wpNil, wItems, wSl, wSlN, wPart, wNoP, wipeS, wNever, retE, wReprL, wRaise, wRaiseA, wTry, rTry, sufD, wIsX, wAct, wLam, thL, lendS, lend1, noS, sstart, rNo, wAug, -List.lookup_eq_none_iff, ha, tapeD, t0, t1, t2, t3, ec, ixc2, pw18]
      by_cases h3 : 1000000000000000000 ≤ cell
      · simp [h3]
        exact key _ (i + 1) cell _ _ (by omega) hcell
      · simp [h3]
        exact key _ (i + 1) g _ _ (by omega) hg
    · simp [h1, h2]
      rw [eO]
      exact key _ _ _ _ _ hi hg
  · simp [h1]
    rw [eO]
    exact key _ _ _ _ _ hi hg
section
variable {P : Program} {w : World} {K : PySem.W.Frag} {mg : Str → Option Value} {base : Heap}
theorem ok_law_pick (T : TX K mg) : DFn P w K mg base T.cl T.tabs 1 T.a_law_pick T.d_law_pick ["tape", "many"] (A_law_pick T.cs) :=
  fn_draw (raw_law_pick T) fun a m cells i g s n O Q ok h0 h1 ha q => ⟨rfl, law_law_pick ok h0 h1 ha q⟩
end
end KM

set_option Elab.async false
set_option linter.all false
set_option maxRecDepth 100000

set_option maxHeartbeats 4000000
/-! KM: the derivations -/
namespace KM
open PySem PySem.Spec PyProof.Rows L2 VD
section
variable {P : Program} {w : World} {K : PySem.W.Frag} {mg : Str → Option Value} {base : Heap}
theorem ok_is_integer (T : TX K mg) : DFn P w K mg base T.cl T.tabs 1 T.a_is_integer T.d_is_integer ["thing"] (A_is_integer T.cs) := by
  refine fn_ok T.F_is_integer sc_is_integer rfl fun cdv A outer s H E R hcd hr => ?_
  have nd := sc_is_integer.nd
  have hu := hr.u64
  have tk := takes_of (X := (cxOf (L2.CX P w) P w K mg base N_is_integer "is_integer" (defScope s_is_integer) T.a_is_integer cdv A outer s H E)) rfl rfl rfl rfl
  have po : PassesOwn (model P w) _ _ _ := passes_of (X := (cxOf (L2.CX P w) P w K mg base N_is_integer "is_integer" (defScope s_is_integer) T.a_is_integer cdv A outer s H E)) rfl
  exact (dss_one (ds_ret (de_and (de_cb c_isi (by rfl) T.z_isinstance rfl (da_cons (dv 0) (da_cons (de_gty (by rfl) T.z_int rfl) da_nil))) (de_one (de_not (de_cb c_isi (by rfl) T.z_isinstance rfl (da_cons (dv 0) (da_cons (de_gty (by rfl) T.z_bool rfl) da_nil))))))))
theorem ok_is_within (T : TX K mg) : DFn P w K mg base T.cl T.tabs 2 T.a_is_within T.d_is_within ["thing", "least", "most"] (A_is_within T.cs) := by
  refine fn_ok T.F_is_within sc_is_within rfl fun cdv A outer s H E R hcd hr => ?_
  have nd := sc_is_within.nd
  have hu := hr.u64
  have tk := takes_of (X := (cxOf (L2.CX P w) P w K mg base N_is_within "is_within" (defScope s_is_within) T.a_is_within cdv A outer s H E)) rfl rfl rfl rfl
  have po : PassesOwn (model P w) _ _ _ := passes_of (X := (cxOf (L2.CX P w) P w K mg base N_is_within "is_within" (defScope s_is_within) T.a_is_within cdv A outer s H E)) rfl
  exact (dss_one (ds_ret (de_and (de_call ((ok_is_integer T).mono (by decide)) hr (by rfl) T.m_is_integer T.F_is_integer.kp T.b_is_integer (da_cons (dv 0) da_nil)) (de_one (de_chain o_le o_le (dv 1) (dv 0) (dv 2))))))
theorem ok_is_name (T : TX K mg) : DFn P w K mg base T.cl T.tabs 1 T.a_is_name T.d_is_name ["thing"] (A_is_name T.cs) := by
  refine fn_ok T.F_is_name sc_is_name rfl fun cdv A outer s H E R hcd hr => ?_
  have nd := sc_is_name.nd
  have hu := hr.u64
  have tk := takes_of (X := (cxOf (L2.CX P w) P w K mg base N_is_name "is_name" (defScope s_is_name) T.a_is_name cdv A outer s H E)) rfl rfl rfl rfl
  have po : PassesOwn (model P w) _ _ _ := passes_of (X := (cxOf (L2.CX P w) P w K mg base N_is_name "is_name" (defScope s_is_name) T.a_is_name cdv A outer s H E)) rfl
  exact (dss_one (ds_ret (de_and (de_cb c_isi (by rfl) T.z_isinstance rfl (da_cons (dv 0) (da_cons (de_gty (by rfl) T.z_str rfl) da_nil))) (de_and (de_chain o_le o_le de_int (de_cb c_len (by rfl) T.z_len rfl (da_cons (dv 0) da_nil)) de_int) (de_one (de_cb (c_all rfl) (by rfl) T.z_all rfl (da_cons (de_frz (dn_lc (own := [("sign", 1)]) rfl nd (di_name (st := false) 0) (blkOk_by (own := [("sign", 1)]) (N := N_is_name) (sc := defScope s_is_name) (by decide +kernel)) (fun _ _ _ _ _ => (dgw_name 1 nd (by decide))) (fun _ _ _ _ _ => dts_nil) (fun _ _ _ _ _ => (de_chain o_le o_le de_str (dv 1) de_str)))) da_nil)))))))
theorem ok_is_word (T : TX K mg) : DFn P w K mg base T.cl T.tabs 1 T.a_is_word T.d_is_word ["thing"] (A_is_word T.cs) := by
  refine fn_ok T.F_is_word sc_is_word rfl fun cdv A outer s H E R hcd hr => ?_
  have nd := sc_is_word.nd
  have hu := hr.u64
  have tk := takes_of (X := (cxOf (L2.CX P w) P w K mg base N_is_word "is_word" (defScope s_is_word) T.a_is_word cdv A outer s H E)) rfl rfl rfl rfl
  have po : PassesOwn (model P w) _ _ _ := passes_of (X := (cxOf (L2.CX P w) P w K mg base N_is_word "is_word" (defScope s_is_word) T.a_is_word cdv A outer s H E)) rfl
  exact (dss_one (ds_ret (de_and (de_cb c_isi (by rfl) T.z_isinstance rfl (da_cons (dv 0) (da_cons (de_gty (by rfl) T.z_str rfl) da_nil))) (de_and (de_cmp o_le (de_cb c_len (by rfl) T.z_len rfl (da_cons (dv 0) da_nil)) (de_gint (by rfl) T.k_MOST_SIGNS) (nomark _)) (de_one (de_cb (c_all rfl) (by rfl) T.z_all rfl (da_cons (de_frz (dn_lc (own := [("sign", 1)]) rfl nd (di_name (st := false) 0) (blkOk_by (own := [("sign", 1)]) (N := N_is_word) (sc := defScope s_is_word) (by decide +kernel)) (fun _ _ _ _ _ => (dgw_name 1 nd (by decide))) (fun _ _ _ _ _ => dts_nil) (fun _ _ _ _ _ => (de_chain o_le o_le de_str (dv 1) de_str)))) da_nil)))))))
theorem ok_is_value (T : TX K mg) : DFn P w K mg base T.cl T.tabs 3 T.a_is_value T.d_is_value ["thing"] (A_is_value T.cs) := by
  refine fn_ok T.F_is_value sc_is_value rfl fun cdv A outer s H E R hcd hr => ?_
  have nd := sc_is_value.nd
  have hu := hr.u64
  have tk := takes_of (X := (cxOf (L2.CX P w) P w K mg base N_is_value "is_value" (defScope s_is_value) T.a_is_value cdv A outer s H E)) rfl rfl rfl rfl
  have po : PassesOwn (model P w) _ _ _ := passes_of (X := (cxOf (L2.CX P w) P w K mg base N_is_value "is_value" (defScope s_is_value) T.a_is_value cdv A outer s H E)) rfl
  exact (dss_one (ds_ret (de_or (de_call ((ok_is_word T).mono (by decide)) hr (by rfl) T.m_is_word T.F_is_word.kp T.b_is_word (da_cons (dv 0) da_nil)) (de_one (de_call ((ok_is_within T).mono (by decide)) hr (by rfl) T.m_is_within T.F_is_within.kp T.b_is_within (da_cons (dv 0) (da_cons (de_un o_neg (de_gint (by rfl) T.k_MOST_VALUE)) (da_cons (de_gint (by rfl) T.k_MOST_VALUE) da_nil))))))))
theorem ok_is_flat_table (T : TX K mg) : DFn P w K mg base T.cl T.tabs 4 T.a_is_flat_table T.d_is_flat_table ["thing"] (A_is_flat_table T.cs) := by
  refine fn_ok T.F_is_flat_table sc_is_flat_table rfl fun cdv A outer s H E R hcd hr => ?_
  have nd := sc_is_flat_table.nd
  have hu := hr.u64
  have tk := takes_of (X := (cxOf (L2.CX P w) P w K mg base N_is_flat_table "is_flat_table" (defScope s_is_flat_table) T.a_is_flat_table cdv A outer s H E)) rfl rfl rfl rfl
  have po : PassesOwn (model P w) _ _ _ := passes_of (X := (cxOf (L2.CX P w) P w K mg base N_is_flat_table "is_flat_table" (defScope s_is_flat_table) T.a_is_flat_table cdv A outer s H E)) rfl
  exact (dss_cons (ds_if (DW.dt (dw_or (dt_not (dt_val (de_cb c_isi (by rfl) T.z_isinstance rfl (da_cons (dv 0) (da_cons (de_gty (by rfl) T.z_dict rfl) da_nil))))) (dw_or1 (dt_cmp o_gt (de_cb c_len (by rfl) T.z_len rfl (da_cons (dv 0) da_nil)) (de_gint (by rfl) T.k_MOST_NAMES) (nomark _))))) (dss_one (ds_ret de_bl)) dss_nil) (dss_one (ds_ret (de_cb (c_all rfl) (by rfl) T.z_all rfl (da_cons (de_frz (dn_lc (own := [("name", 1), ("value", 2)]) rfl nd (di_itemsA (st := false) (dv 0)) (blkOk_by (own := [("name", 1), ("value", 2)]) (N := N_is_flat_table) (sc := defScope s_is_flat_table) (by decide +kernel)) (fun _ _ _ _ _ => (dgw_tup rfl (dgws_cons (dgw_name 1 nd (by decide)) (dgws_cons (dgw_name 2 nd (by decide)) dgws_nil)))) (fun _ _ _ _ _ => dts_nil) (fun _ _ _ _ _ => (de_and (de_call ((ok_is_name T).mono (by decide)) hr (by rfl) T.m_is_name T.F_is_name.kp T.b_is_name (da_cons (dv 1) da_nil)) (de_one (de_call ((ok_is_value T).mono (by decide)) hr (by rfl) T.m_is_value T.F_is_value.kp T.b_is_value (da_cons (dv 2) da_nil))))))) da_nil)))))
theorem ok_check_flat (T : TX K mg) : DFn P w K mg base T.cl T.tabs 5 T.a_check_flat T.d_check_flat ["table"] (A_check_flat T.cs) := by
  refine fn_ok T.F_check_flat sc_check_flat rfl fun cdv A outer s H E R hcd hr => ?_
  have nd := sc_check_flat.nd
  have hu := hr.u64
  have tk := takes_of (X := (cxOf (L2.CX P w) P w K mg base N_check_flat "check_flat" (defScope s_check_flat) T.a_check_flat cdv A outer s H E)) rfl rfl rfl rfl
  have po : PassesOwn (model P w) _ _ _ := passes_of (X := (cxOf (L2.CX P w) P w K mg base N_check_flat "check_flat" (defScope s_check_flat) T.a_check_flat cdv A outer s H E)) rfl
  exact (dss_one (ds_if (dt_not (dt_val (de_call ((ok_is_flat_table T).mono (by decide)) hr (by rfl) T.m_is_flat_table T.F_is_flat_table.kp T.b_is_flat_table (da_cons (dv 0) da_nil)))) (dss_one (ds_raise0 0 PySem.F.excBase_ValueError rfl tk T.x_NoTable rfl (by rfl))) dss_nil))
theorem ok_all_names (T : TX K mg) : DFn P w K mg base T.cl T.tabs 1 T.a_all_names T.d_all_names ["tables"] (A_all_names T.cs) := by
  refine fn_ok T.F_all_names sc_all_names rfl fun cdv A outer s H E R hcd hr => ?_
  have nd := sc_all_names.nd
  have hu := hr.u64
  have tk := takes_of (X := (cxOf (L2.CX P w) P w K mg base N_all_names "all_names" (defScope s_all_names) T.a_all_names cdv A outer s H E)) rfl rfl rfl rfl
  have po : PassesOwn (model P w) _ _ _ := passes_of (X := (cxOf (L2.CX P w) P w K mg base N_all_names "all_names" (defScope s_all_names) T.a_all_names cdv A outer s H E)) rfl
  exact (dss_cons (ds_own 1 nd dn_newK) (dss_cons (ds_for po rfl (di_name (st := true) 0) (dg_name 2 nd) (dss_one (ds_exprM (dm_om 1 PySem.F.plainAttrs_dict PySem.F.slot_dict_update PySem.F.type_dict_update om_upd (da_cons (dv 2) da_nil))))) (dss_one (ds_ret (de_frz (dn_cb (c_sorted2 rfl) (by rfl) T.z_sorted rfl (da_cons (dv 1) da_nil)))))))
theorem ok_difference (T : TX K mg) : DFn P w K mg base T.cl T.tabs 6 T.a_difference T.d_difference ["one", "other"] (A_difference T.cs) := by
  refine fn_ok T.F_difference sc_difference rfl fun cdv A outer s H E R hcd hr => ?_
  have nd := sc_difference.nd
  have hu := hr.u64
  have tk := takes_of (X := (cxOf (L2.CX P w) P w K mg base N_difference "difference" (defScope s_difference) T.a_difference cdv A outer s H E)) rfl rfl rfl rfl
  have po : PassesOwn (model P w) _ _ _ := passes_of (X := (cxOf (L2.CX P w) P w K mg base N_difference "difference" (defScope s_difference) T.a_difference cdv A outer s H E)) rfl
  exact (dss_cons (ds_expr (de_callX tk ((ok_check_flat T).mono (by decide)) hr (by rfl) T.m_check_flat T.F_check_flat.kp T.b_check_flat (da_cons (dv 0) da_nil))) (dss_cons (ds_expr (de_callX tk ((ok_check_flat T).mono (by decide)) hr (by rfl) T.m_check_flat T.F_check_flat.kp T.b_check_flat (da_cons (dv 1) da_nil))) (dss_cons (ds_own 2 nd dn_newK) (dss_cons (ds_for po rfl (di_list (st := true) (de_call ((ok_all_names T).mono (by decide)) hr (by rfl) T.m_all_names T.F_all_names.kp T.b_all_names (da_cons (de_frz (dn_lst (da_cons (dv 0) (da_cons (dv 1) da_nil)))) da_nil))) (dg_name 3 nd) (dss_cons (ds_set 4 nd (de_tup (da_cons (de_get2 hr.u1 (dv 0) (dv 3) de_non) (da_cons (de_get2 hr.u1 (dv 1) (dv 3) de_non) da_nil)))) (dss_one (ds_if (dt_cmp (o_ne2 hr.u64) (de_ix hr.u1 (dv 4) de_int) (de_ix hr.u1 (dv 4) de_int) (nomark _)) (dss_one (ds_asg (dv 4) (dg_osub 2 hr.u1 (dv 3)))) dss_nil)))) (dss_fz 2 (dss_one (ds_ret (dv 2))))))))
theorem ok_merged_value (T : TX K mg) : DFn P w K mg base T.cl T.tabs 1 T.a_merged_value T.d_merged_value ["old", "first", "second"] (A_merged_value T.cs) := by
  refine fn_ok T.F_merged_value sc_merged_value rfl fun cdv A outer s H E R hcd hr => ?_
  have nd := sc_merged_value.nd
  have hu := hr.u64
  have tk := takes_of (X := (cxOf (L2.CX P w) P w K mg base N_merged_value "merged_value" (defScope s_merged_value) T.a_merged_value cdv A outer s H E)) rfl rfl rfl rfl
  have po : PassesOwn (model P w) _ _ _ := passes_of (X := (cxOf (L2.CX P w) P w K mg base N_merged_value "merged_value" (defScope s_merged_value) T.a_merged_value cdv A outer s H E)) rfl
  exact (dss_cons (ds_if (DW.dt (dw_or (dt_cmp (o_eq2 hr.u64) (dv 1) (dv 2) (nomark _)) (dw_or1 (dt_cmp (o_eq2 hr.u64) (dv 2) (dv 0) (nomark _))))) (dss_one (ds_ret (de_tup (da_cons (dv 1) (da_cons de_bl da_nil))))) dss_nil) (dss_one (ds_ret (de_if (dt_cmp (o_eq2 hr.u64) (dv 1) (dv 0) (nomark _)) (de_tup (da_cons (dv 2) (da_cons de_bl da_nil))) (de_tup (da_cons (dv 1) (da_cons de_bl da_nil)))))))
theorem ok_raw_merged (T : TX K mg) : DFn P w K mg base T.cl T.tabs 2 T.a_raw_merged T.d_raw_merged ["base", "one", "other"] (A_raw_merged T.cs) := by
  refine fn_ok T.F_raw_merged sc_raw_merged rfl fun cdv A outer s H E R hcd hr => ?_
  have nd := sc_raw_merged.nd
  have hu := hr.u64
  have tk := takes_of (X := (cxOf (L2.CX P w) P w K mg base N_raw_merged "raw_merged" (defScope s_raw_merged) T.a_raw_merged cdv A outer s H E)) rfl rfl rfl rfl
  have po : PassesOwn (model P w) _ _ _ := passes_of (X := (cxOf (L2.CX P w) P w K mg base N_raw_merged "raw_merged" (defScope s_raw_merged) T.a_raw_merged cdv A outer s H E)) rfl
  exact (dss_cons (ds_par 3 4 rfl nd (dq_o dn_newK (dq_o (dn_lst da_nil) dq_nil))) (dss_cons (ds_for po rfl (di_list (st := true) (de_call ((ok_all_names T).mono (by decide)) hr (by rfl) T.m_all_names T.F_all_names.kp T.b_all_names (da_cons (de_frz (dn_lst (da_cons (dv 0) (da_cons (dv 1) (da_cons (dv 2) da_nil))))) da_nil))) (dg_name 5 nd) (dss_cons (ds_set 6 nd (de_call ((ok_merged_value T).mono (by decide)) hr (by rfl) T.m_merged_value T.F_merged_value.kp T.b_merged_value (da_cons (de_get2 hr.u1 (dv 0) (dv 5) de_non) (da_cons (de_get2 hr.u1 (dv 1) (dv 5) de_non) (da_cons (de_get2 hr.u1 (dv 2) (dv 5) de_non) da_nil))))) (dss_cons (ds_if (dt_cmp o_notN (de_ix hr.u1 (dv 6) de_int) de_non (nomark _)) (dss_one (ds_asg (de_ix hr.u1 (dv 6) de_int) (dg_osub 3 hr.u1 (dv 5)))) dss_nil) (dss_one (ds_if (dt_val (de_ix hr.u1 (dv 6) de_int)) (dss_one (ds_exprM (dm_om 4 PySem.F.plainAttrs_list PySem.F.slot_list_append PySem.F.type_list_append om_app (da_cons (dv 5) da_nil)))) dss_nil))))) (dss_fz 3 (dss_one (ds_ret (de_tup (da_cons (dv 3) (da_cons (de_ct c_tuple (by rfl) T.z_tuple rfl (da_cons (dv 4) da_nil)) da_nil))))))))
theorem ok_merged (T : TX K mg) : DFn P w K mg base T.cl T.tabs 6 T.a_merged T.d_merged ["base", "one", "other"] (A_merged T.cs) := by
  refine fn_ok T.F_merged sc_merged rfl fun cdv A outer s H E R hcd hr => ?_
  have nd := sc_merged.nd
  have hu := hr.u64
  have tk := takes_of (X := (cxOf (L2.CX P w) P w K mg base N_merged "merged" (defScope s_merged) T.a_merged cdv A outer s H E)) rfl rfl rfl rfl
  have po : PassesOwn (model P w) _ _ _ := passes_of (X := (cxOf (L2.CX P w) P w K mg base N_merged "merged" (defScope s_merged) T.a_merged cdv A outer s H E)) rfl
  exact (dss_cons (ds_expr (de_callX tk ((ok_check_flat T).mono (by decide)) hr (by rfl) T.m_check_flat T.F_check_flat.kp T.b_check_flat (da_cons (dv 0) da_nil))) (dss_cons (ds_expr (de_callX tk ((ok_check_flat T).mono (by decide)) hr (by rfl) T.m_check_flat T.F_check_flat.kp T.b_check_flat (da_cons (dv 1) da_nil))) (dss_cons (ds_expr (de_callX tk ((ok_check_flat T).mono (by decide)) hr (by rfl) T.m_check_flat T.F_check_flat.kp T.b_check_flat (da_cons (dv 2) da_nil))) (dss_one (ds_ret (de_call ((ok_raw_merged T).mono (by decide)) hr (by rfl) T.m_raw_merged T.F_raw_merged.kp T.b_raw_merged (da_cons (dv 0) (da_cons (dv 1) (da_cons (dv 2) da_nil)))))))))
theorem ok_law_any (T : TX K mg) : DFn P w K mg base T.cl T.tabs 2 T.a_law_any T.d_law_any ["tape", "things"] (A_law_any T.cs) := by
  refine fn_ok T.F_law_any sc_law_any rfl fun cdv A outer s H E R hcd hr => ?_
  have nd := sc_law_any.nd
  have hu := hr.u64
  have tk := takes_of (X := (cxOf (L2.CX P w) P w K mg base N_law_any "_law_any" (defScope s_law_any) T.a_law_any cdv A outer s H E)) rfl rfl rfl rfl
  have po : PassesOwn (model P w) _ _ _ := passes_of (X := (cxOf (L2.CX P w) P w K mg base N_law_any "_law_any" (defScope s_law_any) T.a_law_any cdv A outer s H E)) rfl
  exact (dss_one (ds_ret (de_ix hr.u1 (dv 1) (de_call ((ok_law_pick T).mono (by decide)) hr (by rfl) T.m_law_pick T.F_law_pick.kp T.b_law_pick (da_cons (dv 0) (da_cons (de_cb c_len (by rfl) T.z_len rfl (da_cons (dv 1) da_nil)) da_nil))))))
theorem ok_law_table (T : TX K mg) : DFn P w K mg base T.cl T.tabs 3 T.a_law_table T.d_law_table ["tape", "names"] (A_law_table T.cs) := by
  refine fn_ok T.F_law_table sc_law_table rfl fun cdv A outer s H E R hcd hr => ?_
  have nd := sc_law_table.nd
  have hu := hr.u64
  have tk := takes_of (X := (cxOf (L2.CX P w) P w K mg base N_law_table "_law_table" (defScope s_law_table) T.a_law_table cdv A outer s H E)) rfl rfl rfl rfl
  have po : PassesOwn (model P w) _ _ _ := passes_of (X := (cxOf (L2.CX P w) P w K mg base N_law_table "_law_table" (defScope s_law_table) T.a_law_table cdv A outer s H E)) rfl
  exact (dss_cons (ds_own 2 nd dn_newK) (dss_cons (ds_for po rfl (di_name (st := true) 1) (dg_name 3 nd) (dss_one (ds_if (dt_cmp o_gt (de_call ((ok_law_pick T).mono (by decide)) hr (by rfl) T.m_law_pick T.F_law_pick.kp T.b_law_pick (da_cons (dv 0) (da_cons de_int da_nil))) de_int (nomark _)) (dss_one (ds_asg (de_call ((ok_law_any T).mono (by decide)) hr (by rfl) T.m_law_any T.F_law_any.kp T.b_law_any (da_cons (dv 0) (da_cons (de_frz (dn_lst (da_cons de_int (da_cons de_int (da_cons (de_un o_neg de_int) (da_cons de_int (da_cons de_int (da_cons (de_un o_neg de_int) (da_cons de_str (da_cons de_str (da_cons de_str (da_cons de_str da_nil)))))))))))) da_nil))) (dg_osub 2 hr.u1 (dv 3)))) dss_nil))) (dss_fz 2 (dss_one (ds_ret (dv 2))))))
theorem ok_law_turned (T : TX K mg) : DFn P w K mg base T.cl T.tabs 3 T.a_law_turned T.d_law_turned ["tape", "names", "table"] (A_law_turned T.cs) := by
  refine fn_ok T.F_law_turned sc_law_turned rfl fun cdv A outer s H E R hcd hr => ?_
  have nd := sc_law_turned.nd
  have hu := hr.u64
  have tk := takes_of (X := (cxOf (L2.CX P w) P w K mg base N_law_turned "_law_turned" (defScope s_law_turned) T.a_law_turned cdv A outer s H E)) rfl rfl rfl rfl
  have po : PassesOwn (model P w) _ _ _ := passes_of (X := (cxOf (L2.CX P w) P w K mg base N_law_turned "_law_turned" (defScope s_law_turned) T.a_law_turned cdv A outer s H E)) rfl
  exact (dss_cons (ds_own 3 nd (dn_ct (c_dict2 rfl) (by rfl) T.z_dict rfl (da_cons (de_frz (dn_items rfl (dv 2) (by rfl) T.z_list)) da_nil))) (dss_cons (ds_for po rfl (di_name (st := true) 1) (dg_name 4 nd) (dss_cons (ds_set 5 nd (de_call ((ok_law_pick T).mono (by decide)) hr (by rfl) T.m_law_pick T.F_law_pick.kp T.b_law_pick (da_cons (dv 0) (da_cons de_int da_nil)))) (dss_cons (ds_if (dt_cmp (o_eq2 hr.u64) (dv 5) de_int (nomark _)) (dss_one (ds_asg (de_call ((ok_law_any T).mono (by decide)) hr (by rfl) T.m_law_any T.F_law_any.kp T.b_law_any (da_cons (dv 0) (da_cons (de_frz (dn_lst (da_cons de_int (da_cons de_int (da_cons de_int (da_cons de_str (da_cons de_str (da_cons de_str da_nil)))))))) da_nil))) (dg_osub 3 hr.u1 (dv 4)))) dss_nil) (dss_one (ds_if (DW.dt (dw_and (dt_cmp (o_eq2 hr.u64) (dv 5) de_int (nomark _)) (dw_and1 (dt_cmp (o_in hr.u64) (dv 4) (dv 3) (by rfl))))) (dss_one (ds_exprM (dm_dpop1 3 (dv 4)))) dss_nil))))) (dss_fz 3 (dss_one (ds_ret (dv 3))))))
theorem ok_law_merged (T : TX K mg) : DFn P w K mg base T.cl T.tabs 1 T.a_law_merged T.d_law_merged ["base", "one", "other"] (A_law_merged T.cs) := by
  refine fn_ok T.F_law_merged sc_law_merged rfl fun cdv A outer s H E R hcd hr => ?_
  have nd := sc_law_merged.nd
  have hu := hr.u64
  have tk := takes_of (X := (cxOf (L2.CX P w) P w K mg base N_law_merged "_law_merged" (defScope s_law_merged) T.a_law_merged cdv A outer s H E)) rfl rfl rfl rfl
  have po : PassesOwn (model P w) _ _ _ := passes_of (X := (cxOf (L2.CX P w) P w K mg base N_law_merged "_law_merged" (defScope s_law_merged) T.a_law_merged cdv A outer s H E)) rfl
  exact (dss_cons (ds_par 3 4 rfl nd (dq_o dn_newK (dq_o (dn_lst da_nil) dq_nil))) (dss_cons (ds_for po rfl (di_list (st := true) (de_frz (dn_cb (c_sorted2 rfl) (by rfl) T.z_sorted rfl (da_cons (de_frz (dn_ct (c_dict2 rfl) (by rfl) T.z_dict rfl (da_cons (de_frz (dn_op n_addL (de_frz (dn_op n_addL (de_frz (dn_items rfl (dv 0) (by rfl) T.z_list)) (de_frz (dn_items rfl (dv 1) (by rfl) T.z_list)))) (de_frz (dn_items rfl (dv 2) (by rfl) T.z_list)))) da_nil))) da_nil)))) (dg_name 5 nd) (dss_cons (ds_par3 6 7 8 rfl nd (dq_d (de_get2 hr.u1 (dv 0) (dv 5) de_non) (dq_d (de_get2 hr.u1 (dv 1) (dv 5) de_non) (dq_d (de_get2 hr.u1 (dv 2) (dv 5) de_non) dq_nil)))) (dss_cons (ds_set 9 nd (de_if (dt_cmp (o_eq2 hr.u64) (dv 7) (dv 6) (nomark _)) (dv 8) (dv 7))) (dss_cons (ds_if (DW.dt (dw_and (dt_cmp (o_ne2 hr.u64) (dv 7) (dv 8) (nomark _)) (dw_and (dt_cmp (o_ne2 hr.u64) (dv 7) (dv 6) (nomark _)) (dw_and1 (dt_cmp (o_ne2 hr.u64) (dv 8) (dv 6) (nomark _)))))) (dss_one (ds_exprM (dm_om 4 PySem.F.plainAttrs_list PySem.F.slot_list_append PySem.F.type_list_append om_app (da_cons (dv 5) da_nil)))) dss_nil) (dss_one (ds_if (dt_cmp o_notN (dv 9) de_non (nomark _)) (dss_one (ds_asg (dv 9) (dg_osub 3 hr.u1 (dv 5)))) dss_nil)))))) (dss_fz 3 (dss_one (ds_ret (de_tup (da_cons (dv 3) (da_cons (de_ct c_tuple (by rfl) T.z_tuple rfl (da_cons (dv 4) da_nil)) da_nil))))))))
theorem got_law_word {X : Cx} (T : TX X.K X.mg) : GotOk X T.cl N_law_word "_law_word" (defScope s_law_word) T.a_law_word (defBody s_law_word) "call" W_law_word := by
  intro cdg f TT s H w0 c q hr act
  have nd := sc_law_word.nd
  have hu := hr.u64
  exact (dss_cons (ds_set 1 nd de_str) (dss_cons (ds_try (i := 2) (isx := isx_TraceError) rfl rfl nd rfl rfl ⟨by rfl, by decide, .inl T.m_TraceError⟩ takes0 (fun k b h => T.hx_TraceError k b h) (fun Rb Wx pn xe tb _ => (dss_one (ds_expr (act Rb _ _ _ _ _ tb)))) (fun a oe k d fs pn hk hz hf => (dss_cons (ds_set 3 nd (de_frz (dn_lst (da_cons (de_isX k 2 (isc := isc_NoTable) (T.hX k hk) hz hf (by rfl) T.z_isinstance (fun r h => T.hi_NoTable k r h) (pe_glob (v := V.ref T.C_NoTable) (by rfl) T.m_NoTable rfl) (fun u h => h)) da_nil)))) (dss_cons (ds_set 1 nd (de_if (dt_cmp (o_eq2 hr.u64) (de_bm PySem.F.plainAttrs_list PySem.F.slot_list_count PySem.F.type_list_count (m_cnt hu) (dv 3) (da_cons de_bl da_nil)) de_int (nomark _)) (de_ix hr.u1 (de_frz (dn_lst (da_cons de_str da_nil))) (de_bm PySem.F.plainAttrs_list PySem.F.slot_list_index PySem.F.type_list_index (m_idx hu) (dv 3) (da_cons de_bl da_nil))) de_str)) (dss_one (ds_if (dt_not (dt_val (de_isX k 2 (isc := isc_ValueError) (T.hX k hk) hz hf (by rfl) T.z_isinstance (fun r h => T.hi_ValueError k r h) (pe_bltn (v := V.ty "ValueError") (by rfl) T.z_ValueError rfl rfl) (fun u h => h)))) (dss_one (ds_set 1 nd de_str)) dss_nil)))))) (dss_one (ds_ret (dv 1)))))
theorem ok_law_no_table (T : TX K mg) : DFn P w K mg base T.cl T.tabs 3 T.a_law_no_table T.d_law_no_table ["tape"] (A_law_no_table T.cs) := by
  refine fn_ok T.F_law_no_table sc_law_no_table rfl fun cdv A outer s H E R hcd hr => ?_
  have nd := sc_law_no_table.nd
  have hu := hr.u64
  have tk := takes_of (X := (cxOf (L2.CX P w) P w K mg base N_law_no_table "_law_no_table" (defScope s_law_no_table) T.a_law_no_table cdv A outer s H E)) rfl rfl rfl rfl
  have po : PassesOwn (model P w) _ _ _ := passes_of (X := (cxOf (L2.CX P w) P w K mg base N_law_no_table "_law_no_table" (defScope s_law_no_table) T.a_law_no_table cdv A outer s H E)) rfl
  exact (dss_cons (ds_set 1 nd (de_call ((ok_law_any T).mono (by decide)) hr (by rfl) T.m_law_any T.F_law_any.kp T.b_law_any (da_cons (dv 0) (da_cons (de_frz (dn_lst (da_cons de_non (da_cons de_bl (da_cons de_str (da_cons de_int da_nil)))))) da_nil)))) (dss_cons (ds_for po rfl (di_range1 (st := true) (by rfl) T.z_range (da_cons (de_call ((ok_law_any T).mono (by decide)) hr (by rfl) T.m_law_any T.F_law_any.kp T.b_law_any (da_cons (dv 0) (da_cons (de_frz (dn_lst (da_cons de_int (da_cons de_int (da_cons de_int da_nil))))) da_nil))) da_nil)) (dg_name 2 nd) (dss_one (ds_set 1 nd (de_call ((ok_law_any T).mono (by decide)) hr (by rfl) T.m_law_any T.F_law_any.kp T.b_law_any (da_cons (dv 0) (da_cons (de_frz (dn_lst (da_cons (de_tup (da_cons (dv 1) da_nil)) (da_cons (de_frz (dn_lst (da_cons (dv 1) da_nil))) da_nil)))) da_nil)))))) (dss_cons (ds_own 3 nd (dn_lst (da_cons de_non (da_cons de_int (da_cons (de_frz (dn_lst da_nil)) (da_cons (de_tup da_nil) (da_cons de_str (da_cons (de_frz (dn_disp (dp_cons de_str de_int dp_nil))) (da_cons (de_frz (dn_disp (dp_cons de_str de_int dp_nil))) (da_cons (de_frz (dn_disp (dp_cons de_str de_int dp_nil))) (da_cons (de_frz (dn_disp (dp_cons de_int de_int dp_nil))) (da_cons (de_frz (dn_disp (dp_cons de_str de_non dp_nil))) (da_cons (de_frz (dn_disp (dp_cons de_str de_bl dp_nil))) da_nil))))))))))))) (dss_cons (ds_exprM (dm_om 3 PySem.F.plainAttrs_list PySem.F.slot_list_append PySem.F.type_list_append om_app (da_cons (de_frz (dn_disp (dp_cons de_str (de_tup (da_cons de_int da_nil)) dp_nil))) da_nil))) (dss_cons (ds_own 3 nd (dn_op n_addL (dv 3) (de_frz (dn_lst (da_cons (de_frz (dn_disp (dp_cons de_str de_str dp_nil))) (da_cons (de_frz (dn_disp (dp_cons de_str de_str dp_nil))) (da_cons (de_frz (dn_disp (dp_cons de_str de_int dp_nil))) (da_cons (de_frz (dn_disp (dp_cons de_str (de_un o_neg de_int) dp_nil))) (da_cons (de_frz (dn_disp (dp_cons de_str (de_frz (dn_lst da_nil)) dp_nil))) (da_cons (de_frz (dn_dispT1 (Nat.lt_of_le_of_lt (Nat.le_add_right _ _) hu) (de_tup (da_cons de_str da_nil)) de_int)) da_nil)))))))))) (dss_cons (ds_own 3 nd (dn_op n_addL (dv 3) (de_frz (dn_lst (da_cons (de_frz (dn_disp (dp_cons de_str (de_frz dn_newK) dp_nil))) (da_cons (dv 1) da_nil)))))) (dss_fz 3 (dss_one (ds_ret (de_call ((ok_law_any T).mono (by decide)) hr (by rfl) T.m_law_any T.F_law_any.kp T.b_law_any (da_cons (dv 0) (da_cons (dv 3) da_nil))))))))))))
theorem ok_law_unlike (T : TX K mg) : DFn P w K mg base T.cl T.tabs 1 T.a_law_unlike T.d_law_unlike ["one", "other"] (A_law_unlike T.cs) := by
  refine fn_ok T.F_law_unlike sc_law_unlike rfl fun cdv A outer s H E R hcd hr => ?_
  have nd := sc_law_unlike.nd
  have hu := hr.u64
  have tk := takes_of (X := (cxOf (L2.CX P w) P w K mg base N_law_unlike "_law_unlike" (defScope s_law_unlike) T.a_law_unlike cdv A outer s H E)) rfl rfl rfl rfl
  have po : PassesOwn (model P w) _ _ _ := passes_of (X := (cxOf (L2.CX P w) P w K mg base N_law_unlike "_law_unlike" (defScope s_law_unlike) T.a_law_unlike cdv A outer s H E)) rfl
  exact (dss_cons (ds_own 2 nd dn_newK) (dss_cons (ds_for po rfl (di_list (st := true) (de_frz (dn_cb (c_sorted2 rfl) (by rfl) T.z_sorted rfl (da_cons (de_frz (dn_ct (c_dict2 rfl) (by rfl) T.z_dict rfl (da_cons (de_frz (dn_op n_addL (de_frz (dn_items rfl (dv 0) (by rfl) T.z_list)) (de_frz (dn_items rfl (dv 1) (by rfl) T.z_list)))) da_nil))) da_nil)))) (dg_name 3 nd) (dss_one (ds_if (dt_cmp (o_ne2 hr.u64) (de_get2 hr.u1 (dv 0) (dv 3) de_non) (de_get2 hr.u1 (dv 1) (dv 3) de_non) (nomark _)) (dss_one (ds_asg (de_tup (da_cons (de_get2 hr.u1 (dv 0) (dv 3) de_non) (da_cons (de_get2 hr.u1 (dv 1) (dv 3) de_non) da_nil))) (dg_osub 2 hr.u1 (dv 3)))) dss_nil))) (dss_fz 2 (dss_one (ds_ret (dv 2))))))
theorem ok_law_led (T : TX K mg) : DFn P w K mg base T.cl T.tabs 1 T.a_law_led T.d_law_led ["one", "told"] (A_law_led T.cs) := by
  refine fn_ok T.F_law_led sc_law_led rfl fun cdv A outer s H E R hcd hr => ?_
  have nd := sc_law_led.nd
  have hu := hr.u64
  have tk := takes_of (X := (cxOf (L2.CX P w) P w K mg base N_law_led "_law_led" (defScope s_law_led) T.a_law_led cdv A outer s H E)) rfl rfl rfl rfl
  have po : PassesOwn (model P w) _ _ _ := passes_of (X := (cxOf (L2.CX P w) P w K mg base N_law_led "_law_led" (defScope s_law_led) T.a_law_led cdv A outer s H E)) rfl
  exact (dss_cons (ds_own 2 nd (dn_ct (c_dict2 rfl) (by rfl) T.z_dict rfl (da_cons (de_frz (dn_items rfl (dv 0) (by rfl) T.z_list)) da_nil))) (dss_cons (ds_for po rfl (di_name (st := true) 1) (dg_name 3 nd) (dss_one (ds_if (dt_cmp o_isN (de_ix hr.u1 (de_ix hr.u1 (dv 1) (dv 3)) de_int) de_non (nomark _)) (dss_one (ds_exprM (dm_dpop1 2 (dv 3)))) (dss_one (ds_asg (de_ix hr.u1 (de_ix hr.u1 (dv 1) (dv 3)) de_int) (dg_osub 2 hr.u1 (dv 3))))))) (dss_fz 2 (dss_one (ds_ret (dv 2))))))
theorem ok_law_part (T : TX K mg) : DFn P w K mg base T.cl T.tabs 1 T.a_law_part T.d_law_part ["table", "names"] (A_law_part T.cs) := by
  refine fn_ok T.F_law_part sc_law_part rfl fun cdv A outer s H E R hcd hr => ?_
  have nd := sc_law_part.nd
  have hu := hr.u64
  have tk := takes_of (X := (cxOf (L2.CX P w) P w K mg base N_law_part "_law_part" (defScope s_law_part) T.a_law_part cdv A outer s H E)) rfl rfl rfl rfl
  have po : PassesOwn (model P w) _ _ _ := passes_of (X := (cxOf (L2.CX P w) P w K mg base N_law_part "_law_part" (defScope s_law_part) T.a_law_part cdv A outer s H E)) rfl
  exact (dss_one (ds_ret (de_frz (dn_ct (c_dict2 rfl) (by rfl) T.z_dict rfl (da_cons (de_frz (dn_lc (own := [("name", 2)]) rfl nd (di_name (st := false) 0) (blkOk_by (own := [("name", 2)]) (N := N_law_part) (sc := defScope s_law_part) (by decide +kernel)) (fun _ _ _ _ _ => (dgw_name 2 nd (by decide))) (fun _ _ _ _ _ => (dts_one (dt_cmp (o_in hr.u64) (dv 2) (dv 1) (by rfl)))) (fun _ _ _ _ _ => (de_tup (da_cons (dv 2) (da_cons (de_ix hr.u1 (dv 0) (dv 2)) da_nil)))))) da_nil)))))
theorem ok_law_are_right (T : TX K mg) : DFn P w K mg base T.cl T.tabs 7 T.a_law_are_right T.d_law_are_right ["tape", "names", "base", "one", "other"] (A_law_are_right T.cs) := by
  refine fn_ok T.F_law_are_right sc_law_are_right rfl fun cdv A outer s H E R hcd hr => ?_
  have nd := sc_law_are_right.nd
  have hu := hr.u64
  have tk := takes_of (X := (cxOf (L2.CX P w) P w K mg base N_law_are_right "_law_are_right" (defScope s_law_are_right) T.a_law_are_right cdv A outer s H E)) rfl rfl rfl rfl
  have po : PassesOwn (model P w) _ _ _ := passes_of (X := (cxOf (L2.CX P w) P w K mg base N_law_are_right "_law_are_right" (defScope s_law_are_right) T.a_law_are_right cdv A outer s H E)) rfl
  exact (dss_cons (ds_set 5 nd (de_reprL hr.calm hr.u64 (by rfl) T.z_repr (da_cons (dv 2) (da_cons (dv 3) (da_cons (dv 4) da_nil))))) (dss_cons (ds_asg (de_tup (da_cons (de_callX tk ((ok_merged T).mono (by decide)) hr (by rfl) T.m_merged T.F_merged.kp T.b_merged (da_cons (dv 2) (da_cons (dv 3) (da_cons (dv 4) da_nil)))) (da_cons (de_callX tk ((ok_merged T).mono (by decide)) hr (by rfl) T.m_merged T.F_merged.kp T.b_merged (da_cons (dv 2) (da_cons (dv 4) (da_cons (dv 3) da_nil)))) da_nil))) (dg_tup rfl (dgs_cons (dg_name 6 nd) (dgs_cons (dg_name 7 nd) dgs_nil)))) (dss_cons (ds_set 8 nd (de_call ((ok_law_merged T).mono (by decide)) hr (by rfl) T.m_law_merged T.F_law_merged.kp T.b_law_merged (da_cons (dv 2) (da_cons (dv 3) (da_cons (dv 4) da_nil))))) (dss_cons (ds_if (DW.dt (dw_or (dt_cmp (o_ne2 hr.u64) (dv 6) (dv 8) (nomark _)) (dw_or (dt_cmp (o_ne2 hr.u64) (de_cb (c_repr2 hr.calm hr.u64) (by rfl) T.z_repr rfl (da_cons (de_ix hr.u1 (dv 6) de_int) da_nil)) (de_cb (c_repr2 hr.calm hr.u64) (by rfl) T.z_repr rfl (da_cons (de_ix hr.u1 (dv 8) de_int) da_nil)) (nomark _)) (dw_or (dt_cmp (o_ne2 hr.u64) (dv 7) (de_call ((ok_law_merged T).mono (by decide)) hr (by rfl) T.m_law_merged T.F_law_merged.kp T.b_law_merged (da_cons (dv 2) (da_cons (dv 4) (da_cons (dv 3) da_nil)))) (nomark _)) (dw_or1 (dt_cmp (o_ne2 hr.u64) (de_ix hr.u1 (dv 7) de_int) (de_ix hr.u1 (dv 6) de_int) (nomark _))))))) (dss_one (ds_ret de_bl)) dss_nil) (dss_cons (ds_ownLc (own := [("name", 10)]) 9 rfl nd (di_name (st := false) 1) (blkOk_by (own := [("name", 10)]) (N := N_law_are_right) (sc := defScope s_law_are_right) (by decide +kernel)) (fun _ _ _ _ _ => (dgw_name 10 nd (by decide))) (fun _ _ _ _ _ => (dts_one (dt_cmp (o_notIn hr.u64) (dv 10) (de_ix hr.u1 (dv 6) de_int) (by rfl)))) (fun _ _ _ _ _ => (dv 10)) (sw_true rfl rfl rfl (by decide +kernel))) (dss_fz 9 (dss_cons (ds_if (dt_cmp (o_ne2 hr.u64) (de_call ((ok_law_part T).mono (by decide)) hr (by rfl) T.m_law_part T.F_law_part.kp T.b_law_part (da_cons (de_ix hr.u1 (dv 6) de_int) (da_cons (dv 9) da_nil))) (de_call ((ok_law_part T).mono (by decide)) hr (by rfl) T.m_law_part T.F_law_part.kp T.b_law_part (da_cons (de_ix hr.u1 (dv 7) de_int) (da_cons (dv 9) da_nil))) (nomark _)) (dss_one (ds_ret de_bl)) dss_nil) (dss_cons (ds_if (DW.dt (dw_or (dt_cmp (o_ne2 hr.u64) (de_callX tk ((ok_difference T).mono (by decide)) hr (by rfl) T.m_difference T.F_difference.kp T.b_difference (da_cons (dv 3) (da_cons (dv 4) da_nil))) (de_call ((ok_law_unlike T).mono (by decide)) hr (by rfl) T.m_law_unlike T.F_law_unlike.kp T.b_law_unlike (da_cons (dv 3) (da_cons (dv 4) da_nil))) (nomark _)) (dw_or1 (dt_cmp (o_ne2 hr.u64) (de_call ((ok_law_led T).mono (by decide)) hr (by rfl) T.m_law_led T.F_law_led.kp T.b_law_led (da_cons (dv 3) (da_cons (de_callX tk ((ok_difference T).mono (by decide)) hr (by rfl) T.m_difference T.F_difference.kp T.b_difference (da_cons (dv 3) (da_cons (dv 4) da_nil))) da_nil))) (dv 4) (nomark _))))) (dss_one (ds_ret de_bl)) dss_nil) (dss_cons (ds_if (DW.dt (dw_or (dt_cmp (o_ne2 hr.u64) (de_callX tk ((ok_difference T).mono (by decide)) hr (by rfl) T.m_difference T.F_difference.kp T.b_difference (da_cons (dv 3) (da_cons (dv 3) da_nil))) (de_frz dn_newK) (nomark _)) (dw_or (dt_cmp (o_ne2 hr.u64) (de_callX tk ((ok_merged T).mono (by decide)) hr (by rfl) T.m_merged T.F_merged.kp T.b_merged (da_cons (dv 2) (da_cons (dv 3) (da_cons (dv 2) da_nil)))) (de_tup (da_cons (dv 3) (da_cons (de_tup da_nil) da_nil))) (nomark _)) (dw_or1 (dt_cmp (o_ne2 hr.u64) (de_callX tk ((ok_merged T).mono (by decide)) hr (by rfl) T.m_merged T.F_merged.kp T.b_merged (da_cons (dv 2) (da_cons (dv 2) (da_cons (dv 3) da_nil)))) (de_tup (da_cons (dv 3) (da_cons (de_tup da_nil) da_nil))) (nomark _)))))) (dss_one (ds_ret de_bl)) dss_nil) (dss_cons (ds_if (dt_cmp (o_ne2 hr.u64) (de_callX tk ((ok_merged T).mono (by decide)) hr (by rfl) T.m_merged T.F_merged.kp T.b_merged (da_cons (dv 2) (da_cons (dv 3) (da_cons (dv 3) da_nil)))) (de_tup (da_cons (dv 3) (da_cons (de_tup da_nil) da_nil))) (nomark _)) (dss_one (ds_ret de_bl)) dss_nil) (dss_cons (ds_set 11 nd (de_frz (dn_lc (own := [("name", 10)]) rfl nd (di_name (st := false) 1) (blkOk_by (own := [("name", 10)]) (N := N_law_are_right) (sc := defScope s_law_are_right) (by decide +kernel)) (fun _ _ _ _ _ => (dgw_name 10 nd (by decide))) (fun _ _ _ _ _ => (dts_one (dt_cmp (o_eq2 hr.u64) (de_call ((ok_law_pick T).mono (by decide)) hr (by rfl) T.m_law_pick T.F_law_pick.kp T.b_law_pick (da_cons (dv 0) (da_cons de_int da_nil))) de_int (nomark _)))) (fun _ _ _ _ _ => (dv 10))))) (dss_cons (ds_ownLc (own := [("name", 10)]) 12 rfl nd (di_name (st := false) 1) (blkOk_by (own := [("name", 10)]) (N := N_law_are_right) (sc := defScope s_law_are_right) (by decide +kernel)) (fun _ _ _ _ _ => (dgw_name 10 nd (by decide))) (fun _ _ _ _ _ => (dts_one (dt_cmp (o_notIn hr.u64) (dv 10) (dv 11) (by rfl)))) (fun _ _ _ _ _ => (dv 10)) (sw_true rfl rfl rfl (by decide +kernel))) (dss_fz 12 (dss_cons (ds_ownLc (own := [("lot", 14)]) 13 rfl nd (di_tup (st := false) (de_tup (da_cons (dv 11) (da_cons (dv 12) da_nil)))) (blkOk_by (own := [("lot", 14)]) (N := N_law_are_right) (sc := defScope s_law_are_right) (by decide +kernel)) (fun _ _ _ _ _ => (dgw_name 14 nd (by decide))) (fun _ _ _ _ _ => dts_nil) (fun _ _ _ _ _ => (de_call ((ok_merged T).mono (by decide)) hr (by rfl) T.m_merged T.F_merged.kp T.b_merged (da_cons (de_call ((ok_law_part T).mono (by decide)) hr (by rfl) T.m_law_part T.F_law_part.kp T.b_law_part (da_cons (dv 2) (da_cons (dv 14) da_nil))) (da_cons (de_call ((ok_law_part T).mono (by decide)) hr (by rfl) T.m_law_part T.F_law_part.kp T.b_law_part (da_cons (dv 3) (da_cons (dv 14) da_nil))) (da_cons (de_call ((ok_law_part T).mono (by decide)) hr (by rfl) T.m_law_part T.F_law_part.kp T.b_law_part (da_cons (dv 4) (da_cons (dv 14) da_nil))) da_nil))))) (sw_true rfl rfl rfl (by decide +kernel))) (dss_cons (ds_if (dt_cmp (o_ne2 hr.u64) (de_frz (dn_ct (c_dict2 rfl) (by rfl) T.z_dict rfl (da_cons (de_frz (dn_op n_addL (de_frz (dn_items rfl (de_ix hr.u1 (de_ix hr.u1 (dv 13) de_int) de_int) (by rfl) T.z_list)) (de_frz (dn_items rfl (de_ix hr.u1 (de_ix hr.u1 (dv 13) de_int) de_int) (by rfl) T.z_list)))) da_nil))) (de_ix hr.u1 (dv 6) de_int) (nomark _)) (dss_one (ds_ret de_bl)) dss_nil) (dss_one (ds_ret (de_and (de_cmp (o_eq2 hr.u64) (de_ct c_tuple (by rfl) T.z_tuple rfl (da_cons (de_frz (dn_cb (c_sorted3 rfl) (by rfl) T.z_sorted rfl (da_cons (de_op o_add (de_ix hr.u1 (de_ix hr.u1 (dv 13) de_int) de_int) (de_ix hr.u1 (de_ix hr.u1 (dv 13) de_int) de_int)) da_nil))) da_nil)) (de_ix hr.u1 (dv 6) de_int) (nomark _)) (de_one (de_cmp (o_eq2 hr.u64) (de_reprL hr.calm hr.u64 (by rfl) T.z_repr (da_cons (dv 2) (da_cons (dv 3) (da_cons (dv 4) da_nil)))) (dv 5) (nomark _)))))))))))))))))))))
theorem ok_law_bounds_right (T : TX K mg) (B : TBs T base) : DFn P w K mg base T.cl T.tabs 9 T.a_law_bounds_right T.d_law_bounds_right [] (A_law_bounds_right T.cs) := by
  refine fn_ok T.F_law_bounds_right sc_law_bounds_right rfl fun cdv A outer s H E R hcd hr => ?_
  have nd := sc_law_bounds_right.nd
  have hu := hr.u64
  have tk := takes_of (X := (cxOf (L2.CX P w) P w K mg base N_law_bounds_right "_law_bounds_right" (defScope s_law_bounds_right) T.a_law_bounds_right cdv A outer s H E)) rfl rfl rfl rfl
  have po : PassesOwn (model P w) _ _ _ := passes_of (X := (cxOf (L2.CX P w) P w K mg base N_law_bounds_right "_law_bounds_right" (defScope s_law_bounds_right) T.a_law_bounds_right cdv A outer s H E)) rfl
  have hcode : cdv = .ref T.tc_law_bounds_right := hcd.symm.trans T.co_law_bounds_right
  exact (dss_cons (ds_own 0 nd dn_newK) (dss_cons (ds_for po rfl (di_str (st := true) de_str) (dg_name 1 nd) (dss_one (ds_for po rfl (di_str (st := true) de_str) (dg_name 2 nd) (dss_one (ds_asg de_int (dg_osub 0 hr.u1 (de_op o_add (de_op o_add de_str (dv 1)) (dv 2)))))))) (dss_cons (ds_set 3 nd (de_frz (dn_ct (c_dict2 rfl) (by rfl) T.z_dict rfl (da_cons (de_frz (dn_op n_addL (de_frz (dn_items rfl (dv 0) (by rfl) T.z_list)) (de_frz (dn_lst (da_cons (de_tup (da_cons de_str (da_cons de_int da_nil))) da_nil))))) da_nil)))) (dss_fz 0 (dss_cons (ds_if (DW.dt (dw_or (dt_cmp (o_ne2 hr.u64) (de_cb c_len (by rfl) T.z_len rfl (da_cons (dv 0) da_nil)) de_int (nomark _)) (dw_or (dt_cmp (o_ne2 hr.u64) (de_callX tk ((ok_merged T).mono (by decide)) hr (by rfl) T.m_merged T.F_merged.kp T.b_merged (da_cons (dv 0) (da_cons (dv 0) (da_cons (de_frz dn_newK) da_nil)))) (de_tup (da_cons (de_frz dn_newK) (da_cons (de_tup da_nil) da_nil))) (nomark _)) (dw_or1 (dt_cmp (o_ne2 hr.u64) (de_cb c_len (by rfl) T.z_len rfl (da_cons (de_callX tk ((ok_difference T).mono (by decide)) hr (by rfl) T.m_difference T.F_difference.kp T.b_difference (da_cons (dv 0) (da_cons (de_frz dn_newK) da_nil))) da_nil)) de_int (nomark _)))))) (dss_one (ds_ret de_bl)) dss_nil) (dss_one (ds_ret (de_cmp (o_eq2 hr.u64) (de_lam (by rfl) T.m_law_word T.F_law_word sc_law_word T.b_law_word rfl (Or.inl rfl) (got_law_word (X := (cxOf (L2.CX P w) P w K mg base N_law_bounds_right "_law_bounds_right" (defScope s_law_bounds_right) T.a_law_bounds_right cdv A outer s H E)) T) B.t_law_bounds_right hcode (.head _) hr (LamX.lamS_by (sc := defScope s_law_bounds_right) (by decide +kernel)) rfl (fun _ _ _ _ _ => rfl) (fun A outer s H E f c Rl hr => have tl := takes_of (X := LamX.lamCx _ A outer s H E _ f c) rfl rfl rfl rfl; (de_callX tl ((ok_difference T).mono (by decide)) hr (by rfl) T.m_difference T.F_difference.kp T.b_difference (da_cons (dv 3) (da_cons (de_frz dn_newK) da_nil))))) de_str (nomark _)))))))))
theorem ok_law_word_of (T : TX K mg) (B : TBs T base) : DFn P w K mg base T.cl T.tabs 9 T.a_law_word_of T.d_law_word_of ["one", "other"] (A_law_word_of T.cs) := by
  refine fn_ok T.F_law_word_of sc_law_word_of rfl fun cdv A outer s H E R hcd hr => ?_
  have nd := sc_law_word_of.nd
  have hu := hr.u64
  have tk := takes_of (X := (cxOf (L2.CX P w) P w K mg base N_law_word_of "_law_word_of" (defScope s_law_word_of) T.a_law_word_of cdv A outer s H E)) rfl rfl rfl rfl
  have po : PassesOwn (model P w) _ _ _ := passes_of (X := (cxOf (L2.CX P w) P w K mg base N_law_word_of "_law_word_of" (defScope s_law_word_of) T.a_law_word_of cdv A outer s H E)) rfl
  have hcode : cdv = .ref T.tc_law_word_of := hcd.symm.trans T.co_law_word_of
  exact (dss_one (ds_ret (de_lam (by rfl) T.m_law_word T.F_law_word sc_law_word T.b_law_word rfl (Or.inl rfl) (got_law_word (X := (cxOf (L2.CX P w) P w K mg base N_law_word_of "_law_word_of" (defScope s_law_word_of) T.a_law_word_of cdv A outer s H E)) T) B.t_law_word_of hcode (.tail _ (.head _)) hr (LamX.lamS_by (sc := defScope s_law_word_of) (by decide +kernel)) rfl (fun _ _ _ _ _ => rfl) (fun A outer s H E f c Rl hr => have tl := takes_of (X := LamX.lamCx _ A outer s H E _ f c) rfl rfl rfl rfl; (de_callX tl ((ok_difference T).mono (by decide)) hr (by rfl) T.m_difference T.F_difference.kp T.b_difference (da_cons (dv 0) (da_cons (dv 1) da_nil)))))))
theorem der_law (T : TX K mg) (B : TBs T base) (cdv : Value) (A : Around) (outer : List Env) (s : Shared) (H : Hp) (E : XK) (R : RZ) (hcd : T.d_law.code = cdv) (hr : RoomG 9 (A.deeper (envOfC "law" (defScope s_law) s.heap.objs.size T.a_law cdv))) :
    DSs (cxOf (L2.CX P w) P w K mg base N_law "law" (defScope s_law) T.a_law cdv A outer s H E) (pDef T.cl T.tabs R E) (defBody s_law).tail (W_law T.cs R) := by
  have nd := sc_law.nd
  have tk := takes_of (X := (cxOf (L2.CX P w) P w K mg base N_law "law" (defScope s_law) T.a_law cdv A outer s H E)) rfl rfl rfl rfl
  have po : PassesOwn (model P w) _ _ _ := passes_of (X := (cxOf (L2.CX P w) P w K mg base N_law "law" (defScope s_law) T.a_law cdv A outer s H E)) rfl
  have hcode : cdv = .ref T.tc_law := hcd.symm.trans T.co_law
  exact (dss_cons (ds_asg (de_tup (da_cons (de_frz (dn_disp (dp_cons de_str de_int (dp_cons de_str de_int (dp_cons de_str de_int dp_nil))))) (da_cons (de_frz (dn_disp (dp_cons de_str de_int (dp_cons de_str de_int (dp_cons de_str de_int dp_nil))))) (da_cons (de_frz (dn_disp (dp_cons de_str de_int (dp_cons de_str de_int (dp_cons de_str de_int dp_nil))))) da_nil)))) (dg_tup rfl (dgs_cons (dg_name 2 nd) (dgs_cons (dg_name 3 nd) (dgs_cons (dg_name 4 nd) dgs_nil))))) (dss_cons (ds_if (DW.dt (dw_or (dt_cmp (o_ne2 hr.u64) (de_callX tk ((ok_merged T).mono (by decide)) hr (by rfl) T.m_merged T.F_merged.kp T.b_merged (da_cons (dv 2) (da_cons (dv 3) (da_cons (dv 4) da_nil)))) (de_tup (da_cons (de_frz (dn_disp (dp_cons de_str de_int (dp_cons de_str de_int (dp_cons de_str de_int dp_nil))))) (da_cons (de_tup (da_cons de_str da_nil)) da_nil))) (nomark _)) (dw_or1 (dt_not (dt_val (de_callX0 tk ((ok_law_bounds_right T B).mono (by decide)) hr (by rfl) T.m_law_bounds_right T.F_law_bounds_right.kp T.b_law_bounds_right)))))) (dss_one (ds_ret de_bl)) dss_nil) (dss_cons (ds_if (dt_cmp (o_ne2 hr.u64) (de_callX tk ((ok_difference T).mono (by decide)) hr (by rfl) T.m_difference T.F_difference.kp T.b_difference (da_cons (dv 3) (da_cons (dv 4) da_nil))) (de_frz (dn_disp (dp_cons de_str (de_tup (da_cons de_int (da_cons de_int da_nil))) (dp_cons de_str (de_tup (da_cons de_int (da_cons de_int da_nil))) (dp_cons de_str (de_tup (da_cons de_non (da_cons de_int da_nil))) (dp_cons de_str (de_tup (da_cons de_int (da_cons de_non da_nil))) dp_nil)))))) (nomark _)) (dss_one (ds_ret de_bl)) dss_nil) (dss_cons (ds_for po rfl (di_range1 (st := true) (by rfl) T.z_range (da_cons de_int da_nil)) (dg_name 5 nd) (dss_cons (ds_set 6 nd (de_sl (de_frz (dn_lst (da_cons de_str (da_cons de_str (da_cons de_str (da_cons de_str (da_cons de_str (da_cons de_str da_nil)))))))) do_none (do_some (de_op o_add de_int (de_call ((ok_law_pick T).mono (by decide)) hr (by rfl) T.m_law_pick T.F_law_pick.kp T.b_law_pick (da_cons (dv 1) (da_cons de_int da_nil))))))) (dss_cons (ds_set 2 nd (de_call ((ok_law_table T).mono (by decide)) hr (by rfl) T.m_law_table T.F_law_table.kp T.b_law_table (da_cons (dv 1) (da_cons (dv 6) da_nil)))) (dss_cons (ds_asg (de_tup (da_cons (de_call ((ok_law_turned T).mono (by decide)) hr (by rfl) T.m_law_turned T.F_law_turned.kp T.b_law_turned (da_cons (dv 1) (da_cons (dv 6) (da_cons (dv 2) da_nil)))) (da_cons (de_call ((ok_law_turned T).mono (by decide)) hr (by rfl) T.m_law_turned T.F_law_turned.kp T.b_law_turned (da_cons (dv 1) (da_cons (dv 6) (da_cons (dv 2) da_nil)))) da_nil))) (dg_tup rfl (dgs_cons (dg_name 3 nd) (dgs_cons (dg_name 4 nd) dgs_nil)))) (dss_cons (ds_if (dt_cmp (o_eq2 hr.u64) (de_call ((ok_law_pick T).mono (by decide)) hr (by rfl) T.m_law_pick T.F_law_pick.kp T.b_law_pick (da_cons (dv 1) (da_cons de_int da_nil))) de_int (nomark _)) (dss_one (ds_set 4 nd (de_call ((ok_law_table T).mono (by decide)) hr (by rfl) T.m_law_table T.F_law_table.kp T.b_law_table (da_cons (dv 1) (da_cons (dv 6) da_nil))))) dss_nil) (dss_cons (ds_if (dt_not (dt_val (de_callX tk ((ok_law_are_right T).mono (by decide)) hr (by rfl) T.m_law_are_right T.F_law_are_right.kp T.b_law_are_right (da_cons (dv 1) (da_cons (dv 6) (da_cons (dv 2) (da_cons (dv 3) (da_cons (dv 4) da_nil)))))))) (dss_one (ds_ret de_bl)) dss_nil) (dss_cons (ds_asg (de_tup (da_cons (de_call ((ok_law_no_table T).mono (by decide)) hr (by rfl) T.m_law_no_table T.F_law_no_table.kp T.b_law_no_table (da_cons (dv 1) da_nil)) (da_cons (de_call ((ok_law_no_table T).mono (by decide)) hr (by rfl) T.m_law_no_table T.F_law_no_table.kp T.b_law_no_table (da_cons (dv 1) da_nil)) da_nil))) (dg_tup rfl (dgs_cons (dg_name 7 nd) (dgs_cons (dg_name 8 nd) dgs_nil)))) (dss_cons (ds_own 9 nd (dn_lst (da_cons (de_lam (by rfl) T.m_law_word T.F_law_word sc_law_word T.b_law_word rfl (Or.inl rfl) (got_law_word (X := (cxOf (L2.CX P w) P w K mg base N_law "law" (defScope s_law) T.a_law cdv A outer s H E)) T) B.t_law hcode (.tail _ (.tail _ (.head _))) hr (LamX.lamS_by (sc := defScope s_law) (by decide +kernel)) rfl (fun _ _ _ _ _ => rfl) (fun A outer s H E f c Rl hr => have tl := takes_of (X := LamX.lamCx _ A outer s H E _ f c) rfl rfl rfl rfl; (de_callX tl ((ok_difference T).mono (by decide)) hr (by rfl) T.m_difference T.F_difference.kp T.b_difference (da_cons (dv 7) (da_cons (dv 8) da_nil))))) (da_cons (de_call ((ok_law_word_of T B).mono (by decide)) hr (by rfl) T.m_law_word_of T.F_law_word_of.kp T.b_law_word_of (da_cons (dv 3) (da_cons (dv 7) da_nil))) da_nil)))) (dss_cons (ds_exprM (dm_om 9 PySem.F.plainAttrs_list PySem.F.slot_list_append PySem.F.type_list_append om_app (da_cons (de_lam (by rfl) T.m_law_word T.F_law_word sc_law_word T.b_law_word rfl (Or.inl rfl) (got_law_word (X := (cxOf (L2.CX P w) P w K mg base N_law "law" (defScope s_law) T.a_law cdv A outer s H E)) T) B.t_law hcode (.tail _ (.tail _ (.head _))) hr (LamX.lamS_by (sc := defScope s_law) (by decide +kernel)) rfl (fun _ _ _ _ _ => rfl) (fun A outer s H E f c Rl hr => have tl := takes_of (X := LamX.lamCx _ A outer s H E _ f c) rfl rfl rfl rfl; (de_callX tl ((ok_merged T).mono (by decide)) hr (by rfl) T.m_merged T.F_merged.kp T.b_merged (da_cons (dv 7) (da_cons (dv 3) (da_cons (dv 4) da_nil)))))) da_nil))) (dss_cons (ds_exprM (dm_om 9 PySem.F.plainAttrs_list PySem.F.slot_list_append PySem.F.type_list_append om_app (da_cons (de_lam (by rfl) T.m_law_word T.F_law_word sc_law_word T.b_law_word rfl (Or.inl rfl) (got_law_word (X := (cxOf (L2.CX P w) P w K mg base N_law "law" (defScope s_law) T.a_law cdv A outer s H E)) T) B.t_law hcode (.tail _ (.tail _ (.head _))) hr (LamX.lamS_by (sc := defScope s_law) (by decide +kernel)) rfl (fun _ _ _ _ _ => rfl) (fun A outer s H E f c Rl hr => have tl := takes_of (X := LamX.lamCx _ A outer s H E _ f c) rfl rfl rfl rfl; (de_callX tl ((ok_merged T).mono (by decide)) hr (by rfl) T.m_merged T.F_merged.kp T.b_merged (da_cons (dv 2) (da_cons (dv 7) (da_cons (dv 8) da_nil)))))) da_nil))) (dss_cons (ds_exprM (dm_om 9 PySem.F.plainAttrs_list PySem.F.slot_list_append PySem.F.type_list_append om_app (da_cons (de_lam (by rfl) T.m_law_word T.F_law_word sc_law_word T.b_law_word rfl (Or.inl rfl) (got_law_word (X := (cxOf (L2.CX P w) P w K mg base N_law "law" (defScope s_law) T.a_law cdv A outer s H E)) T) B.t_law hcode (.tail _ (.tail _ (.head _))) hr (LamX.lamS_by (sc := defScope s_law) (by decide +kernel)) rfl (fun _ _ _ _ _ => rfl) (fun A outer s H E f c Rl hr => have tl := takes_of (X := LamX.lamCx _ A outer s H E _ f c) rfl rfl rfl rfl; (de_callX tl ((ok_merged T).mono (by decide)) hr (by rfl) T.m_merged T.F_merged.kp T.b_merged (da_cons (dv 2) (da_cons (dv 3) (da_cons (dv 7) da_nil)))))) da_nil))) (dss_one (ds_if (dt_cmp (o_ne2 hr.u64) (dv 9) (de_frz (dn_op n_repL (de_frz (dn_lst (da_cons de_str da_nil))) de_int)) (nomark _)) (dss_one (ds_ret de_bl)) dss_nil))))))))))))) (dss_one (ds_ret de_bl))))))
end
end KM

set_option Elab.async false
set_option linter.all false
set_option maxRecDepth 100000
set_option maxHeartbeats 1000000
/-! KM: the tape is laid -/
namespace KM
open PySem PySem.Spec PyProof.Rows L2 VD
variable {P : Program} {w : World} {K : PySem.W.Frag} {mg : Str → Option Value} {base : Heap}
theorem cut_ints (ns : List Int) (lo hi : Option Int) : ∃ ms : List Int, cutV (ns.map V.int) lo hi = ms.map V.int ∧ ms.length ≤ ns.length := by
  refine ⟨(ns.drop (HT.sIx ns.length 0 lo)).take (HT.sIx ns.length ns.length hi - HT.sIx ns.length 0 lo), ?_, ?_⟩
  · unfold cutV; rw [List.length_map, ← List.map_drop, ← List.map_take]
  · rw [List.length_take, List.length_drop]; omega
theorem ok_law_tape (T : TX K mg) : FnG P w K mg base (L2.CX P w) 1 T.a_law_tape T.d_law_tape ["script"] (spTape K) := by
  refine fnG_of T.F_law_tape sc_law_tape (fun vs H Q E h => by obtain ⟨a, ns, rfl, _⟩ := h; rfl) (fun cdv A outer s H vs Q E _ hr h => ?_)
  obtain ⟨a, ns, rfl, hS, hlen, k⟩ := h
  have nd := sc_law_tape.nd
  refine ⟨_, pss_cons (ps_setLc (i := 1) (own := [("cell", 2)]) (g := gName 2) (tt := tYes) (by rfl) nd rfl rfl (sw_true rfl rfl rfl (by decide +kernel)) (pi_list (pe_slice sl_list (pv 0) po_none (po_some pe_int)))
    (blkOk_by (own := [("cell", 2)]) (N := N_law_tape) (sc := defScope s_law_tape) (by decide +kernel)) (fun _ _ _ _ _ => pg_name (i := 2) nd rfl (Or.inl rfl)) (fun _ _ _ _ _ => pts_nil)
    (fun _ _ _ _ _ => pe_callB call_abs (by rfl) T.z_abs PyProof.Rows.boot_abs (pa_cons (pe_callTy call_int1 (by rfl) T.z_int PyProof.Rows.boot_int (pa_cons (pv 2) pa_nil)) pa_nil)))
    (pss_one (ps_ret (pe_lst (pa_cons (pv 1) (pa_cons pe_int (pa_cons pe_int (pa_cons (pe_op op_add pe_int (pe_callB call_len_seq (by rfl) T.z_len PySem.boot_len (pa_cons (pv 1) pa_nil))) (pa_cons pe_int pa_nil)))))))), ?_⟩
  obtain ⟨ms, em, hm⟩ := cut_ints ns none (some 63)
  refine ⟨_, rfl, ?_⟩
  refine ⟨63, rfl, a, _, rfl, hS, fun p hp => ⟨p, rfl, ⟨_, SqL.of upd_same⟩, fun D hD => ?_⟩⟩
  have npD : p ≠ D := fun e => by rw [← e, upd_same] at hD; cases hD
  have nD0 : H D = none := by rw [upd_ne (Ne.symm npD)] at hD; exact hD
  have keep0 : ∀ b u, H b = some u → b ≠ p ∧ b ≠ D := fun b u e => ⟨(fun z => by rw [z, hp] at e; cases e), (fun z => by rw [z, nD0] at e; cases e)⟩
  rw [em] at hD ⊢
  refine lc_list (K := K) (a := p) (xs := ms.map V.int) (fun i H' => (∀ b u, H b = some u → H' b = some u) ∧ H' p = some (.lst (ms.map V.int)) ∧ ∃ cells : List Int, cells.length = i ∧ (∀ x ∈ cells, 0 ≤ x) ∧ H' D = some (.lst (cells.map V.int)))
    ⟨fun b u e => by rw [upd_ne (keep0 b u e).2, upd_ne (keep0 b u e).1]; exact e, by rw [upd_ne npD, upd_same], [], rfl, by simp, upd_same⟩ (fun i H' _ h => SqL.of h.2.1) ?_ ?_
  · rintro i y H' hi ⟨same, hp', cells, hc, h0, hD'⟩
    have hi2 : i < ms.length := by
      have q := (List.getElem?_eq_some_iff.mp hi).1
      rw [List.length_map] at q
      exact q
    obtain ⟨u, rfl⟩ : ∃ u, y = V.int u := by
      rw [List.getElem?_map] at hi
      cases e : ms[i]? with
      | none => rw [e] at hi; cases hi
      | some u => rw [e] at hi; exact ⟨u, (Option.some.inj hi).symm⟩
    refine ⟨rfl, ?_⟩
    unfold tYes
    dsimp only
    rw [if_pos rfl]
    refine ⟨_, rfl, .inl ⟨u, rfl, u, rfl, ?_⟩⟩
    refine ⟨_, hD', by rw [List.length_map, hc, sizeLine_eq]; omega, ?_⟩
    refine ⟨fun b z e => by rw [upd_ne (keep0 b z e).2]; exact same b z e, by rw [upd_ne npD]; exact hp', cells ++ [if u < 0 then -u else u], by rw [List.length_append, hc]; rfl, ?_, by rw [upd_same, List.map_append]; rfl⟩
    intro x hx
    rcases List.mem_append.mp hx with q | q
    · exact h0 x q
    · rw [List.mem_singleton.mp q]; split <;> omega
  · rintro H' ⟨same, hp', cells, hc, h0, hD'⟩
    refine ⟨_, rfl, _, rfl, D, _, rfl, .inl (SqL.of hD'), _, _, rfl, rfl, (by show 5 ≤ _; decide), fun tp htp => ?_⟩
    have nD : D ≠ tp := fun e => by rw [← e, hD'] at htp; cases htp
    have ntp : ∀ b u, H b = some u → b ≠ tp := fun b u e z => by rw [← z, same b u e] at htp; cases htp
    have free : H tp = none := by
      cases e : H tp with
      | none => rfl
      | some u => exact absurd rfl (ntp tp u e)
    exact k _ tp D cells _ (fun b u e => by rw [upd_ne (ntp b u e)]; exact same b u e) free nD0 h0 nD (by rw [upd_ne nD, hD']) upd_same
end KM

set_option Elab.async false
set_option linter.all false
set_option maxRecDepth 100000
set_option maxHeartbeats 1000000
/-! KM: the law, from what it asks -/
namespace KM
open PySem PySem.Spec PyProof.Rows L2 VD
variable {P : Program} {w : World} {K : PySem.W.Frag} {mg : Str → Option Value} {base : Heap}
theorem ok_law (T : TX K mg) (B : TBs T base) (run : W_law T.cs rNo (retE fun d _ => d = .bl true) ((noS N_law.length).set 1 (some (.d .tape))) (fun _ => none)) : FnG P w K mg base (L2.CX P w) 10 T.a_law T.d_law ["script"] (spLaw K T.tabs) :=
  law_ok (i := 1) T.F_law sc_law rfl (fun cdv A outer s H E hr => ps_hand 1 sc_law.nd rfl rfl (by first | exact .inl rfl | exact .inr rfl) (by first | exact .inl rfl | exact .inr (.inl rfl)) (ok_law_tape T) (hr.mono (by decide)) (by rfl) T.m_law_tape T.F_law_tape.kp T.b_law_tape (by first | exact .inl rfl | exact .inr rfl))
    (fun cdv A outer s H E hcd hr => der_law T B cdv A outer s H E rNo hcd hr) (by decide) run
end KM

set_option Elab.async false
set_option linter.all false
set_option maxRecDepth 100000
set_option maxHeartbeats 1000000
/-! KM: the checks, on any data -/
namespace KM
open PySem PySem.Spec PyProof.Rows L2 VD
variable {CS : CSt} {R : RZ} {O : OO} {Q : D → OO → Prop}
/-- data: no reference, no type -/
def dataD : D → Bool
  | .ref _ => false
  | .ty _ => false
  | .tape => false
  | _ => true
def tyOf : D → String
  | .bl _ => "bool"
  | .int _ => "int"
  | .str _ => "str"
  | .tup _ => "tuple"
  | .lst _ => "list"
  | .dic _ => "dict"
  | .dct _ => "dict"
  | _ => "NoneType"
theorem tyD_data {d : D} (h : dataD d = true) : tyD (.d d) O = some (tyOf d) := by cases d <;> first | rfl | cases h
def isIntD : D → Bool | .int _ => true | _ => false
def lowS (x : Str) : Bool := x.cps.toList.all fun c => decide (97 ≤ c) && decide (c ≤ 122)
def isNameD : D → Bool | .str x => decide (1 ≤ x.length) && decide (x.length ≤ 12) && lowS x | _ => false
def isWordD : D → Bool | .str x => decide (x.length ≤ 8) && lowS x | _ => false
def withinD (d : D) (l m : Int) : Bool := match d with | .int i => decide (l ≤ i) && decide (i ≤ m) | _ => false
def isValueD (d : D) : Bool := isWordD d || withinD d (-1000000) 1000000
theorem A_is_integer_ok {d : D} (h : dataD d = true) (q : Q (.bl (isIntD d)) O) : A_is_integer CS [.d d] O Q R := by
  refine ⟨rfl, ?_⟩
  unfold W_is_integer
  cases d <;> first | (cases h; done) | (simp [wSeq, wAsg, isD, wgName, wPar, setAll, wqD, wqO, wqNil, wDrop, wRet, wRetN, wIfS, wNext, wTst, blQ, wOp, wOpN, wUn, wFrz, treeC, wTmp, wLive, liveC, wOwn, wAnd, wOr, wNot, wIf, tAndW, tOrW, tNotW, wChain, wC, wVar, look, bvOf, wNil, wCons, wTup, wLst, allD, wNewK, wNewT, wCB, wCN, w1, w2, n1, wCall, wCallX, toSV, wIsi, isaQ, tyD, tyM, isaB, wLen, lenD, lenM, wLe, wLt, wGt, wGe, wAdd, wAddL, wAddN, wSub, wMulI, wDiv, wMod, wPow, wNeg, wInt2, wInt1, wCmpI, wAbs, wIx, ixB, ixL, ixM, ixK, wIn, wNotIn, keyD, wIsN, wNotN, isNonB, isNonD, wBm, mApp, appM, mPop, popM, mCnt, mIdx, itY, wDict2, wgSub, refQ, setM, setC, wgOSub, ownQ, wOm, wOmM, tyC, oApp, oPop, oPopAt, oExt, oUpd, oIns, wExpM, wSetM, wRetM, wIxM, wDPop1, wDPop2, dpQ, wFz, fzS, wFld, wSFld, wGet2, wGet1, getQ, wEq, wNe, wEq2, wNe2, eqC2, eqB, eqC, asL, asLM, asK, asKM, asS, asT, asTM, wFor, wgTup, wgCons, wgNil, wTuple, wList, wiN, wiA, kindI, seqI, seqM, wiIt, wiItT, wiItA, dctI, dctM, wiVal, dicI, dicM, wiR1, wiR2, wiEn, wiZip, lstI, wSorted, wSorted2, wSorted3, asTS, wAll, wAny, wLc, wDc, wDisp, wDispT1, wRepL, repL, keyT, keyL, wpCons, wpNil, wItems, wSl, wSlN, wPart, wNoP, wipeS, wNever, retE, wReprL, wRaise, wRaiseA, wTry, rTry, sufD, wIsX, wAct, wLam, thL, lendS, lend1, noS, sstart, rNo, wAug, -List.lookup_eq_none_iff, tyOf, tyN, isIntD] at q ⊢; exact q)
theorem A_is_within_ok {d : D} {l m : Int} (h : dataD d = true) (q : Q (.bl (withinD d l m)) O) : A_is_within CS [.d d, .d (.int l), .d (.int m)] O Q R := by
  refine ⟨rfl, ?_⟩
  unfold W_is_within
  simp [wSeq, wAsg, isD, wgName, wPar, setAll, wqD, wqO, wqNil, wDrop, wRet, wRetN, wIfS, wNext, wTst, blQ, wOp, wOpN, wUn, wFrz, treeC, wTmp, wLive, liveC, wOwn, wAnd, wOr, wNot, wIf, tAndW, tOrW, tNotW, wChain, wC, wVar, look, bvOf, wNil, wCons, wTup, wLst, allD, wNewK, wNewT, wCB, wCN, w1, w2, n1, wCallX, toSV, wIsi, isaQ, tyD, tyM, isaB, wLen, lenD, lenM, wLe, wLt, wGt, wGe, wAdd, wAddL, wAddN, wSub, wMulI, wDiv, wMod, wPow, wNeg, wInt2, wInt1, wCmpI, wAbs, wIx, ixB, ixL, ixM, ixK, wIn, wNotIn, keyD, wIsN, wNotN, isNonB, isNonD, wBm, mApp, appM, mPop, popM, mCnt, mIdx, itY, wDict2, wgSub, refQ, setM, setC, wgOSub, ownQ, wOm, wOmM, tyC, oApp, oPop, oPopAt, oExt, oUpd, oIns, wExpM, wSetM, wRetM, wIxM, wDPop1, wDPop2, dpQ, wFz, fzS, wFld, wSFld, wGet2, wGet1, getQ, wEq, wNe, wEq2, wNe2, eqC2, eqB, eqC, asL, asLM, asK, asKM, asS, asT, asTM, wFor, wgTup, wgCons, wgNil, wTuple, wList, wiN, wiA, kindI, seqI, seqM, wiIt, wiItT, wiItA, dctI, dctM, wiVal, dicI, dicM, wiR1, wiR2, wiEn, wiZip, lstI, wSorted, wSorted2, wSorted3, asTS, wAll, wAny, wLc, wDc, wDisp, wDispT1, wRepL, repL, keyT, keyL, wpCons, wpNil, wItems, wSl, wSlN, wPart, wNoP, wipeS, wNever, retE, wReprL, wRaise, wRaiseA, wTry, rTry, sufD, wIsX, wAct, wLam, thL, lendS, lend1, noS, sstart, rNo, wAug, -List.lookup_eq_none_iff]
  refine A_is_integer_ok h ?_
  cases d with
  | int i =>
    simp [isIntD, withinD, wSeq, wAsg, isD, wgName, wPar, setAll, wqD, wqO, wqNil, wDrop, wRet, wRetN, wIfS, wNext, wTst, blQ, wOp, wOpN, wUn, wFrz, treeC, wTmp, wLive, liveC, wOwn, wAnd, wOr, wNot, wIf, tAndW, tOrW, tNotW, wChain, wC, wVar, look, bvOf, wNil, wCons, wTup, wLst, allD, wNewK, wNewT, wCB, wCN, w1, w2, n1, wCall, wCallX, toSV, wIsi, isaQ, tyD, tyM, isaB, wLen, lenD, lenM, wLe, wLt, wGt, wGe, wAdd, wAddL, wAddN, wSub, wMulI, wDiv, wMod, wPow, wNeg, wInt2, wInt1, wCmpI, wAbs, wIx, ixB, ixL, ixM, ixK, wIn, wNotIn, keyD, wIsN, wNotN, isNonB, isNonD, wBm, mApp, appM, mPop, popM, mCnt, mIdx, itY, wDict2, wgSub, refQ, setM, setC, wgOSub, ownQ, wOm, wOmM, tyC, oApp, oPop, oPopAt, oExt, oUpd, oIns, wExpM, wSetM, wRetM, wIxM, wDPop1, wDPop2, dpQ, wFz, fzS, wFld, wSFld, wGet2, wGet1, getQ, wEq, wNe, wEq2, wNe2, eqC2, eqB, eqC, asL, asLM, asK, asKM, asS, asT, asTM, wFor, wgTup, wgCons, wgNil, wTuple, wList, wiN, wiA, kindI, seqI, seqM, wiIt, wiItT, wiItA, dctI, dctM, wiVal, dicI, dicM, wiR1, wiR2, wiEn, wiZip, lstI, wSorted, wSorted2, wSorted3, asTS, wAll, wAny, wLc, wDc, wDisp, wDispT1, wRepL, repL, keyT, keyL, wpCons, wpNil, wItems, wSl, wSlN, wPart, wNoP, wipeS, wNever, retE, wReprL, wRaise, wRaiseA, wTry, rTry, sufD, wIsX, wAct, wLam, thL, lendS, lend1, noS, sstart, rNo, wAug, -List.lookup_eq_none_iff] at q ⊢
    by_cases h1 : l ≤ i
    · simp [h1] at q ⊢; exact q
    · simp [h1] at q ⊢; exact q
  | _ => simp [isIntD, withinD, wSeq, wAsg, isD, wgName, wPar, setAll, wqD, wqO, wqNil, wDrop, wRet, wRetN, wIfS, wNext, wTst, blQ, wOp, wOpN, wUn, wFrz, treeC, wTmp, wLive, liveC, wOwn, wAnd, wOr, wNot, wIf, tAndW, tOrW, tNotW, wChain, wC, wVar, look, bvOf, wNil, wCons, wTup, wLst, allD, wNewK, wNewT, wCB, wCN, w1, w2, n1, wCall, wCallX, toSV, wIsi, isaQ, tyD, tyM, isaB, wLen, lenD, lenM, wLe, wLt, wGt, wGe, wAdd, wAddL, wAddN, wSub, wMulI, wDiv, wMod, wPow, wNeg, wInt2, wInt1, wCmpI, wAbs, wIx, ixB, ixL, ixM, ixK, wIn, wNotIn, keyD, wIsN, wNotN, isNonB, isNonD, wBm, mApp, appM, mPop, popM, mCnt, mIdx, itY, wDict2, wgSub, refQ, setM, setC, wgOSub, ownQ, wOm, wOmM, tyC, oApp, oPop, oPopAt, oExt, oUpd, oIns, wExpM, wSetM, wRetM, wIxM, wDPop1, wDPop2, dpQ, wFz, fzS, wFld, wSFld, wGet2, wGet1, getQ, wEq, wNe, wEq2, wNe2, eqC2, eqB, eqC, asL, asLM, asK, asKM, asS, asT, asTM, wFor, wgTup, wgCons, wgNil, wTuple, wList, wiN, wiA, kindI, seqI, seqM, wiIt, wiItT, wiItA, dctI, dctM, wiVal, dicI, dicM, wiR1, wiR2, wiEn, wiZip, lstI, wSorted, wSorted2, wSorted3, asTS, wAll, wAny, wLc, wDc, wDisp, wDispT1, wRepL, repL, keyT, keyL, wpCons, wpNil, wItems, wSl, wSlN, wPart, wNoP, wipeS, wNever, retE, wReprL, wRaise, wRaiseA, wTry, rTry, sufD, wIsX, wAct, wLam, thL, lendS, lend1, noS, sstart, rNo, wAug, -List.lookup_eq_none_iff] at q ⊢; exact q
theorem asB_all (p : Nat → Bool) : ∀ xs : List Nat, asB (xs.map fun c => D.bl (p c)) = some (xs.map p)
  | [] => rfl
  | c :: r => by simp [asB, asB_all p r]
theorem fm_some {α β : Type} (f : α → β) (xs : List α) : (xs.filterMap fun x => some (f x)) = xs.map f := by simp
/-- the letters of a text, one by one -/
theorem letters {x : Str} {C : OO → Prop} {s0 : SD} {K : List D → OO → Prop} (hC : C O) (hl : x.cps.toList.length ≤ sizeLine) (q : K (x.cps.toList.map fun c => D.bl (decide (97 ≤ c) && decide (c ≤ 122))) O) (z : D) (e0 : s0 = [some (.d z), none]) :
    lcN (wgName 1) (fun _ O Q => Q true O) (wChain wLe wLe (wC (.str "a")) (wVar 1) (wC (.str "z"))) C s0 K (x.cps.toList.map fun c => D.str ⟨#[c]⟩) [] O := by
  subst e0
  refine lcN_run (f := fun d => match d with | .str y => some (.bl (match y.cps.toList with | [c] => decide (97 ≤ c) && decide (c ≤ 122) | _ => false)) | _ => none) hC _ _ (fun d hd Ky Kn h => ?_) (by simpa using hl) ?_
  · obtain ⟨c, hc, rfl⟩ := List.mem_map.mp hd
    simp at h
    have f1 : ((Str.ofString "a").cps ≤ #[c]) ↔ 97 ≤ c := by
      rw [show (Str.ofString "a").cps = #[97] by decide]
      show (¬ ([c] : List Nat) < [97]) ↔ _
      rw [List.cons_lt_cons_iff]
      simp
    have f2 : (!decide ((Str.ofString "z").cps < #[c])) = decide (c ≤ 122) := by
      rw [show (Str.ofString "z").cps = #[122] by decide]
      have : (#[122] < #[c]) ↔ 122 < c := by
        show [122] < [c] ↔ _
        rw [List.cons_lt_cons_iff]; simp
      by_cases h : 122 < c <;> simp [this, h] <;> omega
    simp [wSeq, wAsg, isD, wgName, wPar, setAll, wqD, wqO, wqNil, wDrop, wRet, wRetN, wIfS, wNext, wTst, blQ, wOp, wOpN, wUn, wFrz, treeC, wTmp, wLive, liveC, wOwn, wAnd, wOr, wNot, wIf, tAndW, tOrW, tNotW, wChain, wC, wVar, look, bvOf, wNil, wCons, wTup, wLst, allD, wNewK, wNewT, wCB, wCN, w1, w2, n1, wCall, wCallX, toSV, wIsi, isaQ, tyD, tyM, isaB, wLen, lenD, lenM, wLe, wLt, wGt, wGe, wAdd, wAddL, wAddN, wSub, wMulI, wDiv, wMod, wPow, wNeg, wInt2, wInt1, wCmpI, wAbs, wIx, ixB, ixL, ixM, ixK, wIn, wNotIn, keyD, wIsN, wNotN, isNonB, isNonD, wBm, mApp, appM, mPop, popM, mCnt, mIdx, itY, wDict2, wgSub, refQ, setM, setC, wgOSub, ownQ, wOm, wOmM, tyC, oApp, oPop, oPopAt, oExt, oUpd, oIns, wExpM, wSetM, wRetM, wIxM, wDPop1, wDPop2, dpQ, wFz, fzS, wFld, wSFld, wGet2, wGet1, getQ, wEq, wNe, wEq2, wNe2, eqC2, eqB, eqC, asL, asLM, asK, asKM, asS, asT, asTM, wFor, wgTup, wgCons, wgNil, wTuple, wList, wiN, wiA, kindI, seqI, seqM, wiIt, wiItT, wiItA, dctI, dctM, wiVal, dicI, dicM, wiR1, wiR2, wiEn, wiZip, lstI, wSorted, wSorted2, wSorted3, asTS, wAll, wAny, wLc, wDc, wDisp, wDispT1, wRepL, repL, keyT, keyL, wpCons, wpNil, wItems, wSl, wSlN, wPart, wNoP, wipeS, wNever, retE, wReprL, wRaise, wRaiseA, wTry, rTry, sufD, wIsX, wAct, wLam, thL, lendS, lend1, noS, sstart, rNo, wAug, -List.lookup_eq_none_iff]
    rw [f2]
    by_cases h9 : 97 ≤ c
    · rw [if_pos (f1.mpr h9)]
      simpa [h9] using h
    · rw [if_neg fun z => h9 (f1.mp z)]
      simpa [h9] using h
  · simpa [List.filterMap_map, Function.comp_def, fm_some] using q
theorem low_all (x : Str) : ((x.cps.toList.map fun c => decide (97 ≤ c) && decide (c ≤ 122)).all id) = lowS x := by
  unfold lowS
  induction x.cps.toList with
  | nil => rfl
  | cons a r ih => simp [ih]
theorem asB_low (x : Str) : asB (x.cps.toList.map fun c => D.bl (decide (97 ≤ c) && decide (c ≤ 122))) = some (x.cps.toList.map fun c => decide (97 ≤ c) && decide (c ≤ 122)) := asB_all _ _
theorem len_eq (x : Str) : x.length = x.cps.toList.length := by simp [Str.length]
def shortD (d : D) : Prop := ∀ x, d = .str x → x.length ≤ 1000
theorem A_is_name_ok {d : D} (h : dataD d = true) (hs : shortD d) (q : Q (.bl (isNameD d)) O) : A_is_name CS [.d d] O Q R := by
  refine ⟨rfl, ?_⟩
  unfold W_is_name
  have sz := sizeLine_eq
  cases d with
  | str x =>
    have hl := hs x rfl
    simp [wSeq, wAsg, isD, wgName, wPar, setAll, wqD, wqO, wqNil, wDrop, wRet, wRetN, wIfS, wNext, wTst, blQ, wOp, wOpN, wUn, wFrz, treeC, wTmp, wLive, liveC, wOwn, wAnd, wOr, wNot, wIf, tAndW, tOrW, tNotW, wChain, wC, wVar, look, bvOf, wNil, wCons, wTup, wLst, allD, wNewK, wNewT, wCB, wCN, w1, w2, n1, wCall, wCallX, toSV, wIsi, isaQ, tyD, tyM, isaB, wLen, lenD, lenM, wLe, wLt, wGt, wGe, wAdd, wAddL, wAddN, wSub, wMulI, wDiv, wMod, wPow, wNeg, wInt2, wInt1, wCmpI, wAbs, wIx, ixB, ixL, ixM, ixK, wIn, wNotIn, keyD, wIsN, wNotN, isNonB, isNonD, wBm, mApp, appM, mPop, popM, mCnt, mIdx, itY, wDict2, wgSub, refQ, setM, setC, wgOSub, ownQ, wOm, wOmM, tyC, oApp, oPop, oPopAt, oExt, oUpd, oIns, wExpM, wSetM, wRetM, wIxM, wDPop1, wDPop2, dpQ, wFz, fzS, wFld, wSFld, wGet2, wGet1, getQ, wEq, wNe, wEq2, wNe2, eqC2, eqB, eqC, asL, asLM, asK, asKM, asS, asT, asTM, wFor, wgTup, wgCons, wgNil, wTuple, wList, wiN, wiA, kindI, seqI, seqM, wiIt, wiItT, wiItA, dctI, dctM, wiVal, dicI, dicM, wiR1, wiR2, wiEn, wiZip, lstI, wSorted, wSorted2, wSorted3, asTS, wAll, wAny, wLc, wDc, wDisp, wDispT1, wRepL, repL, keyT, keyL, wpCons, wpNil, wItems, wSl, wSlN, wPart, wNoP, wipeS, wNever, retE, wReprL, wRaise, wRaiseA, wTry, rTry, sufD, wIsX, wAct, wLam, thL, lendS, lend1, noS, sstart, rNo, wAug, -List.lookup_eq_none_iff, tyN, isNameD] at q ⊢
    refine ⟨by omega, ?_⟩
    by_cases h1 : 1 ≤ x.length
    · have h1' : (1 : Int) ≤ (x.length : Int) := by omega
      by_cases h2 : x.length ≤ 12
      · have h2' : (x.length : Int) ≤ 12 := by omega
        simp [h1, h2, h1', h2'] at q ⊢
        refine letters trivial (by rw [← len_eq]; omega) ?_ _ rfl
        simp [asB_low, low_all]
        simpa [lowS] using q
      · have h2' : ¬ (x.length : Int) ≤ 12 := by omega
        simp [h1, h2, h1', h2'] at q ⊢
        exact q
    · have h1' : ¬ (1 : Int) ≤ (x.length : Int) := by omega
      simp [h1, h1'] at q ⊢
      exact q
  | _ => first | (cases h; done) | (simp [wSeq, wAsg, isD, wgName, wPar, setAll, wqD, wqO, wqNil, wDrop, wRet, wRetN, wIfS, wNext, wTst, blQ, wOp, wOpN, wUn, wFrz, treeC, wTmp, wLive, liveC, wOwn, wAnd, wOr, wNot, wIf, tAndW, tOrW, tNotW, wChain, wC, wVar, look, bvOf, wNil, wCons, wTup, wLst, allD, wNewK, wNewT, wCB, wCN, w1, w2, n1, wCall, wCallX, toSV, wIsi, isaQ, tyD, tyM, isaB, wLen, lenD, lenM, wLe, wLt, wGt, wGe, wAdd, wAddL, wAddN, wSub, wMulI, wDiv, wMod, wPow, wNeg, wInt2, wInt1, wCmpI, wAbs, wIx, ixB, ixL, ixM, ixK, wIn, wNotIn, keyD, wIsN, wNotN, isNonB, isNonD, wBm, mApp, appM, mPop, popM, mCnt, mIdx, itY, wDict2, wgSub, refQ, setM, setC, wgOSub, ownQ, wOm, wOmM, tyC, oApp, oPop, oPopAt, oExt, oUpd, oIns, wExpM, wSetM, wRetM, wIxM, wDPop1, wDPop2, dpQ, wFz, fzS, wFld, wSFld, wGet2, wGet1, getQ, wEq, wNe, wEq2, wNe2, eqC2, eqB, eqC, asL, asLM, asK, asKM, asS, asT, asTM, wFor, wgTup, wgCons, wgNil, wTuple, wList, wiN, wiA, kindI, seqI, seqM, wiIt, wiItT, wiItA, dctI, dctM, wiVal, dicI, dicM, wiR1, wiR2, wiEn, wiZip, lstI, wSorted, wSorted2, wSorted3, asTS, wAll, wAny, wLc, wDc, wDisp, wDispT1, wRepL, repL, keyT, keyL, wpCons, wpNil, wItems, wSl, wSlN, wPart, wNoP, wipeS, wNever, retE, wReprL, wRaise, wRaiseA, wTry, rTry, sufD, wIsX, wAct, wLam, thL, lendS, lend1, noS, sstart, rNo, wAug, -List.lookup_eq_none_iff, tyN, isNameD] at q ⊢; exact q)
theorem A_is_word_ok {d : D} (h : dataD d = true) (hs : shortD d) (q : Q (.bl (isWordD d)) O) : A_is_word CS [.d d] O Q R := by
  refine ⟨rfl, ?_⟩
  unfold W_is_word
  have sz := sizeLine_eq
  cases d with
  | str x =>
    have hl := hs x rfl
    simp [wSeq, wAsg, isD, wgName, wPar, setAll, wqD, wqO, wqNil, wDrop, wRet, wRetN, wIfS, wNext, wTst, blQ, wOp, wOpN, wUn, wFrz, treeC, wTmp, wLive, liveC, wOwn, wAnd, wOr, wNot, wIf, tAndW, tOrW, tNotW, wChain, wC, wVar, look, bvOf, wNil, wCons, wTup, wLst, allD, wNewK, wNewT, wCB, wCN, w1, w2, n1, wCall, wCallX, toSV, wIsi, isaQ, tyD, tyM, isaB, wLen, lenD, lenM, wLe, wLt, wGt, wGe, wAdd, wAddL, wAddN, wSub, wMulI, wDiv, wMod, wPow, wNeg, wInt2, wInt1, wCmpI, wAbs, wIx, ixB, ixL, ixM, ixK, wIn, wNotIn, keyD, wIsN, wNotN, isNonB, isNonD, wBm, mApp, appM, mPop, popM, mCnt, mIdx, itY, wDict2, wgSub, refQ, setM, setC, wgOSub, ownQ, wOm, wOmM, tyC, oApp, oPop, oPopAt, oExt, oUpd, oIns, wExpM, wSetM, wRetM, wIxM, wDPop1, wDPop2, dpQ, wFz, fzS, wFld, wSFld, wGet2, wGet1, getQ, wEq, wNe, wEq2, wNe2, eqC2, eqB, eqC, asL, asLM, asK, asKM, asS, asT, asTM, wFor, wgTup, wgCons, wgNil, wTuple, wList, wiN, wiA, kindI, seqI, seqM, wiIt, wiItT, wiItA, dctI, dctM, wiVal, dicI, dicM, wiR1, wiR2, wiEn, wiZip, lstI, wSorted, wSorted2, wSorted3, asTS, wAll, wAny, wLc, wDc, wDisp, wDispT1, wRepL, repL, keyT, keyL, wpCons, wpNil, wItems, wSl, wSlN, wPart, wNoP, wipeS, wNever, retE, wReprL, wRaise, wRaiseA, wTry, rTry, sufD, wIsX, wAct, wLam, thL, lendS, lend1, noS, sstart, rNo, wAug, -List.lookup_eq_none_iff, tyN, isWordD] at q ⊢
    refine ⟨by omega, ?_⟩
    by_cases h2 : x.length ≤ 8
    · have h2' : (x.length : Int) ≤ 8 := by omega
      simp [h2, h2'] at q ⊢
      refine letters trivial (by rw [← len_eq]; omega) ?_ _ rfl
      simp [asB_low, low_all]
      simpa [lowS] using q
    · have h2' : ¬ (x.length : Int) ≤ 8 := by omega
      simp [h2, h2'] at q ⊢
      exact q
  | _ => first | (cases h; done) | (simp [wSeq, wAsg, isD, wgName, wPar, setAll, wqD, wqO, wqNil, wDrop, wRet, wRetN, wIfS, wNext, wTst, blQ, wOp, wOpN, wUn, wFrz, treeC, wTmp, wLive, liveC, wOwn, wAnd, wOr, wNot, wIf, tAndW, tOrW, tNotW, wChain, wC, wVar, look, bvOf, wNil, wCons, wTup, wLst, allD, wNewK, wNewT, wCB, wCN, w1, w2, n1, wCall, wCallX, toSV, wIsi, isaQ, tyD, tyM, isaB, wLen, lenD, lenM, wLe, wLt, wGt, wGe, wAdd, wAddL, wAddN, wSub, wMulI, wDiv, wMod, wPow, wNeg, wInt2, wInt1, wCmpI, wAbs, wIx, ixB, ixL, ixM, ixK, wIn, wNotIn, keyD, wIsN, wNotN, isNonB, isNonD, wBm, mApp, appM, mPop, popM, mCnt, mIdx, itY, wDict2, wgSub, refQ, setM, setC, wgOSub, ownQ, wOm, wOmM, tyC, oApp, oPop, oPopAt, oExt, oUpd, oIns, wExpM, wSetM, wRetM, wIxM, wDPop1, wDPop2, dpQ, wFz, fzS, wFld, wSFld, wGet2, wGet1, getQ, wEq, wNe, wEq2, wNe2, eqC2, eqB, eqC, asL, asLM, asK, asKM, asS, asT, asTM, wFor, wgTup, wgCons, wgNil, wTuple, wList, wiN, wiA, kindI, seqI, seqM, wiIt, wiItT, wiItA, dctI, dctM, wiVal, dicI, dicM, wiR1, wiR2, wiEn, wiZip, lstI, wSorted, wSorted2, wSorted3, asTS, wAll, wAny, wLc, wDc, wDisp, wDispT1, wRepL, repL, keyT, keyL, wpCons, wpNil, wItems, wSl, wSlN, wPart, wNoP, wipeS, wNever, retE, wReprL, wRaise, wRaiseA, wTry, rTry, sufD, wIsX, wAct, wLam, thL, lendS, lend1, noS, sstart, rNo, wAug, -List.lookup_eq_none_iff, tyN, isWordD] at q ⊢; exact q)
theorem A_is_value_ok {d : D} (h : dataD d = true) (hs : shortD d) (q : Q (.bl (isValueD d)) O) : A_is_value CS [.d d] O Q R := by
  refine ⟨rfl, ?_⟩
  unfold W_is_value
  simp [wSeq, wAsg, isD, wgName, wPar, setAll, wqD, wqO, wqNil, wDrop, wRet, wRetN, wIfS, wNext, wTst, blQ, wOp, wOpN, wUn, wFrz, treeC, wTmp, wLive, liveC, wOwn, wAnd, wOr, wNot, wIf, tAndW, tOrW, tNotW, wChain, wC, wVar, look, bvOf, wNil, wCons, wTup, wLst, allD, wNewK, wNewT, wCB, wCN, w1, w2, n1, wCallX, toSV, wIsi, isaQ, tyD, tyM, isaB, wLen, lenD, lenM, wLe, wLt, wGt, wGe, wAdd, wAddL, wAddN, wSub, wMulI, wDiv, wMod, wPow, wNeg, wInt2, wInt1, wCmpI, wAbs, wIx, ixB, ixL, ixM, ixK, wIn, wNotIn, keyD, wIsN, wNotN, isNonB, isNonD, wBm, mApp, appM, mPop, popM, mCnt, mIdx, itY, wDict2, wgSub, refQ, setM, setC, wgOSub, ownQ, wOm, wOmM, tyC, oApp, oPop, oPopAt, oExt, oUpd, oIns, wExpM, wSetM, wRetM, wIxM, wDPop1, wDPop2, dpQ, wFz, fzS, wFld, wSFld, wGet2, wGet1, getQ, wEq, wNe, wEq2, wNe2, eqC2, eqB, eqC, asL, asLM, asK, asKM, asS, asT, asTM, wFor, wgTup, wgCons, wgNil, wTuple, wList, wiN, wiA, kindI, seqI, seqM, wiIt, wiItT, wiItA, dctI, dctM, wiVal, dicI, dicM, wiR1, wiR2, wiEn, wiZip, lstI, wSorted, wSorted2, wSorted3, asTS, wAll, wAny, wLc, wDc, wDisp, wDispT1, wRepL, repL, keyT, keyL, wpCons, wpNil, wItems, wSl, wSlN, wPart, wNoP, wipeS, wNever, retE, wReprL, wRaise, wRaiseA, wTry, rTry, sufD, wIsX, wAct, wLam, thL, lendS, lend1, noS, sstart, rNo, wAug, -List.lookup_eq_none_iff]
  simp only [wCall, wCons, wNil, wVar, look, bvOf, List.map_cons, List.map_nil, toSV, sstart]
  refine A_is_word_ok h hs ?_
  unfold isValueD at q
  cases e : isWordD d with
  | true => simp [e, wSeq, wAsg, isD, wgName, wPar, setAll, wqD, wqO, wqNil, wDrop, wRet, wRetN, wIfS, wNext, wTst, blQ, wOp, wOpN, wUn, wFrz, treeC, wTmp, wLive, liveC, wOwn, wAnd, wOr, wNot, wIf, tAndW, tOrW, tNotW, wChain, wC, wVar, look, bvOf, wNil, wCons, wTup, wLst, allD, wNewK, wNewT, wCB, wCN, w1, w2, n1, wCall, wCallX, toSV, wIsi, isaQ, tyD, tyM, isaB, wLen, lenD, lenM, wLe, wLt, wGt, wGe, wAdd, wAddL, wAddN, wSub, wMulI, wDiv, wMod, wPow, wNeg, wInt2, wInt1, wCmpI, wAbs, wIx, ixB, ixL, ixM, ixK, wIn, wNotIn, keyD, wIsN, wNotN, isNonB, isNonD, wBm, mApp, appM, mPop, popM, mCnt, mIdx, itY, wDict2, wgSub, refQ, setM, setC, wgOSub, ownQ, wOm, wOmM, tyC, oApp, oPop, oPopAt, oExt, oUpd, oIns, wExpM, wSetM, wRetM, wIxM, wDPop1, wDPop2, dpQ, wFz, fzS, wFld, wSFld, wGet2, wGet1, getQ, wEq, wNe, wEq2, wNe2, eqC2, eqB, eqC, asL, asLM, asK, asKM, asS, asT, asTM, wFor, wgTup, wgCons, wgNil, wTuple, wList, wiN, wiA, kindI, seqI, seqM, wiIt, wiItT, wiItA, dctI, dctM, wiVal, dicI, dicM, wiR1, wiR2, wiEn, wiZip, lstI, wSorted, wSorted2, wSorted3, asTS, wAll, wAny, wLc, wDc, wDisp, wDispT1, wRepL, repL, keyT, keyL, wpCons, wpNil, wItems, wSl, wSlN, wPart, wNoP, wipeS, wNever, retE, wReprL, wRaise, wRaiseA, wTry, rTry, sufD, wIsX, wAct, wLam, thL, lendS, lend1, noS, sstart, rNo, wAug, -List.lookup_eq_none_iff] at q ⊢; exact q
  | false =>
    simp [e, wSeq, wAsg, isD, wgName, wPar, setAll, wqD, wqO, wqNil, wDrop, wRet, wRetN, wIfS, wNext, wTst, blQ, wOp, wOpN, wUn, wFrz, treeC, wTmp, wLive, liveC, wOwn, wAnd, wOr, wNot, wIf, tAndW, tOrW, tNotW, wChain, wC, wVar, look, bvOf, wNil, wCons, wTup, wLst, allD, wNewK, wNewT, wCB, wCN, w1, w2, n1, wCall, wCallX, toSV, wIsi, isaQ, tyD, tyM, isaB, wLen, lenD, lenM, wLe, wLt, wGt, wGe, wAdd, wAddL, wAddN, wSub, wMulI, wDiv, wMod, wPow, wNeg, wInt2, wInt1, wCmpI, wAbs, wIx, ixB, ixL, ixM, ixK, wIn, wNotIn, keyD, wIsN, wNotN, isNonB, isNonD, wBm, mApp, appM, mPop, popM, mCnt, mIdx, itY, wDict2, wgSub, refQ, setM, setC, wgOSub, ownQ, wOm, wOmM, tyC, oApp, oPop, oPopAt, oExt, oUpd, oIns, wExpM, wSetM, wRetM, wIxM, wDPop1, wDPop2, dpQ, wFz, fzS, wFld, wSFld, wGet2, wGet1, getQ, wEq, wNe, wEq2, wNe2, eqC2, eqB, eqC, asL, asLM, asK, asKM, asS, asT, asTM, wFor, wgTup, wgCons, wgNil, wTuple, wList, wiN, wiA, kindI, seqI, seqM, wiIt, wiItT, wiItA, dctI, dctM, wiVal, dicI, dicM, wiR1, wiR2, wiEn, wiZip, lstI, wSorted, wSorted2, wSorted3, asTS, wAll, wAny, wLc, wDc, wDisp, wDispT1, wRepL, repL, keyT, keyL, wpCons, wpNil, wItems, wSl, wSlN, wPart, wNoP, wipeS, wNever, retE, wReprL, wRaise, wRaiseA, wTry, rTry, sufD, wIsX, wAct, wLam, thL, lendS, lend1, noS, sstart, rNo, wAug, -List.lookup_eq_none_iff] at q ⊢
    refine A_is_within_ok h ?_
    exact q
/-! ### flat tables -/
def kd (k : Key) : D := keyE k
def okV (d : D) : Prop := dataD d = true ∧ shortD d
def okT (kvs : List (Key × D)) : Prop := kvs.length ≤ 1000 ∧ ∀ kv ∈ kvs, okV (keyE kv.1) ∧ okV kv.2
def flatK (kvs : List (Key × D)) : Bool := decide (kvs.length ≤ 200) && kvs.all fun kv => isNameD (keyE kv.1) && isValueD kv.2
theorem asB_map {α : Type} (p : α → Bool) : ∀ xs : List α, asB (xs.map fun c => D.bl (p c)) = some (xs.map p)
  | [] => rfl
  | c :: r => by simp [asB, asB_map p r]
/-- one pair of a table -/
theorem pair_ok {d a b : D} {Ky : D → OO → Prop} (ha : okV a) (hb : okV b) (q : Ky (.bl (isNameD a && isValueD b)) O) :
    wgTup 2 (wgCons (wgName 1) (wgCons (wgName 2) wgNil)) (.tup [a, b]) [some (.d d), none, none] O fun s2 O2 => (fun _ O Q => Q true O : WT) s2 O2 fun bb O3 => if bb = true then (wAnd (wCall (A_is_name CS) (wCons (wVar 1) wNil)) (wCall (A_is_value CS) (wCons (wVar 2) wNil))) s2 O3 fun y O4 => isD y fun y => Ky y O4 else True := by
  refine ⟨rfl, ?_⟩
  simp only [wgCons, wgName, wgNil, List.set, ↓reduceIte]
  show wCall _ _ _ _ _
  simp only [wCall, wCons, wNil, wVar, look, bvOf, List.map_cons, List.map_nil, toSV]
  refine A_is_name_ok ha.1 ha.2 ?_
  cases e : isNameD a with
  | false => simp [blQ, isD, e] at q ⊢; exact q
  | true =>
    simp only [blQ, ↓reduceIte]
    refine A_is_value_ok hb.1 hb.2 ?_
    simpa [isD, e] using q
def flatD : D → Bool
  | .dic kvs => flatK kvs
  | .dct kvs => kvs.isEmpty
  | _ => false
def okF : D → Prop
  | .dic kvs => okT kvs
  | .dct kvs => kvs.length ≤ 200 ∧ ∀ kv ∈ kvs, okV kv.2
  | d => dataD d = true
theorem A_is_flat_ok {d : D} (h : okF d) (q : Q (.bl (flatD d)) O) : A_is_flat_table CS [.d d] O Q R := by
  refine ⟨rfl, ?_⟩
  unfold W_is_flat_table
  have sz := sizeLine_eq
  cases d with
  | dic kvs =>
    obtain ⟨hl, hk⟩ := h
    simp [wSeq, wAsg, isD, wPar, setAll, wqD, wqO, wqNil, wDrop, wRet, wRetN, wIfS, wNext, wTst, blQ, wOp, wOpN, wUn, wFrz, treeC, wTmp, wLive, liveC, wOwn, wOr, wNot, wIf, tAndW, tOrW, tNotW, wChain, wC, wVar, look, bvOf, wNil, wCons, wTup, wLst, allD, wNewK, wNewT, wCB, wCN, w1, w2, n1, wCallX, toSV, wIsi, isaQ, tyD, tyM, isaB, wLen, lenD, lenM, wLe, wLt, wGt, wGe, wAdd, wAddL, wAddN, wSub, wMulI, wDiv, wMod, wPow, wNeg, wInt2, wInt1, wCmpI, wAbs, wIx, ixB, ixL, ixM, ixK, wIn, wNotIn, keyD, wIsN, wNotN, isNonB, isNonD, wBm, mApp, appM, mPop, popM, mCnt, mIdx, itY, wDict2, wgSub, refQ, setM, setC, wgOSub, ownQ, wOm, wOmM, tyC, oApp, oPop, oPopAt, oExt, oUpd, oIns, wExpM, wSetM, wRetM, wIxM, wDPop1, wDPop2, dpQ, wFz, fzS, wFld, wSFld, wGet2, wGet1, getQ, wEq, wNe, wEq2, wNe2, eqC2, eqB, eqC, asL, asLM, asK, asKM, asS, asT, asTM, wFor, wgNil, wTuple, wList, wiN, wiA, kindI, seqI, seqM, wiIt, wiItT, wiItA, dctI, dctM, wiVal, dicI, dicM, wiR1, wiR2, wiEn, wiZip, lstI, wSorted, wSorted2, wSorted3, asTS, wAll, wAny, wDc, wDisp, wDispT1, wRepL, repL, keyT, keyL, wpCons, wpNil, wItems, wSl, wSlN, wPart, wNoP, wipeS, wNever, retE, wReprL, wRaise, wRaiseA, wTry, rTry, sufD, wIsX, wAct, wLam, thL, lendS, lend1, noS, sstart, rNo, wAug, -List.lookup_eq_none_iff, tyN, flatD] at q ⊢
    by_cases h2 : kvs.length ≤ 200
    · have h2' : ¬ (200 : Int) < (kvs.length : Int) := by omega
      simp [h2'] 
      unfold wLc
      simp only [wiItA, wiIt, wVar, look, bvOf, dicI]
      left
      refine lcN_run (f := fun t => match t with | .tup [a, b] => some (.bl (isNameD a && isValueD b)) | _ => none) trivial _ _ (fun t ht Ky Kn hq => ?_) (by simp; omega) ?_
      · obtain ⟨kv, hkv, rfl⟩ := List.mem_map.mp ht
        have := pair_ok (CS := CS) (d := .dic kvs) (Ky := Ky) (hk kv hkv).1 (hk kv hkv).2 hq
        simpa [wipeS] using this
      · simp [List.filterMap_map, Function.comp_def, fm_some, asB_map]
        simpa [flatK, h2, List.all_map] using q
    · have h2' : (200 : Int) < (kvs.length : Int) := by omega
      simp [h2'] 
      simpa [flatK, h2] using q
  | dct kvs =>
    obtain ⟨hl, hk⟩ := h
    simp [wSeq, wAsg, isD, wPar, setAll, wqD, wqO, wqNil, wDrop, wRet, wRetN, wIfS, wNext, wTst, blQ, wOp, wOpN, wUn, wFrz, treeC, wTmp, wLive, liveC, wOwn, wOr, wNot, wIf, tAndW, tOrW, tNotW, wChain, wC, wVar, look, bvOf, wNil, wCons, wTup, wLst, allD, wNewK, wNewT, wCB, wCN, w1, w2, n1, wCallX, toSV, wIsi, isaQ, tyD, tyM, isaB, wLen, lenD, lenM, wLe, wLt, wGt, wGe, wAdd, wAddL, wAddN, wSub, wMulI, wDiv, wMod, wPow, wNeg, wInt2, wInt1, wCmpI, wAbs, wIx, ixB, ixL, ixM, ixK, wIn, wNotIn, keyD, wIsN, wNotN, isNonB, isNonD, wBm, mApp, appM, mPop, popM, mCnt, mIdx, itY, wDict2, wgSub, refQ, setM, setC, wgOSub, ownQ, wOm, wOmM, tyC, oApp, oPop, oPopAt, oExt, oUpd, oIns, wExpM, wSetM, wRetM, wIxM, wDPop1, wDPop2, dpQ, wFz, fzS, wFld, wSFld, wGet2, wGet1, getQ, wEq, wNe, wEq2, wNe2, eqC2, eqB, eqC, asL, asLM, asK, asKM, asS, asT, asTM, wFor, wgNil, wTuple, wList, wiN, wiA, kindI, seqI, seqM, wiIt, wiItT, wiItA, dctI, dctM, wiVal, dicI, dicM, wiR1, wiR2, wiEn, wiZip, lstI, wSorted, wSorted2, wSorted3, asTS, wAll, wAny, wDc, wDisp, wDispT1, wRepL, repL, keyT, keyL, wpCons, wpNil, wItems, wSl, wSlN, wPart, wNoP, wipeS, wNever, retE, wReprL, wRaise, wRaiseA, wTry, rTry, sufD, wIsX, wAct, wLam, thL, lendS, lend1, noS, sstart, rNo, wAug, -List.lookup_eq_none_iff, tyN, flatD] at q ⊢
    have h2' : ¬ (200 : Int) < (kvs.length : Int) := by omega
    try simp [h2']
    unfold wLc
    simp only [wiItA, wiItT, wVar, look, bvOf, dctI]
    right
    refine lcN_run (f := fun t => match t with | .tup [a, b] => some (.bl (isNameD a && isValueD b)) | _ => none) trivial _ _ (fun t ht Ky Kn hq => ?_) (by simp; omega) ?_
    · obtain ⟨kv, hkv, rfl⟩ := List.mem_map.mp ht
      have := pair_ok (CS := CS) (d := .dct kvs) (Ky := Ky) (a := .tup (kv.1.map keyE)) (b := kv.2) ⟨rfl, fun _ z => by cases z⟩ (hk kv hkv) hq
      simpa [wipeS] using this
    · simp [List.filterMap_map, Function.comp_def, fm_some, asB_map, isNameD]
      cases kvs with
      | nil => simpa using q
      | cons a r => simpa using q
  | _ => first | (cases h; done) | (simp [wSeq, wAsg, isD, wPar, setAll, wqD, wqO, wqNil, wDrop, wRet, wRetN, wIfS, wNext, wTst, blQ, wOp, wOpN, wUn, wFrz, treeC, wTmp, wLive, liveC, wOwn, wOr, wNot, wIf, tAndW, tOrW, tNotW, wChain, wC, wVar, look, bvOf, wNil, wCons, wTup, wLst, allD, wNewK, wNewT, wCB, wCN, w1, w2, n1, wCallX, toSV, wIsi, isaQ, tyD, tyM, isaB, wLen, lenD, lenM, wLe, wLt, wGt, wGe, wAdd, wAddL, wAddN, wSub, wMulI, wDiv, wMod, wPow, wNeg, wInt2, wInt1, wCmpI, wAbs, wIx, ixB, ixL, ixM, ixK, wIn, wNotIn, keyD, wIsN, wNotN, isNonB, isNonD, wBm, mApp, appM, mPop, popM, mCnt, mIdx, itY, wDict2, wgSub, refQ, setM, setC, wgOSub, ownQ, wOm, wOmM, tyC, oApp, oPop, oPopAt, oExt, oUpd, oIns, wExpM, wSetM, wRetM, wIxM, wDPop1, wDPop2, dpQ, wFz, fzS, wFld, wSFld, wGet2, wGet1, getQ, wEq, wNe, wEq2, wNe2, eqC2, eqB, eqC, asL, asLM, asK, asKM, asS, asT, asTM, wFor, wgNil, wTuple, wList, wiN, wiA, kindI, seqI, seqM, wiIt, wiItT, wiItA, dctI, dctM, wiVal, dicI, dicM, wiR1, wiR2, wiEn, wiZip, lstI, wSorted, wSorted2, wSorted3, asTS, wAll, wAny, wDc, wDisp, wDispT1, wRepL, repL, keyT, keyL, wpCons, wpNil, wItems, wSl, wSlN, wPart, wNoP, wipeS, wNever, retE, wReprL, wRaise, wRaiseA, wTry, rTry, sufD, wIsX, wAct, wLam, thL, lendS, lend1, noS, sstart, rNo, wAug, -List.lookup_eq_none_iff, tyN, flatD] at q ⊢; exact q)
/-- a table that is none is refused: class 0 -/
theorem A_check_ok {d : D} (h : okF d) (q : if flatD d = true then Q .non O else R 0 [] O) : A_check_flat CS [.d d] O Q R := by
  refine ⟨rfl, ?_⟩
  unfold W_check_flat
  simp only [wIfS, tNotW, wTst, wCall, wCons, wNil, wVar, look, bvOf, List.map_cons, List.map_nil, toSV, sstart, List.map, List.append]
  refine A_is_flat_ok h ?_
  cases e : flatD d with
  | true => simp [e, blQ, wNext, retE] at q ⊢; exact q
  | false => simp [e, blQ, wRaise] at q ⊢; exact q
end KM

set_option Elab.async false
set_option linter.all false
set_option maxRecDepth 100000
set_option maxHeartbeats 1000000
/-! KM: tables, their names, merges -/
namespace KM
open PySem PySem.Spec PyProof.Rows L2 VD
variable {CS : CSt} {R : RZ} {O : OO} {Q : D → OO → Prop}
abbrev Tab := List (Key × D)
def strK (t : Tab) : List Str := t.filterMap fun kv => match kv.1 with | .inr n => some n | .inl _ => none
/-- keys are texts, each once, values flat -/
def fl (d : D) : Prop := d = .non ∨ (∃ i, d = .int i) ∨ ∃ x, d = .str x
def txtK (t : Tab) : Prop := ∀ kv ∈ t, ∃ n, kv.1 = .inr n
structure TabG (t : Tab) : Prop where
  nd : (t.map (·.1)).Nodup
  few : t.length ≤ 200
  nm : ∀ kv ∈ t, ∃ n, kv.1 = .inr n ∧ isNameD (.str n) = true
  vl : ∀ kv ∈ t, isValueD kv.2 = true
theorem TabG.txt {t : Tab} (h : TabG t) : txtK t := fun kv hk => (h.nm kv hk).imp fun _ z => z.1
theorem value_fl {d : D} (h : isValueD d = true) : fl d := by
  cases d with
  | str x => exact .inr (.inr ⟨_, rfl⟩)
  | int i => exact .inr (.inl ⟨_, rfl⟩)
  | _ => simp [isValueD, isWordD, withinD] at h
theorem value_nn {d : D} (h : isValueD d = true) : d ≠ .non := fun e => by subst e; simp [isValueD, isWordD, withinD] at h
theorem flat_good {t : Tab} (h : flatD (.dic t) = true) (nd : (t.map (·.1)).Nodup) : TabG t := by
  simp only [flatD, flatK, Bool.and_eq_true, decide_eq_true_eq, List.all_eq_true] at h
  refine ⟨nd, h.1, fun kv hk => ?_, fun kv hk => (h.2 kv hk).2⟩
  have := (h.2 kv hk).1
  cases e : kv.1 with
  | inl i => rw [e] at this; simp [keyE, isNameD] at this
  | inr n => rw [e] at this; exact ⟨n, rfl, this⟩
theorem TabG.flat {t : Tab} (h : TabG t) : flatD (.dic t) = true := by
  simp only [flatD, flatK, Bool.and_eq_true, decide_eq_true_eq, List.all_eq_true]
  refine ⟨h.few, fun kv hk => ⟨?_, h.vl kv hk⟩⟩
  obtain ⟨n, e, hn⟩ := h.nm kv hk
  rw [e]
  exact hn
theorem TabG.okF {t : Tab} (h : TabG t) : okF (.dic t) := by
  refine ⟨Nat.le_trans h.few (by decide), fun kv hk => ⟨?_, ?_⟩⟩
  · obtain ⟨n, e, hn⟩ := h.nm kv hk
    rw [e]
    refine ⟨rfl, fun x hx => ?_⟩
    cases hx
    simp only [isNameD, Bool.and_eq_true, decide_eq_true_eq] at hn
    omega
  · have hv := h.vl kv hk
    rcases value_fl hv with e | ⟨i, e⟩ | ⟨x, e⟩
    · exact absurd e (value_nn hv)
    · rw [e]; exact ⟨rfl, fun _ z => by cases z⟩
    · rw [e] at hv ⊢
      refine ⟨rfl, fun y hy => ?_⟩
      cases hy
      simp [isValueD, isWordD, withinD] at hv
      omega
theorem put_len {κ ν : Type} [DecidableEq κ] {t : List (κ × ν)} {k : κ} {v : ν} : (putG t k v).length ≤ t.length + 1 := by
  unfold putG; split <;> simp
theorem merge_len {κ ν : Type} [DecidableEq κ] : ∀ (b a : List (κ × ν)), (mergeG a b).length ≤ a.length + b.length
  | [], a => by simp [mergeG]
  | kv :: r, a => by
    have := merge_len r (putG a kv.1 kv.2)
    have h2 := put_len (t := a) (k := kv.1) (v := kv.2)
    simp only [List.length_cons]
    exact Nat.le_trans this (by omega)
theorem mem_putG {κ ν : Type} [DecidableEq κ] {t : List (κ × ν)} {k : κ} {v : ν} {kv : κ × ν} (h : kv ∈ putG t k v) : kv = (k, v) ∨ kv ∈ t := by
  unfold putG at h
  split at h
  · obtain ⟨x, h1, h2⟩ := List.mem_map.mp h
    split at h2
    · rename_i e
      left
      rw [← h2, e]
    · right
      rw [← h2]; exact h1
  · rcases List.mem_append.mp h with h | h
    · exact .inr h
    · exact .inl (by simpa using h)
theorem putG_keys {κ ν : Type} [DecidableEq κ] {t : List (κ × ν)} {k : κ} {v : ν} : (putG t k v).map (·.1) = if k ∈ t.map (·.1) then t.map (·.1) else t.map (·.1) ++ [k] := by
  unfold putG
  by_cases h : (t.any fun kv => decide (kv.1 = k)) = true
  · rw [if_pos h]
    have : k ∈ t.map (·.1) := by
      obtain ⟨kv, h1, h2⟩ := List.any_eq_true.mp h
      exact List.mem_map.mpr ⟨kv, h1, of_decide_eq_true h2⟩
    rw [if_pos this, List.map_map]
    refine List.map_congr_left fun kv _ => ?_
    show (if kv.1 = k then (kv.1, v) else kv).1 = kv.1
    split <;> rfl
  · rw [if_neg h]
    have : k ∉ t.map (·.1) := fun z => by
      obtain ⟨kv, h1, h2⟩ := List.mem_map.mp z
      exact h (List.any_eq_true.mpr ⟨kv, h1, decide_eq_true h2⟩)
    rw [if_neg this]
    simp
theorem nodup_put {κ ν : Type} [DecidableEq κ] {t : List (κ × ν)} (h : (t.map (·.1)).Nodup) (k : κ) (v : ν) : ((putG t k v).map (·.1)).Nodup := by
  rw [putG_keys]
  split
  · exact h
  · rename_i hk
    rw [List.nodup_append]
    exact ⟨h, by simp, fun a ha b hb e => by simp at hb; subst hb; subst e; exact hk ha⟩
theorem nodup_merge {κ ν : Type} [DecidableEq κ] : ∀ {b a : List (κ × ν)}, (a.map (·.1)).Nodup → ((mergeG a b).map (·.1)).Nodup
  | [], a, h => h
  | kv :: r, a, h => nodup_merge (b := r) (a := putG a kv.1 kv.2) (nodup_put h _ _)
theorem mem_merge {κ ν : Type} [DecidableEq κ] {kv : κ × ν} : ∀ {b a : List (κ × ν)}, kv ∈ mergeG a b → kv ∈ a ∨ kv ∈ b
  | [], a, h => .inl h
  | x :: r, a, h => by
    rcases mem_merge (b := r) (a := putG a x.1 x.2) h with h | h
    · rcases mem_putG h with e | h
      · exact .inr (by rw [e]; exact List.mem_cons_self)
      · exact .inl h
    · exact .inr (List.mem_cons_of_mem _ h)
theorem merge_txt {a b : Tab} (ha : txtK a) (hb : txtK b) : txtK (mergeG a b) := fun kv h => (mem_merge h).elim (ha kv) (hb kv)
theorem merge_nilK : txtK [] := fun _ h => (List.not_mem_nil h).elim
theorem keysS_strK : ∀ {t : Tab}, txtK t → keysS (t.map (·.1)) = some (strK t)
  | [], _ => rfl
  | (.inr n, v) :: r, h => by
    have ih := keysS_strK (t := r) fun x hx => h x (List.mem_cons_of_mem _ hx)
    simp only [List.map_cons, keysS, ih, strK, List.filterMap_cons, Option.map_some]
  | (.inl n, v) :: r, h => by
    obtain ⟨m, e⟩ := h _ List.mem_cons_self
    cases e
theorem strK_len (t : Tab) : (strK t).length ≤ t.length := List.length_filterMap_le _ _
def namesL (t : Tab) : List Str := sortS (strK t)
theorem namesL_len (t : Tab) : (namesL t).length ≤ t.length := by
  have : (namesL t).length = (strK t).length := (isort_perm leS (strK t)).length_eq
  rw [this]
  exact strK_len t
theorem A_all_names2 {a b : Tab} (ha : txtK a) (hb : txtK b) (la : a.length ≤ 400) (lb : b.length ≤ 400) (q : Q (.lst ((namesL (mergeG (mergeG [] a) b)).map D.str)) O) : A_all_names CS [.d (.lst [.dic a, .dic b])] O Q R := by
  refine ⟨rfl, ?_⟩
  unfold W_all_names
  have sz := sizeLine_eq
  have l1 := merge_len a []
  have l2 := merge_len b (mergeG [] a)
  simp only [List.length_nil] at l1
  have hk := keysS_strK (merge_txt (merge_txt merge_nilK ha) hb)
  simp [wSeq, wAsg, isD, wgName, wPar, setAll, wqD, wqO, wqNil, wDrop, wRet, wRetN, wIfS, wNext, wTst, blQ, wOp, wOpN, wUn, wFrz, treeC, wTmp, wLive, liveC, wOwn, wAnd, wOr, wNot, wIf, tAndW, tOrW, tNotW, wChain, wC, wVar, look, bvOf, wNil, wCons, wTup, wLst, allD, wNewK, wNewT, wCB, wCN, w1, w2, n1, wCall, wCallX, toSV, wIsi, isaQ, tyD, tyM, isaB, wLen, lenD, lenM, wLe, wLt, wGt, wGe, wAdd, wAddL, wAddN, wSub, wMulI, wDiv, wMod, wPow, wNeg, wInt2, wInt1, wCmpI, wAbs, wIx, ixB, ixL, ixM, ixK, wIn, wNotIn, keyD, wIsN, wNotN, isNonB, isNonD, wBm, mApp, appM, mPop, popM, mCnt, mIdx, itY, wDict2, wgSub, refQ, setM, setC, wgOSub, ownQ, wOm, wOmM, tyC, oApp, oPop, oPopAt, oExt, oUpd, oIns, wExpM, wSetM, wRetM, wIxM, wDPop1, wDPop2, dpQ, wFz, fzS, wFld, wSFld, wGet2, wGet1, getQ, wEq, wNe, wEq2, wNe2, eqC2, eqB, eqC, asL, asLM, asK, asKM, asS, asT, asTM, wFor, wgTup, wgCons, wgNil, wTuple, wList, wiN, wiA, kindI, seqI, seqM, wiIt, wiItT, wiItA, dctI, dctM, wiVal, dicI, dicM, wiR1, wiR2, wiEn, wiZip, lstI, wSorted, wSorted3, asTS, wAll, wAny, wLc, wDc, wDisp, wDispT1, wRepL, repL, keyT, keyL, wpCons, wpNil, wItems, wSl, wSlN, wPart, wNoP, wipeS, wNever, retE, wReprL, wRaise, wRaiseA, wTry, rTry, sufD, wIsX, wAct, wLam, thL, lendS, lend1, noS, sstart, rNo, wAug, -List.lookup_eq_none_iff, forN]
  refine ⟨by omega, by omega, .inr (.inr (.inr ⟨_, _, rfl, hk, q⟩))⟩
theorem A_all_names3 {a b c : Tab} (ha : txtK a) (hb : txtK b) (hc : txtK c) (la : a.length ≤ 400) (lb : b.length ≤ 400) (lc : c.length ≤ 400) (q : Q (.lst ((namesL (mergeG (mergeG (mergeG [] a) b) c)).map D.str)) O) : A_all_names CS [.d (.lst [.dic a, .dic b, .dic c])] O Q R := by
  refine ⟨rfl, ?_⟩
  unfold W_all_names
  have sz := sizeLine_eq
  have l1 := merge_len a []
  have l2 := merge_len b (mergeG [] a)
  have l3 := merge_len c (mergeG (mergeG [] a) b)
  simp only [List.length_nil] at l1
  have hk := keysS_strK (merge_txt (merge_txt (merge_txt merge_nilK ha) hb) hc)
  simp [wSeq, wAsg, isD, wgName, wPar, setAll, wqD, wqO, wqNil, wDrop, wRet, wRetN, wIfS, wNext, wTst, blQ, wOp, wOpN, wUn, wFrz, treeC, wTmp, wLive, liveC, wOwn, wAnd, wOr, wNot, wIf, tAndW, tOrW, tNotW, wChain, wC, wVar, look, bvOf, wNil, wCons, wTup, wLst, allD, wNewK, wNewT, wCB, wCN, w1, w2, n1, wCall, wCallX, toSV, wIsi, isaQ, tyD, tyM, isaB, wLen, lenD, lenM, wLe, wLt, wGt, wGe, wAdd, wAddL, wAddN, wSub, wMulI, wDiv, wMod, wPow, wNeg, wInt2, wInt1, wCmpI, wAbs, wIx, ixB, ixL, ixM, ixK, wIn, wNotIn, keyD, wIsN, wNotN, isNonB, isNonD, wBm, mApp, appM, mPop, popM, mCnt, mIdx, itY, wDict2, wgSub, refQ, setM, setC, wgOSub, ownQ, wOm, wOmM, tyC, oApp, oPop, oPopAt, oExt, oUpd, oIns, wExpM, wSetM, wRetM, wIxM, wDPop1, wDPop2, dpQ, wFz, fzS, wFld, wSFld, wGet2, wGet1, getQ, wEq, wNe, wEq2, wNe2, eqC2, eqB, eqC, asL, asLM, asK, asKM, asS, asT, asTM, wFor, wgTup, wgCons, wgNil, wTuple, wList, wiN, wiA, kindI, seqI, seqM, wiIt, wiItT, wiItA, dctI, dctM, wiVal, dicI, dicM, wiR1, wiR2, wiEn, wiZip, lstI, wSorted, wSorted3, asTS, wAll, wAny, wLc, wDc, wDisp, wDispT1, wRepL, repL, keyT, keyL, wpCons, wpNil, wItems, wSl, wSlN, wPart, wNoP, wipeS, wNever, retE, wReprL, wRaise, wRaiseA, wTry, rTry, sufD, wIsX, wAct, wLam, thL, lendS, lend1, noS, sstart, rNo, wAug, -List.lookup_eq_none_iff, forN]
  refine ⟨by omega, by omega, by omega, .inr (.inr (.inr ⟨_, _, rfl, hk, q⟩))⟩
/-! ### values -/
theorem fl_cmp {x y : D} (hx : fl x) (hy : fl y) : cmpD x y = true := by
  rcases hx with rfl | ⟨i, rfl⟩ | ⟨i, rfl⟩ <;> rcases hy with rfl | ⟨j, rfl⟩ | ⟨j, rfl⟩ <;> rfl
theorem fl_dp {x : D} (hx : fl x) : dpD x = 0 := by rcases hx with rfl | ⟨i, rfl⟩ | ⟨i, rfl⟩ <;> rfl
theorem fl_eqv {x y : D} (hx : fl x) (hy : fl y) : eqvD x y = true ↔ x = y := by
  rcases hx with rfl | ⟨i, rfl⟩ | ⟨i, rfl⟩ <;> rcases hy with rfl | ⟨j, rfl⟩ | ⟨j, rfl⟩ <;> simp [eqvD]
theorem fl_pln {x : D} (hx : fl x) : pln x = true := by rcases hx with rfl | ⟨i, rfl⟩ | ⟨i, rfl⟩ <;> rfl
def getT (t : Tab) (n : Str) : D := (valG t (.inr n)).getD .non
def mv (o x y : D) : D × Bool := if eqvD x y || eqvD y o then (x, false) else if eqvD x o then (y, false) else (x, true)
theorem eqB_d {d : D} {K : D → Prop} : eqB (.d d) K = K d := rfl
theorem fl_eqC2 {x y : D} (hx : fl x) (hy : fl y) : eqC2 x y := .inl ⟨by rw [fl_dp hx]; omega, by rw [fl_pln hx, fl_pln hy]; rfl⟩
theorem eq_fl {x y : D} (hx : fl x) (hy : fl y) {Q : BV → OO → Prop} : wEq2 (.d x) (.d y) O Q = Q (.d (.bl (eqvD x y))) O := by
  show (eqC2 x y ∧ _) = _
  rw [eq_true (fl_eqC2 hx hy), true_and]
theorem ne_fl {x y : D} (hx : fl x) (hy : fl y) {Q : BV → OO → Prop} : wNe2 (.d x) (.d y) O Q = Q (.d (.bl (!eqvD x y))) O := by
  show (eqC2 x y ∧ _) = _
  rw [eq_true (fl_eqC2 hx hy), true_and]
theorem A_merged_value_ok {o x y : D} (ho : fl o) (hx : fl x) (hy : fl y) (q : Q (.tup [(mv o x y).1, .bl (mv o x y).2]) O) : A_merged_value CS [.d o, .d x, .d y] O Q R := by
  refine ⟨rfl, ?_⟩
  unfold W_merged_value
  simp [wSeq, wAsg, isD, wgName, wPar, setAll, wqD, wqO, wqNil, wDrop, wRet, wRetN, wIfS, wNext, wTst, blQ, wOp, wOpN, wUn, wFrz, treeC, wTmp, wLive, liveC, wOwn, wAnd, wOr, wNot, wIf, tAndW, tOrW, tNotW, wChain, wC, wVar, look, bvOf, wNil, wCons, wTup, wLst, allD, wNewK, wNewT, wCB, wCN, w1, w2, n1, wCall, wCallX, toSV, wIsi, isaQ, tyD, tyM, isaB, wLen, lenD, lenM, wLe, wLt, wGt, wGe, wAdd, wAddL, wAddN, wSub, wMulI, wDiv, wMod, wPow, wNeg, wInt2, wInt1, wCmpI, wAbs, wIx, ixB, ixL, ixM, ixK, wIn, wNotIn, keyD, wIsN, wNotN, isNonB, isNonD, wBm, mApp, appM, mPop, popM, mCnt, mIdx, itY, wDict2, wgSub, refQ, setM, setC, wgOSub, ownQ, wOm, wOmM, tyC, oApp, oPop, oPopAt, oExt, oUpd, oIns, wExpM, wSetM, wRetM, wIxM, wDPop1, wDPop2, dpQ, wFz, fzS, wFld, wSFld, wGet2, wGet1, getQ, wEq, wNe, wNe2, eqC2, eqB, eqC, asL, asLM, asK, asKM, asS, asT, asTM, wFor, wgTup, wgCons, wgNil, wTuple, wList, wiN, wiA, kindI, seqI, seqM, wiIt, wiItT, wiItA, dctI, dctM, wiVal, dicI, dicM, wiR1, wiR2, wiEn, wiZip, lstI, wSorted, wSorted2, wSorted3, asTS, wAll, wAny, wLc, wDc, wDisp, wDispT1, wRepL, repL, keyT, keyL, wpCons, wpNil, wItems, wSl, wSlN, wPart, wNoP, wipeS, wNever, retE, wReprL, wRaise, wRaiseA, wTry, rTry, sufD, wIsX, wAct, wLam, thL, lendS, lend1, noS, sstart, rNo, wAug, -List.lookup_eq_none_iff, eq_fl hx hy, eq_fl hy ho, eq_fl hx ho]
  unfold mv at q
  cases h1 : eqvD x y <;> cases h2 : eqvD y o <;> cases h3 : eqvD x o <;> simp [h1, h2, h3] at q ⊢ <;> exact q
end KM

set_option Elab.async false
set_option linter.all false
set_option maxRecDepth 100000
set_option maxHeartbeats 1000000
/-! KM: merged, difference -/
namespace KM
open PySem PySem.Spec PyProof.Rows L2 VD
variable {CS : CSt} {R : RZ} {O : OO} {Q : D → OO → Prop}
theorem valG_mem {κ ν : Type} [DecidableEq κ] {t : List (κ × ν)} {k : κ} {v : ν} (h : valG t k = some v) : (k, v) ∈ t := by
  unfold valG at h
  obtain ⟨kv, h1, h2⟩ := Option.map_eq_some_iff.mp h
  have := List.find?_some h1
  rw [← of_decide_eq_true this, ← h2]
  exact List.mem_of_find?_eq_some h1
theorem getT_vn {t : Tab} (h : TabG t) (n : Str) : getT t n = .non ∨ isValueD (getT t n) = true := by
  unfold getT
  cases e : valG t (.inr n) with
  | none => exact .inl rfl
  | some v => exact .inr (h.vl _ (valG_mem e))
theorem getT_fl {t : Tab} (h : TabG t) (n : Str) : fl (getT t n) := (getT_vn h n).elim .inl value_fl
theorem isNon_iff {d : D} : isNonD d = true ↔ d = .non := by cases d <;> simp [isNonD]
theorem at0 {d : D} {r : List D} : atI (d :: r) 0 = some d := by simp [atI, ixN]
theorem at1 {d e : D} {r : List D} : atI (d :: e :: r) 1 = some e := by
  have : (1 : Int) < (r.length : Int) + 1 + 1 := by omega
  simp [atI, ixN, this]
def mstep (b x y : Tab) (acc : Tab × List Str) (n : Str) : Tab × List Str :=
  let v := mv (getT b n) (getT x n) (getT y n)
  (if isNonD v.1 then acc.1 else putG acc.1 (.inr n) v.1, if v.2 then acc.2 ++ [n] else acc.2)
def all3 (b x y : Tab) : List Str := namesL (mergeG (mergeG (mergeG [] b) x) y)
def mrg (b x y : Tab) : Tab × List Str := (all3 b x y).foldl (mstep b x y) ([], [])
def mrgD (b x y : Tab) : D := .tup [.dic (mrg b x y).1, .tup ((mrg b x y).2.map D.str)]
theorem mv_fl {o x y : D} (hx : fl x) (hy : fl y) : fl (mv o x y).1 := by
  unfold mv; split
  · exact hx
  · split
    · exact hy
    · exact hx
theorem all3_len {b x y : Tab} (hb : TabG b) (hx : TabG x) (hy : TabG y) : (all3 b x y).length ≤ 600 := by
  have l1 := merge_len b []
  have l2 := merge_len x (mergeG [] b)
  have l3 := merge_len y (mergeG (mergeG [] b) x)
  have := hb.few
  have := hx.few
  have := hy.few
  simp only [List.length_nil] at l1
  exact Nat.le_trans (namesL_len _) (by omega)
theorem look_of {x : SV} {K : SV → Prop} : ∀ {s : SD} {i : Nat}, s[i]? = some (some x) → look s i K = K x
  | some _ :: _, 0, h => by cases h; rfl
  | none :: _, 0, h => by cases h
  | _ :: r, i + 1, h => by
    have : r[i]? = some (some x) := by simpa using h
    simpa [look] using look_of this
  | [], _, h => by cases h
theorem get_var {i j : Nat} {s : SD} {t : Tab} {m : Str} {Q : BV → OO → Prop} (h1 : s[i]? = some (some (.d (.dic t)))) (h2 : s[j]? = some (some (.d (.str m)))) : wGet2 (wVar i) (wVar j) (wC .non) s O Q = Q (.d (getT t m)) O := by
  simp [wGet2, wVar, look_of h1, look_of h2, bvOf, wC, isD, getQ, asK, asT, keyD]
  rfl
theorem A_raw_merged_ok {b x y : Tab} (hb : TabG b) (hx : TabG x) (hy : TabG y) (q : Q (mrgD b x y) O) : A_raw_merged CS [.d (.dic b), .d (.dic x), .d (.dic y)] O Q R := by
  refine ⟨rfl, ?_⟩
  unfold W_raw_merged
  have sz := sizeLine_eq
  have l3 := all3_len hb hx hy
  have := hb.few
  have := hx.few
  have := hy.few
  simp only [wSeq, wPar, wqO, wqNil, wNewK, wLst, wNil, allD, setAll, sstart]
  unfold wFor
  simp only [wiN, wCall, wCons, wNil, wFrz, wLst, wVar, look, bvOf, List.map_cons, List.map_nil, toSV, List.map, List.append]
  refine A_all_names3 hb.txt hx.txt hy.txt (by omega) (by omega) (by omega) ⟨rfl, ?_⟩
  refine forN_run (fun r s => ∃ (acc : Tab × List Str) (n t : Option SV), s = [some (.d (.dic b)), some (.d (.dic x)), some (.d (.dic y)), some (.o (.dic acc.1)), some (.o (.lst (acc.2.map D.str))), n, t] ∧
    acc.1.length + (r : List D).length ≤ 600 ∧ acc.2.length + r.length ≤ 600 ∧ ∃ ns : List Str, r = ns.map D.str ∧ ns.foldl (mstep b x y) acc = mrg b x y) trivial _ _ ?_ ?_ ?_
  · rintro d r s hsuf ⟨acc, n, t, rfl, hlen, hlen2, ns, e, hfold⟩ D2 hrt hbk hnx hct
    cases ns with
    | nil => cases e
    | cons m ns =>
      simp only [List.map_cons, List.cons.injEq] at e
      obtain ⟨rfl, rfl⟩ := e
      have v1 := getT_fl hb m
      have v2 := getT_fl hx m
      have v3 := getT_fl hy m
      have vm := mv_fl (o := getT b m) v2 v3
      simp only [List.length_cons, List.length_map] at hlen hlen2
      have efold : List.foldl (mstep b x y) (mstep b x y acc m) ns = mrg b x y := hfold
      have key : ∀ n t, D2.nx [some (.d (.dic b)), some (.d (.dic x)), some (.d (.dic y)), some (.o (.dic (mstep b x y acc m).1)), some (.o (.lst ((mstep b x y acc m).2.map D.str))), n, t] O := fun n t => by
        refine hnx _ ⟨_, _, _, rfl, ?_, ?_, ns, rfl, efold⟩
        · have : (mstep b x y acc m).1.length ≤ acc.1.length + 1 := by
            show (if isNonD (mv (getT b m) (getT x m) (getT y m)).1 = true then acc.1 else putG acc.1 (.inr m) (mv (getT b m) (getT x m) (getT y m)).1).length ≤ _
            split
            · omega
            · exact put_len
          simp only [List.length_map]
          omega
        · have : (mstep b x y acc m).2.length ≤ acc.2.length + 1 := by
            show (if (mv (getT b m) (getT x m) (getT y m)).2 = true then acc.2 ++ [m] else acc.2).length ≤ _
            split <;> simp
          simp only [List.length_map]
          omega
      have e1 : (mstep b x y acc m).1 = if isNonD (mv (getT b m) (getT x m) (getT y m)).1 = true then acc.1 else putG acc.1 (.inr m) (mv (getT b m) (getT x m) (getT y m)).1 := rfl
      have e2 : (mstep b x y acc m).2 = if (mv (getT b m) (getT x m) (getT y m)).2 = true then acc.2 ++ [m] else acc.2 := rfl
      clear hnx hct hrt hbk hfold q
      simp only [wgName, wSeq, wAsg, wCall, wCons, wNil]
      rw [get_var rfl rfl, get_var rfl rfl, get_var rfl rfl]
      simp only [List.map, toSV]
      refine A_merged_value_ok v1 v2 v3 ?_
      generalize mv (getT b m) (getT x m) (getT y m) = v at *
      obtain ⟨v, k⟩ := v
      cases hv : isNonD v <;> cases k <;> simp [hv, at0, at1, wSeq, wAsg, isD, wgName, wPar, setAll, wqD, wqO, wqNil, wDrop, wRet, wRetN, wIfS, wNext, wTst, blQ, wOp, wOpN, wUn, wFrz, treeC, wTmp, wLive, liveC, wOwn, wAnd, wOr, wNot, wIf, tAndW, tOrW, tNotW, wChain, wC, wVar, look, bvOf, wNil, wCons, wTup, wLst, allD, wNewK, wNewT, wCB, wCN, w1, w2, n1, wCall, wCallX, toSV, wIsi, isaQ, tyD, tyM, isaB, wLen, lenD, lenM, wLe, wLt, wGt, wGe, wAdd, wAddL, wAddN, wSub, wMulI, wDiv, wMod, wPow, wNeg, wInt2, wInt1, wCmpI, wAbs, wIx, ixB, ixL, ixM, ixK, wIn, wNotIn, keyD, wIsN, wNotN, isNonB, wBm, mApp, appM, mPop, popM, mCnt, mIdx, itY, wDict2, wgSub, refQ, setM, setC, wgOSub, ownQ, wOm, wOmM, tyC, oApp, oPop, oPopAt, oExt, oUpd, oIns, wExpM, wSetM, wRetM, wIxM, wDPop1, wDPop2, dpQ, wFz, fzS, wFld, wSFld, wGet2, wGet1, getQ, wEq, wNe, wEq2, wNe2, eqC2, eqB, eqC, asL, asLM, asK, asKM, asS, asT, asTM, wFor, wgTup, wgCons, wgNil, wTuple, wList, wiN, wiA, kindI, seqI, seqM, wiIt, wiItT, wiItA, dctI, dctM, wiVal, dicI, dicM, wiR1, wiR2, wiEn, wiZip, lstI, wSorted, wSorted2, wSorted3, asTS, wAll, wAny, wLc, wDc, wDisp, wDispT1, wRepL, repL, keyT, keyL, wpCons, wpNil, wItems, wSl, wSlN, wPart, wNoP, wipeS, wNever, retE, wReprL, wRaise, wRaiseA, wTry, rTry, sufD, wIsX, wAct, wLam, thL, lendS, lend1, noS, sstart, rNo, wAug, -List.lookup_eq_none_iff] at e1 e2 ⊢
      all_goals (try refine ⟨by omega, ?_⟩)
      all_goals (try refine ⟨by omega, ?_⟩)
      all_goals (have := key (some (.d (.str m))) (some (.d (.tup [v, .bl true]))))
      all_goals (have := key (some (.d (.str m))) (some (.d (.tup [v, .bl false]))))
      all_goals (simp [e1, e2] at this key ⊢; exact key _ _)
  · rintro s ⟨acc, n, t, rfl, hlen, hlen2, ns, e, hfold⟩
    cases ns with
    | cons m ns => cases e
    | nil =>
      simp at hfold
      subst hfold
      simp [wSeq, wAsg, isD, wgName, wPar, setAll, wqD, wqO, wqNil, wDrop, wRet, wRetN, wIfS, wNext, wTst, blQ, wOp, wOpN, wUn, wFrz, treeC, wTmp, wLive, liveC, wOwn, wAnd, wOr, wNot, wIf, tAndW, tOrW, tNotW, wChain, wC, wVar, look, bvOf, wNil, wCons, wTup, wLst, allD, wNewK, wNewT, wCB, wCN, w1, w2, n1, wCall, wCallX, toSV, wIsi, isaQ, tyD, tyM, isaB, wLen, lenD, lenM, wLe, wLt, wGt, wGe, wAdd, wAddL, wAddN, wSub, wMulI, wDiv, wMod, wPow, wNeg, wInt2, wInt1, wCmpI, wAbs, wIx, ixB, ixL, ixM, ixK, wIn, wNotIn, keyD, wIsN, wNotN, isNonB, isNonD, wBm, mApp, appM, mPop, popM, mCnt, mIdx, itY, wDict2, wgSub, refQ, setM, setC, wgOSub, ownQ, wOm, wOmM, tyC, oApp, oPop, oPopAt, oExt, oUpd, oIns, wExpM, wSetM, wRetM, wIxM, wDPop1, wDPop2, dpQ, wFz, fzS, wFld, wSFld, wGet2, wGet1, getQ, wEq, wNe, wEq2, wNe2, eqC2, eqB, eqC, asL, asLM, asK, asKM, asS, asT, asTM, wFor, wgTup, wgCons, wgNil, wTuple, wList, wiN, wiA, kindI, seqI, seqM, wiIt, wiItT, wiItA, dctI, dctM, wiVal, dicI, dicM, wiR1, wiR2, wiEn, wiZip, lstI, wSorted, wSorted2, wSorted3, asTS, wAll, wAny, wLc, wDc, wDisp, wDispT1, wRepL, repL, keyT, keyL, wpCons, wpNil, wItems, wSl, wSlN, wPart, wNoP, wipeS, wNever, retE, wReprL, wRaise, wRaiseA, wTry, rTry, sufD, wIsX, wAct, wLam, thL, lendS, lend1, noS, sstart, rNo, wAug, -List.lookup_eq_none_iff]
      exact q
  · exact ⟨([], []), _, _, rfl, by simpa [all3] using l3, by simpa [all3] using l3, _, rfl, rfl⟩
end KM

set_option Elab.async false
set_option linter.all false
set_option maxRecDepth 100000
set_option maxHeartbeats 1000000
/-! KM: difference, merged -/
namespace KM
open PySem PySem.Spec PyProof.Rows L2 VD
variable {CS : CSt} {R : RZ} {O : OO} {Q : D → OO → Prop}
theorem A_merged_ok {b x y : Tab} (hb : TabG b) (hx : TabG x) (hy : TabG y) (q : Q (mrgD b x y) O) : A_merged CS [.d (.dic b), .d (.dic x), .d (.dic y)] O Q R := by
  refine ⟨rfl, ?_⟩
  unfold W_merged
  simp only [wSeq, wDrop, wCallX, wCons, wNil, wVar, look, bvOf, List.map_cons, List.map_nil, toSV, sstart, List.map, List.append]
  refine A_check_ok hb.okF ?_
  rw [if_pos hb.flat]
  refine A_check_ok hx.okF ?_
  rw [if_pos hx.flat]
  refine A_check_ok hy.okF ?_
  rw [if_pos hy.flat]
  exact A_raw_merged_ok hb hx hy q
theorem A_merged_no {b x y : D} (hb : okF b) (hx : okF x) (hy : okF y) (h : (flatD b && flatD x && flatD y) = false) (q : R 0 [] O) : A_merged CS [.d b, .d x, .d y] O Q R := by
  refine ⟨rfl, ?_⟩
  unfold W_merged
  simp only [wSeq, wDrop, wCallX, wCons, wNil, wVar, look, bvOf, List.map_cons, List.map_nil, toSV, sstart, List.map, List.append]
  refine A_check_ok hb ?_
  cases e1 : flatD b with
  | false => simpa using q
  | true =>
    simp only [↓reduceIte]
    refine A_check_ok hx ?_
    cases e2 : flatD x with
    | false => simpa using q
    | true =>
      simp only [↓reduceIte]
      refine A_check_ok hy ?_
      rw [e1, e2] at h
      simp at h
      rw [h]
      simpa using q
def all2 (x y : Tab) : List Str := namesL (mergeG (mergeG [] x) y)
def dstep (x y : Tab) (acc : Tab) (n : Str) : Tab := if eqvD (getT x n) (getT y n) then acc else putG acc (.inr n) (.tup [getT x n, getT y n])
def dif (x y : Tab) : Tab := (all2 x y).foldl (dstep x y) []
theorem all2_len {x y : Tab} (hx : TabG x) (hy : TabG y) : (all2 x y).length ≤ 400 := by
  have l1 := merge_len x []
  have l2 := merge_len y (mergeG [] x)
  have := hx.few
  have := hy.few
  simp only [List.length_nil] at l1
  exact Nat.le_trans (namesL_len _) (by omega)
theorem ixt0 {a : D} {r : List D} {O : OO} {Q : BV → OO → Prop} : wIx (.d (.tup (a :: r))) (.d (.int 0)) O Q = Q (.d a) O := by
  simp [wIx, ixB, ixL, isD, at0]
theorem ixt1 {a b : D} {r : List D} {O : OO} {Q : BV → OO → Prop} : wIx (.d (.tup (a :: b :: r))) (.d (.int 1)) O Q = Q (.d b) O := by
  simp [wIx, ixB, ixL, isD, at1]
theorem A_difference_ok {x y : Tab} (hx : TabG x) (hy : TabG y) (q : Q (.dic (dif x y)) O) : A_difference CS [.d (.dic x), .d (.dic y)] O Q R := by
  refine ⟨rfl, ?_⟩
  unfold W_difference
  have sz := sizeLine_eq
  have l2 := all2_len hx hy
  simp only [wSeq, wDrop, wCallX, wCons, wNil, wVar, look, bvOf, List.map_cons, List.map_nil, toSV, sstart, List.map, List.append]
  refine A_check_ok hx.okF ?_
  rw [if_pos hx.flat]
  refine A_check_ok hy.okF ?_
  rw [if_pos hy.flat]
  unfold wFor
  simp only [wOwn, wNewK, wiN, wCall, wCons, wNil, wFrz, wLst, wVar, look, bvOf, List.map_cons, List.map_nil, toSV, List.map, List.append]
  refine A_all_names2 hx.txt hy.txt (by have := hx.few; omega) (by have := hy.few; omega) ⟨rfl, ?_⟩
  refine forN_run (fun r s => ∃ (acc : Tab) (n t : Option SV), s = [some (.d (.dic x)), some (.d (.dic y)), some (.o (.dic acc)), n, t] ∧
    acc.length + (r : List D).length ≤ 400 ∧ ∃ ns : List Str, r = ns.map D.str ∧ ns.foldl (dstep x y) acc = dif x y) trivial _ _ ?_ ?_ ?_
  · rintro d r s hsuf ⟨acc, n, t, rfl, hlen, ns, e, hfold⟩ D2 hrt hbk hnx hct
    cases ns with
    | nil => cases e
    | cons m ns =>
      simp only [List.map_cons, List.cons.injEq] at e
      obtain ⟨rfl, rfl⟩ := e
      have v2 := getT_fl hx m
      have v3 := getT_fl hy m
      simp only [List.length_cons, List.length_map] at hlen
      have efold : List.foldl (dstep x y) (dstep x y acc m) ns = dif x y := hfold
      have key : ∀ n t, D2.nx [some (.d (.dic x)), some (.d (.dic y)), some (.o (.dic (dstep x y acc m))), n, t] O := fun n t => by
        refine hnx _ ⟨_, _, _, rfl, ?_, ns, rfl, efold⟩
        have : (dstep x y acc m).length ≤ acc.length + 1 := by
          unfold dstep
          split
          · omega
          · exact put_len
        simp only [List.length_map]
        omega
      unfold dstep at key
      clear hnx hct hrt hbk hfold q efold
      simp only [wgName, wSeq, wAsg, wTup, wCons, wNil]
      rw [get_var rfl rfl, get_var rfl rfl]
      simp only [allD, isD, wIfS, wTst, wOp, wVar, look, bvOf, wC, List.set]
      rw [ixt0, ixt1, ne_fl v2 v3]
      cases hv : eqvD (getT x m) (getT y m)
      · simp [hv, wSeq, wAsg, isD, wgName, wPar, setAll, wqD, wqO, wqNil, wDrop, wRet, wRetN, wIfS, wNext, wTst, blQ, wOp, wOpN, wUn, wFrz, treeC, wTmp, wLive, liveC, wOwn, wAnd, wOr, wNot, wIf, tAndW, tOrW, tNotW, wChain, wC, wVar, look, bvOf, wNil, wCons, wTup, wLst, allD, wNewK, wNewT, wCB, wCN, w1, w2, n1, wCall, wCallX, toSV, wIsi, isaQ, tyD, tyM, isaB, wLen, lenD, lenM, wLe, wLt, wGt, wGe, wAdd, wAddL, wAddN, wSub, wMulI, wDiv, wMod, wPow, wNeg, wInt2, wInt1, wCmpI, wAbs, wIx, ixB, ixL, ixM, ixK, wIn, wNotIn, keyD, wIsN, wNotN, isNonB, wBm, mApp, appM, mPop, popM, mCnt, mIdx, itY, wDict2, wgSub, refQ, setM, setC, wgOSub, ownQ, wOm, wOmM, tyC, oApp, oPop, oPopAt, oExt, oUpd, oIns, wExpM, wSetM, wRetM, wIxM, wDPop1, wDPop2, dpQ, wFz, fzS, wFld, wSFld, wGet2, wGet1, getQ, wEq, wNe, wEq2, wNe2, eqC2, eqB, eqC, asL, asLM, asK, asKM, asS, asT, asTM, wFor, wgTup, wgCons, wgNil, wTuple, wList, wiN, wiA, kindI, seqI, seqM, wiIt, wiItT, wiItA, dctI, dctM, wiVal, dicI, dicM, wiR1, wiR2, wiEn, wiZip, lstI, wSorted, wSorted2, wSorted3, asTS, wAll, wAny, wLc, wDc, wDisp, wDispT1, wRepL, repL, keyT, keyL, wpCons, wpNil, wItems, wSl, wSlN, wPart, wNoP, wipeS, wNever, retE, wReprL, wRaise, wRaiseA, wTry, rTry, sufD, wIsX, wAct, wLam, thL, lendS, lend1, noS, sstart, rNo, wAug, -List.lookup_eq_none_iff] at key ⊢
        exact ⟨by omega, key _ _⟩
      · simp [hv, wSeq, wAsg, isD, wgName, wPar, setAll, wqD, wqO, wqNil, wDrop, wRet, wRetN, wIfS, wNext, wTst, blQ, wOp, wOpN, wUn, wFrz, treeC, wTmp, wLive, liveC, wOwn, wAnd, wOr, wNot, wIf, tAndW, tOrW, tNotW, wChain, wC, wVar, look, bvOf, wNil, wCons, wTup, wLst, allD, wNewK, wNewT, wCB, wCN, w1, w2, n1, wCall, wCallX, toSV, wIsi, isaQ, tyD, tyM, isaB, wLen, lenD, lenM, wLe, wLt, wGt, wGe, wAdd, wAddL, wAddN, wSub, wMulI, wDiv, wMod, wPow, wNeg, wInt2, wInt1, wCmpI, wAbs, wIx, ixB, ixL, ixM, ixK, wIn, wNotIn, keyD, wIsN, wNotN, isNonB, wBm, mApp, appM, mPop, popM, mCnt, mIdx, itY, wDict2, wgSub, refQ, setM, setC, wgOSub, ownQ, wOm, wOmM, tyC, oApp, oPop, oPopAt, oExt, oUpd, oIns, wExpM, wSetM, wRetM, wIxM, wDPop1, wDPop2, dpQ, wFz, fzS, wFld, wSFld, wGet2, wGet1, getQ, wEq, wNe, wEq2, wNe2, eqC2, eqB, eqC, asL, asLM, asK, asKM, asS, asT, asTM, wFor, wgTup, wgCons, wgNil, wTuple, wList, wiN, wiA, kindI, seqI, seqM, wiIt, wiItT, wiItA, dctI, dctM, wiVal, dicI, dicM, wiR1, wiR2, wiEn, wiZip, lstI, wSorted, wSorted2, wSorted3, asTS, wAll, wAny, wLc, wDc, wDisp, wDispT1, wRepL, repL, keyT, keyL, wpCons, wpNil, wItems, wSl, wSlN, wPart, wNoP, wipeS, wNever, retE, wReprL, wRaise, wRaiseA, wTry, rTry, sufD, wIsX, wAct, wLam, thL, lendS, lend1, noS, sstart, rNo, wAug, -List.lookup_eq_none_iff] at key ⊢
        exact key _ _
  · rintro s ⟨acc, n, t, rfl, hlen, ns, e, hfold⟩
    cases ns with
    | cons m ns => cases e
    | nil =>
      simp at hfold
      subst hfold
      simp [wSeq, wAsg, isD, wgName, wPar, setAll, wqD, wqO, wqNil, wDrop, wRet, wRetN, wIfS, wNext, wTst, blQ, wOp, wOpN, wUn, wFrz, treeC, wTmp, wLive, liveC, wOwn, wAnd, wOr, wNot, wIf, tAndW, tOrW, tNotW, wChain, wC, wVar, look, bvOf, wNil, wCons, wTup, wLst, allD, wNewK, wNewT, wCB, wCN, w1, w2, n1, wCall, wCallX, toSV, wIsi, isaQ, tyD, tyM, isaB, wLen, lenD, lenM, wLe, wLt, wGt, wGe, wAdd, wAddL, wAddN, wSub, wMulI, wDiv, wMod, wPow, wNeg, wInt2, wInt1, wCmpI, wAbs, wIx, ixB, ixL, ixM, ixK, wIn, wNotIn, keyD, wIsN, wNotN, isNonB, isNonD, wBm, mApp, appM, mPop, popM, mCnt, mIdx, itY, wDict2, wgSub, refQ, setM, setC, wgOSub, ownQ, wOm, wOmM, tyC, oApp, oPop, oPopAt, oExt, oUpd, oIns, wExpM, wSetM, wRetM, wIxM, wDPop1, wDPop2, dpQ, wFz, fzS, wFld, wSFld, wGet2, wGet1, getQ, wEq, wNe, wEq2, wNe2, eqC2, eqB, eqC, asL, asLM, asK, asKM, asS, asT, asTM, wFor, wgTup, wgCons, wgNil, wTuple, wList, wiN, wiA, kindI, seqI, seqM, wiIt, wiItT, wiItA, dctI, dctM, wiVal, dicI, dicM, wiR1, wiR2, wiEn, wiZip, lstI, wSorted, wSorted2, wSorted3, asTS, wAll, wAny, wLc, wDc, wDisp, wDispT1, wRepL, repL, keyT, keyL, wpCons, wpNil, wItems, wSl, wSlN, wPart, wNoP, wipeS, wNever, retE, wReprL, wRaise, wRaiseA, wTry, rTry, sufD, wIsX, wAct, wLam, thL, lendS, lend1, noS, sstart, rNo, wAug, -List.lookup_eq_none_iff]
      exact q
  · exact ⟨[], _, _, rfl, by simpa [all2] using l2, _, rfl, rfl⟩
theorem A_difference_no {x y : D} (hx : okF x) (hy : okF y) (h : (flatD x && flatD y) = false) (q : R 0 [] O) : A_difference CS [.d x, .d y] O Q R := by
  refine ⟨rfl, ?_⟩
  unfold W_difference
  simp only [wSeq, wDrop, wCallX, wCons, wNil, wVar, look, bvOf, List.map_cons, List.map_nil, toSV, sstart, List.map, List.append]
  refine A_check_ok hx ?_
  cases e1 : flatD x with
  | false => simpa using q
  | true =>
    simp only [↓reduceIte]
    refine A_check_ok hy ?_
    rw [e1] at h
    simp at h
    rw [h]
    simpa using q
end KM

set_option Elab.async false
set_option linter.all false
set_option maxRecDepth 100000
set_option maxHeartbeats 1000000
/-! KM: the law's own merge and difference -/
namespace KM
open PySem PySem.Spec PyProof.Rows L2 VD
variable {CS : CSt} {R : RZ} {O : OO} {Q : D → OO → Prop}
theorem asP_items : ∀ {t u : Tab} {ds : List D}, asP ds = some u → asP (itemsD t ++ ds) = some (t ++ u)
  | [], u, ds, h => h
  | (.inr n, v) :: r, u, ds, h => by
    have := asP_items (t := r) h
    simp [itemsD, keyE, asP, keyD] at this ⊢
    simp [this]
  | (.inl n, v) :: r, u, ds, h => by
    have := asP_items (t := r) h
    simp [itemsD, keyE, asP, keyD] at this ⊢
    simp [this]
theorem merge_two {κ ν : Type} [DecidableEq κ] (a b c : List (κ × ν)) : mergeG a (b ++ c) = mergeG (mergeG a b) c := by
  simp [mergeG, List.foldl_append]
theorem A_law_unlike_ok {x y : Tab} (hx : TabG x) (hy : TabG y) (q : Q (.dic (dif x y)) O) : A_law_unlike CS [.d (.dic x), .d (.dic y)] O Q R := by
  refine ⟨rfl, ?_⟩
  unfold W_law_unlike
  have sz := sizeLine_eq
  have l2 := all2_len hx hy
  have := hx.few
  have := hy.few
  simp only [wSeq]
  unfold wFor
  simp only [wOwn, wNewK, wiN, wFrz, wCN, wCons, wNil, wItems, wOpN, wVar, look, bvOf, sstart, List.map, List.append, List.set]
  refine ⟨x, rfl, y, rfl, ?_⟩
  simp only [treeC]
  refine ⟨itemsD x, itemsD y, rfl, rfl, by simp [itemsD]; omega, ?_⟩
  have eP : asP (itemsD x ++ itemsD y) = some (x ++ y) := by
    have := asP_items (t := x) (asP_items (t := y) (u := []) (ds := []) rfl)
    simpa using this
  refine .inr ⟨_, _, rfl, eP, ?_⟩
  rw [merge_two]
  refine .inr (.inr (.inr ⟨_, _, rfl, keysS_strK (merge_txt (merge_txt merge_nilK hx.txt) hy.txt), rfl, ?_⟩))
  refine forN_run (fun r s => ∃ (acc : Tab) (n : Option SV), s = [some (.d (.dic x)), some (.d (.dic y)), some (.o (.dic acc)), n] ∧
    acc.length + (r : List D).length ≤ 400 ∧ ∃ ns : List Str, r = ns.map D.str ∧ ns.foldl (dstep x y) acc = dif x y) trivial _ _ ?_ ?_ ?_
  · rintro d r s hsuf ⟨acc, n, rfl, hlen, ns, e, hfold⟩ D2 hrt hbk hnx hct
    cases ns with
    | nil => cases e
    | cons m ns =>
      simp only [List.map_cons, List.cons.injEq] at e
      obtain ⟨rfl, rfl⟩ := e
      have v2 := getT_fl hx m
      have v3 := getT_fl hy m
      simp only [List.length_cons, List.length_map] at hlen
      have efold : List.foldl (dstep x y) (dstep x y acc m) ns = dif x y := hfold
      have key : ∀ n, D2.nx [some (.d (.dic x)), some (.d (.dic y)), some (.o (.dic (dstep x y acc m))), n] O := fun n => by
        refine hnx _ ⟨_, _, rfl, ?_, ns, rfl, efold⟩
        have : (dstep x y acc m).length ≤ acc.length + 1 := by
          unfold dstep
          split
          · omega
          · exact put_len
        simp only [List.length_map]
        omega
      unfold dstep at key
      clear hnx hct hrt hbk hfold q efold
      simp only [wgName, wIfS, wTst, wOp]
      rw [get_var rfl rfl, get_var rfl rfl, ne_fl v2 v3]
      cases hv : eqvD (getT x m) (getT y m)
      · simp only [hv, blQ, Bool.not_false, if_true, wAsg, wTup, wCons, wNil]
        rw [get_var rfl rfl, get_var rfl rfl]
        simp [hv, wSeq, wAsg, isD, wgName, wPar, setAll, wqD, wqO, wqNil, wDrop, wRet, wRetN, wIfS, wNext, wTst, blQ, wOp, wOpN, wUn, wFrz, treeC, wTmp, wLive, liveC, wOwn, wAnd, wOr, wNot, wIf, tAndW, tOrW, tNotW, wChain, wC, wVar, look, bvOf, wNil, wCons, wTup, wLst, allD, wNewK, wNewT, wCB, wCN, w1, w2, n1, wCall, wCallX, toSV, wIsi, isaQ, tyD, tyM, isaB, wLen, lenD, lenM, wLe, wLt, wGt, wGe, wAdd, wAddL, wAddN, wSub, wMulI, wDiv, wMod, wPow, wNeg, wInt2, wInt1, wCmpI, wAbs, wIx, ixB, ixL, ixM, ixK, wIn, wNotIn, keyD, wIsN, wNotN, isNonB, wBm, mApp, appM, mPop, popM, mCnt, mIdx, itY, wDict2, wgSub, refQ, setM, setC, wgOSub, ownQ, wOm, wOmM, tyC, oApp, oPop, oPopAt, oExt, oUpd, oIns, wExpM, wSetM, wRetM, wIxM, wDPop1, wDPop2, dpQ, wFz, fzS, wFld, wSFld, wGet2, wGet1, getQ, wEq, wNe, wEq2, wNe2, eqC2, eqB, eqC, asL, asLM, asK, asKM, asS, asT, asTM, wFor, wgTup, wgCons, wgNil, wTuple, wList, wiN, wiA, kindI, seqI, seqM, wiIt, wiItT, wiItA, dctI, dctM, wiVal, dicI, dicM, wiR1, wiR2, wiEn, wiZip, lstI, wSorted, wSorted2, wSorted3, asTS, wAll, wAny, wLc, wDc, wDisp, wDispT1, wRepL, repL, keyT, keyL, wpCons, wpNil, wItems, wSl, wSlN, wPart, wNoP, wipeS, wNever, retE, wReprL, wRaise, wRaiseA, wTry, rTry, sufD, wIsX, wAct, wLam, thL, lendS, lend1, noS, sstart, rNo, wAug, -List.lookup_eq_none_iff] at key ⊢
        exact ⟨by omega, key _⟩
      · simp [hv, wSeq, wAsg, isD, wgName, wPar, setAll, wqD, wqO, wqNil, wDrop, wRet, wRetN, wIfS, wNext, wTst, blQ, wOp, wOpN, wUn, wFrz, treeC, wTmp, wLive, liveC, wOwn, wAnd, wOr, wNot, wIf, tAndW, tOrW, tNotW, wChain, wC, wVar, look, bvOf, wNil, wCons, wTup, wLst, allD, wNewK, wNewT, wCB, wCN, w1, w2, n1, wCall, wCallX, toSV, wIsi, isaQ, tyD, tyM, isaB, wLen, lenD, lenM, wLe, wLt, wGt, wGe, wAdd, wAddL, wAddN, wSub, wMulI, wDiv, wMod, wPow, wNeg, wInt2, wInt1, wCmpI, wAbs, wIx, ixB, ixL, ixM, ixK, wIn, wNotIn, keyD, wIsN, wNotN, isNonB, wBm, mApp, appM, mPop, popM, mCnt, mIdx, itY, wDict2, wgSub, refQ, setM, setC, wgOSub, ownQ, wOm, wOmM, tyC, oApp, oPop, oPopAt, oExt, oUpd, oIns, wExpM, wSetM, wRetM, wIxM, wDPop1, wDPop2, dpQ, wFz, fzS, wFld, wSFld, wGet2, wGet1, getQ, wEq, wNe, wEq2, wNe2, eqC2, eqB, eqC, asL, asLM, asK, asKM, asS, asT, asTM, wFor, wgTup, wgCons, wgNil, wTuple, wList, wiN, wiA, kindI, seqI, seqM, wiIt, wiItT, wiItA, dctI, dctM, wiVal, dicI, dicM, wiR1, wiR2, wiEn, wiZip, lstI, wSorted, wSorted2, wSorted3, asTS, wAll, wAny, wLc, wDc, wDisp, wDispT1, wRepL, repL, keyT, keyL, wpCons, wpNil, wItems, wSl, wSlN, wPart, wNoP, wipeS, wNever, retE, wReprL, wRaise, wRaiseA, wTry, rTry, sufD, wIsX, wAct, wLam, thL, lendS, lend1, noS, sstart, rNo, wAug, -List.lookup_eq_none_iff] at key ⊢
        exact key _
  · rintro s ⟨acc, n, rfl, hlen, ns, e, hfold⟩
    cases ns with
    | cons m ns => cases e
    | nil =>
      simp at hfold
      subst hfold
      simp [wSeq, wAsg, isD, wgName, wPar, setAll, wqD, wqO, wqNil, wDrop, wRet, wRetN, wIfS, wNext, wTst, blQ, wOp, wOpN, wUn, wFrz, treeC, wTmp, wLive, liveC, wOwn, wAnd, wOr, wNot, wIf, tAndW, tOrW, tNotW, wChain, wC, wVar, look, bvOf, wNil, wCons, wTup, wLst, allD, wNewK, wNewT, wCB, wCN, w1, w2, n1, wCall, wCallX, toSV, wIsi, isaQ, tyD, tyM, isaB, wLen, lenD, lenM, wLe, wLt, wGt, wGe, wAdd, wAddL, wAddN, wSub, wMulI, wDiv, wMod, wPow, wNeg, wInt2, wInt1, wCmpI, wAbs, wIx, ixB, ixL, ixM, ixK, wIn, wNotIn, keyD, wIsN, wNotN, isNonB, isNonD, wBm, mApp, appM, mPop, popM, mCnt, mIdx, itY, wDict2, wgSub, refQ, setM, setC, wgOSub, ownQ, wOm, wOmM, tyC, oApp, oPop, oPopAt, oExt, oUpd, oIns, wExpM, wSetM, wRetM, wIxM, wDPop1, wDPop2, dpQ, wFz, fzS, wFld, wSFld, wGet2, wGet1, getQ, wEq, wNe, wEq2, wNe2, eqC2, eqB, eqC, asL, asLM, asK, asKM, asS, asT, asTM, wFor, wgTup, wgCons, wgNil, wTuple, wList, wiN, wiA, kindI, seqI, seqM, wiIt, wiItT, wiItA, dctI, dctM, wiVal, dicI, dicM, wiR1, wiR2, wiEn, wiZip, lstI, wSorted, wSorted2, wSorted3, asTS, wAll, wAny, wLc, wDc, wDisp, wDispT1, wRepL, repL, keyT, keyL, wpCons, wpNil, wItems, wSl, wSlN, wPart, wNoP, wipeS, wNever, retE, wReprL, wRaise, wRaiseA, wTry, rTry, sufD, wIsX, wAct, wLam, thL, lendS, lend1, noS, sstart, rNo, wAug, -List.lookup_eq_none_iff]
      exact q
  · exact ⟨[], _, rfl, by simpa [all2, namesL] using l2, _, rfl, rfl⟩
end KM

set_option Elab.async false
set_option linter.all false
set_option maxRecDepth 100000
set_option maxHeartbeats 1000000
/-! KM: the law's own merge -/
namespace KM
open PySem PySem.Spec PyProof.Rows L2 VD
variable {CS : CSt} {R : RZ} {O : OO} {Q : D → OO → Prop}
theorem mv_alt {o x y : D} (ho : fl o) (hx : fl x) (hy : fl y) : (mv o x y).1 = (if eqvD x o then y else x) ∧ (mv o x y).2 = (!eqvD x y && !eqvD x o && !eqvD y o) := by
  unfold mv
  cases h1 : eqvD x y <;> cases h2 : eqvD y o <;> cases h3 : eqvD x o <;> simp
  · exact absurd ((fl_eqv hx hy).mpr (((fl_eqv hx ho).mp h3).trans ((fl_eqv hy ho).mp h2).symm)) (by rw [h1]; decide)
  · exact (fl_eqv hx hy).mp h1
  · exact (fl_eqv hx hy).mp h1
theorem A_law_merged_ok {b x y : Tab} (hb : TabG b) (hx : TabG x) (hy : TabG y) (q : Q (mrgD b x y) O) : A_law_merged CS [.d (.dic b), .d (.dic x), .d (.dic y)] O Q R := by
  refine ⟨rfl, ?_⟩
  unfold W_law_merged
  have sz := sizeLine_eq
  have l3 := all3_len hb hx hy
  have := hb.few
  have := hx.few
  have := hy.few
  simp only [wSeq, wPar, wqO, wqNil, wNewK, wLst, wNil, allD, setAll, sstart]
  unfold wFor
  simp only [wiN, wFrz, wCN, wCons, wNil, wItems, wOpN, wVar, look, bvOf, List.map, List.append, List.set]
  refine ⟨b, rfl, x, rfl, ?_⟩
  simp only [treeC]
  refine ⟨itemsD b, itemsD x, rfl, rfl, by simp [itemsD]; omega, y, rfl, ?_⟩
  refine ⟨itemsD b ++ itemsD x, itemsD y, rfl, rfl, by simp [itemsD]; omega, ?_⟩
  have eP : asP (itemsD b ++ itemsD x ++ itemsD y) = some (b ++ x ++ y) := by
    have := asP_items (t := b) (asP_items (t := x) (asP_items (t := y) (u := []) (ds := []) rfl))
    simpa using this
  refine .inr ⟨_, _, rfl, eP, ?_⟩
  rw [merge_two, merge_two]
  refine .inr (.inr (.inr ⟨_, _, rfl, keysS_strK (merge_txt (merge_txt (merge_txt merge_nilK hb.txt) hx.txt) hy.txt), rfl, ?_⟩))
  refine forN_run (fun r s => ∃ (acc : Tab × List Str) (n t1 t2 t3 t4 : Option SV), s = [some (.d (.dic b)), some (.d (.dic x)), some (.d (.dic y)), some (.o (.dic acc.1)), some (.o (.lst (acc.2.map D.str))), n, t1, t2, t3, t4] ∧
    acc.1.length + (r : List D).length ≤ 600 ∧ acc.2.length + r.length ≤ 600 ∧ ∃ ns : List Str, r = ns.map D.str ∧ ns.foldl (mstep b x y) acc = mrg b x y) trivial _ _ ?_ ?_ ?_
  · rintro d r s hsuf ⟨acc, n, t1, t2, t3, t4, rfl, hlen, hlen2, ns, e, hfold⟩ D2 hrt hbk hnx hct
    cases ns with
    | nil => cases e
    | cons m ns =>
      simp only [List.map_cons, List.cons.injEq] at e
      obtain ⟨rfl, rfl⟩ := e
      have v1 := getT_fl hb m
      have v2 := getT_fl hx m
      have v3 := getT_fl hy m
      simp only [List.length_cons, List.length_map] at hlen hlen2
      have efold : List.foldl (mstep b x y) (mstep b x y acc m) ns = mrg b x y := hfold
      have key : ∀ n t1 t2 t3 t4, D2.nx [some (.d (.dic b)), some (.d (.dic x)), some (.d (.dic y)), some (.o (.dic (mstep b x y acc m).1)), some (.o (.lst ((mstep b x y acc m).2.map D.str))), n, t1, t2, t3, t4] O := fun n t1 t2 t3 t4 => by
        refine hnx _ ⟨_, _, _, _, _, _, rfl, ?_, ?_, ns, rfl, efold⟩
        · have : (mstep b x y acc m).1.length ≤ acc.1.length + 1 := by
            show (if isNonD (mv (getT b m) (getT x m) (getT y m)).1 = true then acc.1 else putG acc.1 (.inr m) (mv (getT b m) (getT x m) (getT y m)).1).length ≤ _
            split
            · omega
            · exact put_len
          simp only [List.length_map]
          omega
        · have : (mstep b x y acc m).2.length ≤ acc.2.length + 1 := by
            show (if (mv (getT b m) (getT x m) (getT y m)).2 = true then acc.2 ++ [m] else acc.2).length ≤ _
            split <;> simp
          simp only [List.length_map]
          omega
      have e1 : (mstep b x y acc m).1 = if isNonD (mv (getT b m) (getT x m) (getT y m)).1 = true then acc.1 else putG acc.1 (.inr m) (mv (getT b m) (getT x m) (getT y m)).1 := rfl
      have e2 : (mstep b x y acc m).2 = if (mv (getT b m) (getT x m) (getT y m)).2 = true then acc.2 ++ [m] else acc.2 := rfl
      obtain ⟨a1, a2⟩ := mv_alt v1 v2 v3
      rw [a1] at e1
      rw [a2] at e2
      clear hnx hct hrt hbk hfold q efold
      simp only [wgName, wSeq, wPar, wqD]
      rw [get_var rfl rfl]
      simp only [isD]
      rw [get_var rfl rfl]
      simp only [isD]
      rw [get_var rfl rfl]
      simp only [isD, wqNil, setAll, List.set]
      generalize getT b m = u at *
      generalize getT x m = v at *
      generalize getT y m = w at *
      cases k1 : eqvD v u <;> cases k2 : eqvD v w <;> cases k3 : eqvD w u <;> cases k4 : isNonD v <;> cases k5 : isNonD w <;> simp [k1, k2, k3, k4, k5, eq_fl v2 v1, ne_fl v2 v3, ne_fl v2 v1, ne_fl v3 v1, NV.sv, wSeq, wAsg, isD, wgName, wPar, setAll, wqD, wqO, wqNil, wDrop, wRet, wRetN, wIfS, wNext, wTst, blQ, wOp, wOpN, wUn, wFrz, treeC, wTmp, wLive, liveC, wOwn, wAnd, wOr, wNot, wIf, tAndW, tOrW, tNotW, wChain, wC, wVar, look, bvOf, wNil, wCons, wTup, wLst, allD, wNewK, wNewT, wCB, wCN, w1, w2, n1, wCall, wCallX, toSV, wIsi, isaQ, tyD, tyM, isaB, wLen, lenD, lenM, wLe, wLt, wGt, wGe, wAdd, wAddL, wAddN, wSub, wMulI, wDiv, wMod, wPow, wNeg, wInt2, wInt1, wCmpI, wAbs, wIx, ixB, ixL, ixM, ixK, wIn, wNotIn, keyD, wIsN, wNotN, isNonB, wBm, mApp, appM, mPop, popM, mCnt, mIdx, itY, wDict2, wgSub, refQ, setM, setC, wgOSub, ownQ, wOm, wOmM, tyC, oApp, oPop, oPopAt, oExt, oUpd, oIns, wExpM, wSetM, wRetM, wIxM, wDPop1, wDPop2, dpQ, wFz, fzS, wFld, wSFld, wGet2, wGet1, getQ, wEq, wNe, eqC2, eqB, eqC, asL, asLM, asK, asKM, asS, asT, asTM, wFor, wgTup, wgCons, wgNil, wTuple, wList, wiN, wiA, kindI, seqI, seqM, wiIt, wiItT, wiItA, dctI, dctM, wiVal, dicI, dicM, wiR1, wiR2, wiEn, wiZip, lstI, wSorted, wSorted2, wSorted3, asTS, wAll, wAny, wLc, wDc, wDisp, wDispT1, wRepL, repL, keyT, keyL, wpCons, wpNil, wItems, wSl, wSlN, wPart, wNoP, wipeS, wNever, retE, wReprL, wRaise, wRaiseA, wTry, rTry, sufD, wIsX, wAct, wLam, thL, lendS, lend1, noS, sstart, rNo, wAug, -List.lookup_eq_none_iff] at e1 e2 ⊢
      all_goals (try refine ⟨by omega, ?_⟩)
      all_goals (try refine ⟨by omega, ?_⟩)
      all_goals (rw [e1, e2] at key; (try simp at key); exact key _ _ _ _ _)
  · rintro s ⟨acc, n, t1, t2, t3, t4, rfl, hlen, hlen2, ns, e, hfold⟩
    cases ns with
    | cons m ns => cases e
    | nil =>
      simp at hfold
      subst hfold
      simp [wSeq, wAsg, isD, wgName, wPar, setAll, wqD, wqO, wqNil, wDrop, wRet, wRetN, wIfS, wNext, wTst, blQ, wOp, wOpN, wUn, wFrz, treeC, wTmp, wLive, liveC, wOwn, wAnd, wOr, wNot, wIf, tAndW, tOrW, tNotW, wChain, wC, wVar, look, bvOf, wNil, wCons, wTup, wLst, allD, wNewK, wNewT, wCB, wCN, w1, w2, n1, wCall, wCallX, toSV, wIsi, isaQ, tyD, tyM, isaB, wLen, lenD, lenM, wLe, wLt, wGt, wGe, wAdd, wAddL, wAddN, wSub, wMulI, wDiv, wMod, wPow, wNeg, wInt2, wInt1, wCmpI, wAbs, wIx, ixB, ixL, ixM, ixK, wIn, wNotIn, keyD, wIsN, wNotN, isNonB, isNonD, wBm, mApp, appM, mPop, popM, mCnt, mIdx, itY, wDict2, wgSub, refQ, setM, setC, wgOSub, ownQ, wOm, wOmM, tyC, oApp, oPop, oPopAt, oExt, oUpd, oIns, wExpM, wSetM, wRetM, wIxM, wDPop1, wDPop2, dpQ, wFz, fzS, wFld, wSFld, wGet2, wGet1, getQ, wEq, wNe, wEq2, wNe2, eqC2, eqB, eqC, asL, asLM, asK, asKM, asS, asT, asTM, wFor, wgTup, wgCons, wgNil, wTuple, wList, wiN, wiA, kindI, seqI, seqM, wiIt, wiItT, wiItA, dctI, dctM, wiVal, dicI, dicM, wiR1, wiR2, wiEn, wiZip, lstI, wSorted, wSorted2, wSorted3, asTS, wAll, wAny, wLc, wDc, wDisp, wDispT1, wRepL, repL, keyT, keyL, wpCons, wpNil, wItems, wSl, wSlN, wPart, wNoP, wipeS, wNever, retE, wReprL, wRaise, wRaiseA, wTry, rTry, sufD, wIsX, wAct, wLam, thL, lendS, lend1, noS, sstart, rNo, wAug, -List.lookup_eq_none_iff]
      exact q
  · exact ⟨([], []), _, _, _, _, _, rfl, by simpa [all3, namesL] using l3, by simpa [all3, namesL] using l3, _, rfl, rfl⟩
end KM

set_option Elab.async false
set_option linter.all false
set_option maxRecDepth 100000
set_option maxHeartbeats 1000000
/-! KM: what is drawn -/
namespace KM
open PySem PySem.Spec PyProof.Rows L2 VD
variable {CS : CSt} {R : RZ} {O : OO} {Q : D → OO → Prop}
theorem at_lt {xs : List D} {k : Int} (h0 : 0 ≤ k) (h1 : k < xs.length) : ∃ x ∈ xs, atI xs k = some x := by
  obtain ⟨n, rfl⟩ : ∃ n : Nat, k = n := ⟨k.toNat, by omega⟩
  have hn : n < xs.length := by omega
  refine ⟨xs[n], List.getElem_mem hn, ?_⟩
  simp [atI, ixN, h1]
theorem A_law_any_ok {xs : List D} (h0 : 0 < xs.length) (h1 : xs.length < 1000) (q : ∀ x ∈ xs, Q x O) : A_law_any CS [.d .tape, .d (.lst xs)] O Q R := by
  refine ⟨rfl, ?_⟩
  unfold W_law_any
  simp [wSeq, wAsg, isD, wgName, wPar, setAll, wqD, wqO, wqNil, wDrop, wRet, wRetN, wIfS, wNext, wTst, blQ, wOp, wOpN, wUn, wFrz, treeC, wTmp, wLive, liveC, wOwn, wAnd, wOr, wNot, wIf, tAndW, tOrW, tNotW, wChain, wC, wVar, look, bvOf, wNil, wCons, wTup, wLst, allD, wNewK, wNewT, wCB, wCN, w1, w2, n1, wCall, wCallX, toSV, wIsi, isaQ, tyD, tyM, isaB, wLen, lenD, lenM, wLe, wLt, wGt, wGe, wAdd, wAddL, wAddN, wSub, wMulI, wDiv, wMod, wPow, wNeg, wInt2, wInt1, wCmpI, wAbs, ixB, ixL, ixM, ixK, wIn, wNotIn, keyD, wIsN, wNotN, isNonB, isNonD, wBm, mApp, appM, mPop, popM, mCnt, mIdx, itY, wDict2, wgSub, refQ, setM, setC, wgOSub, ownQ, wOm, wOmM, tyC, oApp, oPop, oPopAt, oExt, oUpd, oIns, wExpM, wSetM, wRetM, wIxM, wDPop1, wDPop2, dpQ, wFz, fzS, wFld, wSFld, wGet2, wGet1, getQ, wEq, wNe, wEq2, wNe2, eqC2, eqB, eqC, asL, asLM, asK, asKM, asS, asT, asTM, wFor, wgTup, wgCons, wgNil, wTuple, wList, wiN, wiA, kindI, seqI, seqM, wiIt, wiItT, wiItA, dctI, dctM, wiVal, dicI, dicM, wiR1, wiR2, wiEn, wiZip, lstI, wSorted, wSorted2, wSorted3, asTS, wAll, wAny, wLc, wDc, wDisp, wDispT1, wRepL, repL, keyT, keyL, wpCons, wpNil, wItems, wSl, wSlN, wPart, wNoP, wipeS, wNever, retE, wReprL, wRaise, wRaiseA, wTry, rTry, sufD, wIsX, wAct, wLam, thL, lendS, lend1, noS, sstart, rNo, wAug, -List.lookup_eq_none_iff, spDraw]
  refine ⟨h0, by omega, fun k k0 k1 => ?_⟩
  obtain ⟨x, hx, e⟩ := at_lt k0 k1
  simp [wIx, ixB, ixL, isD, e]
  exact q x hx
/-- names as the law gives them -/
structure NmG (ns : List Str) : Prop where
  few : ns.length ≤ 6
  nd : ns.Nodup
  nm : ∀ n ∈ ns, isNameD (.str n) = true
/-- a table over these names -/
structure TabN (ns : List Str) (t : Tab) : Prop where
  g : TabG t
  on : ∀ kv ∈ t, ∃ n ∈ ns, kv.1 = .inr n
theorem nodup_le {α : Type} : ∀ {l m : List α}, l.Nodup → (∀ x ∈ l, x ∈ m) → l.length ≤ m.length
  | [], m, _, _ => Nat.zero_le _
  | a :: r, m, hn, hs => by
    have h1 := List.nodup_cons.mp hn
    obtain ⟨p, q, e⟩ := List.append_of_mem (hs a List.mem_cons_self)
    have ih := nodup_le (l := r) (m := p ++ q) h1.2 fun x hx => by
      have := hs x (List.mem_cons_of_mem _ hx)
      rw [e] at this
      rcases List.mem_append.mp this with z | z
      · exact List.mem_append_left _ z
      · rcases List.mem_cons.mp z with z | z
        · subst z; exact absurd hx h1.1
        · exact List.mem_append_right _ z
    rw [e]
    simp at ih ⊢
    omega
theorem tab_len {ns : List Str} {t : Tab} (nd : (t.map (·.1)).Nodup) (on : ∀ kv ∈ t, ∃ n ∈ ns, kv.1 = .inr n) : t.length ≤ ns.length := by
  have := nodup_le (l := t.map (·.1)) (m := ns.map Sum.inr) nd fun k hk => by
    obtain ⟨kv, hkv, rfl⟩ := List.mem_map.mp hk
    obtain ⟨n, hn, e⟩ := on kv hkv
    rw [e]
    exact List.mem_map_of_mem hn
  simpa using this
theorem TabN.nil {ns : List Str} : TabN ns [] := ⟨⟨List.Pairwise.nil, by simp, fun _ h => (List.not_mem_nil h).elim, fun _ h => (List.not_mem_nil h).elim⟩, fun _ h => (List.not_mem_nil h).elim⟩
theorem TabN.put {ns : List Str} (hn : NmG ns) {t : Tab} (h : TabN ns t) {n : Str} (hm : n ∈ ns) {v : D} (hv : isValueD v = true) : TabN ns (putG t (.inr n) v) := by
  have on : ∀ kv ∈ putG t (.inr n) v, ∃ m ∈ ns, kv.1 = .inr m := fun kv hk => by
    rcases mem_putG hk with e | hk
    · rw [e]; exact ⟨n, hm, rfl⟩
    · exact h.on kv hk
  have nd := nodup_put h.g.nd (.inr n) v
  refine ⟨⟨nd, ?_, fun kv hk => ?_, fun kv hk => ?_⟩, on⟩
  · have := tab_len nd on
    have := hn.few
    omega
  · obtain ⟨m, hm', e⟩ := on kv hk
    exact ⟨m, e, hn.nm m hm'⟩
  · rcases mem_putG hk with e | hk
    · rw [e]; exact hv
    · exact h.g.vl kv hk
theorem TabN.drop {ns : List Str} {t : Tab} (h : TabN ns t) (k : Key) : TabN ns (dropG t k) := by
  have sub : ∀ kv ∈ dropG t k, kv ∈ t := fun kv hk => (List.mem_filter.mp hk).1
  exact ⟨⟨h.g.nd.sublist ((List.filter_sublist (l := t)).map _), Nat.le_trans (List.length_filter_le _ _) h.g.few, fun kv hk => h.g.nm kv (sub kv hk), fun kv hk => h.g.vl kv (sub kv hk)⟩, fun kv hk => h.on kv (sub kv hk)⟩
theorem A_law_table_ok {ns : List Str} (hn : NmG ns) (q : ∀ t, TabN ns t → Q (.dic t) O) : A_law_table CS [.d .tape, .d (.lst (ns.map D.str))] O Q R := by
  refine ⟨rfl, ?_⟩
  unfold W_law_table
  have sz := sizeLine_eq
  have hf := hn.few
  simp only [wSeq, wOwn, wNewK, sstart, List.map, List.append, List.set]
  unfold wFor
  simp only [wiA, wVar, look, bvOf, seqI, List.set]
  refine forN_run (fun r s => ∃ (t : Tab) (n : Option SV), s = [some (.d .tape), some (.d (.lst (ns.map D.str))), some (.o (.dic t)), n] ∧ TabN ns t ∧ ∃ ms : List Str, r = ms.map D.str ∧ ∀ m ∈ ms, m ∈ ns) trivial _ _ ?_ ?_ ?_
  · rintro d r s hsuf ⟨t, n, rfl, ht, ms, e, hm⟩ D2 hrt hbk hnx hct
    cases ms with
    | nil => cases e
    | cons m ms =>
      simp only [List.map_cons, List.cons.injEq] at e
      obtain ⟨rfl, rfl⟩ := e
      have hm' : ∀ x ∈ ms, x ∈ ns := fun x hx => hm x (List.mem_cons_of_mem _ hx)
      have tl := tab_len ht.g.nd ht.on
      simp only [wgName, wIfS, wTst, wOp, wCall, wCons, wNil, wVar, wC, look, bvOf, List.map, toSV, List.set]
      refine ⟨3, rfl, by decide, by decide, fun k k0 k1 => ?_⟩
      have key : ∀ t' n, TabN ns t' → D2.nx [some (.d .tape), some (.d (.lst (ns.map D.str))), some (.o (.dic t')), n] O := fun t' n h => hnx _ ⟨t', n, rfl, h, ms, rfl, hm'⟩
      clear hnx hct hrt hbk q
      by_cases hk : 0 < k
      · simp only [wGt, wCmpI, wC, intQ, blQ, hk, decide_true, if_true, wAsg]
        simp only [wCall, wCons, wNil, wVar, wC, look, bvOf, List.map, toSV, wFrz, wLst, allD, treeC, wUn, wNeg, isD]
        refine A_law_any_ok (by decide) (by decide) fun x hx => ?_
        have hv : isValueD x = true := by
          revert x
          decide
        simp [wSeq, wAsg, isD, wgName, wPar, setAll, wqD, wqO, wqNil, wDrop, wRet, wRetN, wIfS, wNext, wTst, blQ, wOp, wOpN, wUn, wFrz, treeC, wTmp, wLive, liveC, wOwn, wAnd, wOr, wNot, wIf, tAndW, tOrW, tNotW, wChain, wC, wVar, look, bvOf, wNil, wCons, wTup, wLst, allD, wNewK, wNewT, wCB, wCN, w1, w2, n1, wCall, wCallX, toSV, wIsi, isaQ, tyD, tyM, isaB, wLen, lenD, lenM, wLe, wLt, wGt, wGe, wAdd, wAddL, wAddN, wSub, wMulI, wDiv, wMod, wPow, wNeg, wInt2, wInt1, wCmpI, wAbs, wIx, ixB, ixL, ixM, ixK, wIn, wNotIn, keyD, wIsN, wNotN, isNonB, isNonD, wBm, mApp, appM, mPop, popM, mCnt, mIdx, itY, wDict2, wgSub, refQ, setM, setC, wgOSub, ownQ, wOm, wOmM, tyC, oApp, oPop, oPopAt, oExt, oUpd, oIns, wExpM, wSetM, wRetM, wIxM, wDPop1, wDPop2, dpQ, wFz, fzS, wFld, wSFld, wGet2, wGet1, getQ, wEq, wNe, wEq2, wNe2, eqC2, eqB, eqC, asL, asLM, asK, asKM, asS, asT, asTM, wFor, wgTup, wgCons, wgNil, wTuple, wList, wiN, wiA, kindI, seqI, seqM, wiIt, wiItT, wiItA, dctI, dctM, wiVal, dicI, dicM, wiR1, wiR2, wiEn, wiZip, lstI, wSorted, wSorted2, wSorted3, asTS, wAll, wAny, wLc, wDc, wDisp, wDispT1, wRepL, repL, keyT, keyL, wpCons, wpNil, wItems, wSl, wSlN, wPart, wNoP, wipeS, wNever, retE, wReprL, wRaise, wRaiseA, wTry, rTry, sufD, wIsX, wAct, wLam, thL, lendS, lend1, noS, sstart, rNo, wAug, -List.lookup_eq_none_iff]
        exact ⟨by omega, key _ _ (ht.put hn (hm m List.mem_cons_self) hv)⟩
      · simp [wSeq, wAsg, isD, wgName, wPar, setAll, wqD, wqO, wqNil, wDrop, wRet, wRetN, wIfS, wNext, wTst, blQ, wOp, wOpN, wUn, wFrz, treeC, wTmp, wLive, liveC, wOwn, wAnd, wOr, wNot, wIf, tAndW, tOrW, tNotW, wChain, wC, wVar, look, bvOf, wNil, wCons, wTup, wLst, allD, wNewK, wNewT, wCB, wCN, w1, w2, n1, wCall, wCallX, toSV, wIsi, isaQ, tyD, tyM, isaB, wLen, lenD, lenM, wLe, wLt, wGt, wGe, wAdd, wAddL, wAddN, wSub, wMulI, wDiv, wMod, wPow, wNeg, wInt2, wInt1, wCmpI, wAbs, wIx, ixB, ixL, ixM, ixK, wIn, wNotIn, keyD, wIsN, wNotN, isNonB, isNonD, wBm, mApp, appM, mPop, popM, mCnt, mIdx, itY, wDict2, wgSub, refQ, setM, setC, wgOSub, ownQ, wOm, wOmM, tyC, oApp, oPop, oPopAt, oExt, oUpd, oIns, wExpM, wSetM, wRetM, wIxM, wDPop1, wDPop2, dpQ, wFz, fzS, wFld, wSFld, wGet2, wGet1, getQ, wEq, wNe, wEq2, wNe2, eqC2, eqB, eqC, asL, asLM, asK, asKM, asS, asT, asTM, wFor, wgTup, wgCons, wgNil, wTuple, wList, wiN, wiA, kindI, seqI, seqM, wiIt, wiItT, wiItA, dctI, dctM, wiVal, dicI, dicM, wiR1, wiR2, wiEn, wiZip, lstI, wSorted, wSorted2, wSorted3, asTS, wAll, wAny, wLc, wDc, wDisp, wDispT1, wRepL, repL, keyT, keyL, wpCons, wpNil, wItems, wSl, wSlN, wPart, wNoP, wipeS, wNever, retE, wReprL, wRaise, wRaiseA, wTry, rTry, sufD, wIsX, wAct, wLam, thL, lendS, lend1, noS, sstart, rNo, wAug, -List.lookup_eq_none_iff, hk]
        exact key _ _ ht
  · rintro s ⟨t, n, rfl, ht, ms, e, hm⟩
    simp [wSeq, wAsg, isD, wgName, wPar, setAll, wqD, wqO, wqNil, wDrop, wRet, wRetN, wIfS, wNext, wTst, blQ, wOp, wOpN, wUn, wFrz, treeC, wTmp, wLive, liveC, wOwn, wAnd, wOr, wNot, wIf, tAndW, tOrW, tNotW, wChain, wC, wVar, look, bvOf, wNil, wCons, wTup, wLst, allD, wNewK, wNewT, wCB, wCN, w1, w2, n1, wCall, wCallX, toSV, wIsi, isaQ, tyD, tyM, isaB, wLen, lenD, lenM, wLe, wLt, wGt, wGe, wAdd, wAddL, wAddN, wSub, wMulI, wDiv, wMod, wPow, wNeg, wInt2, wInt1, wCmpI, wAbs, wIx, ixB, ixL, ixM, ixK, wIn, wNotIn, keyD, wIsN, wNotN, isNonB, isNonD, wBm, mApp, appM, mPop, popM, mCnt, mIdx, itY, wDict2, wgSub, refQ, setM, setC, wgOSub, ownQ, wOm, wOmM, tyC, oApp, oPop, oPopAt, oExt, oUpd, oIns, wExpM, wSetM, wRetM, wIxM, wDPop1, wDPop2, dpQ, wFz, fzS, wFld, wSFld, wGet2, wGet1, getQ, wEq, wNe, wEq2, wNe2, eqC2, eqB, eqC, asL, asLM, asK, asKM, asS, asT, asTM, wFor, wgTup, wgCons, wgNil, wTuple, wList, wiN, wiA, kindI, seqI, seqM, wiIt, wiItT, wiItA, dctI, dctM, wiVal, dicI, dicM, wiR1, wiR2, wiEn, wiZip, lstI, wSorted, wSorted2, wSorted3, asTS, wAll, wAny, wLc, wDc, wDisp, wDispT1, wRepL, repL, keyT, keyL, wpCons, wpNil, wItems, wSl, wSlN, wPart, wNoP, wipeS, wNever, retE, wReprL, wRaise, wRaiseA, wTry, rTry, sufD, wIsX, wAct, wLam, thL, lendS, lend1, noS, sstart, rNo, wAug, -List.lookup_eq_none_iff]
    exact q t ht
  · exact ⟨[], _, rfl, TabN.nil, ns, rfl, fun _ h => h⟩
end KM

set_option Elab.async false
set_option linter.all false
set_option maxRecDepth 100000
set_option maxHeartbeats 1000000
/-! KM: tables turned -/
namespace KM
open PySem PySem.Spec PyProof.Rows L2 VD
variable {CS : CSt} {R : RZ} {O : OO} {Q : D → OO → Prop}
theorem merge_app {κ ν : Type} [DecidableEq κ] : ∀ {t acc : List (κ × ν)}, ((acc ++ t).map (·.1)).Nodup → mergeG acc t = acc ++ t
  | [], acc, _ => by simp [mergeG]
  | (k, v) :: r, acc, h => by
    have e : putG acc k v = acc ++ [(k, v)] := by
      unfold putG
      have : ¬ (acc.any fun kv => decide (kv.1 = k)) = true := by
        intro z
        obtain ⟨kv, h1, h2⟩ := List.any_eq_true.mp z
        rw [List.map_append, List.nodup_append] at h
        exact h.2.2 kv.1 (List.mem_map_of_mem h1) k (by simp) (of_decide_eq_true h2)
      rw [if_neg this]
    show mergeG (putG acc k v) r = _
    rw [e, merge_app (by simpa using h)]
    simp
theorem merge_nil {t : Tab} (ht : (t.map (·.1)).Nodup) : mergeG [] t = t := by
  have := merge_app (acc := []) (t := t) (by simpa using ht)
  simpa using this
theorem asP_self (t : Tab) : asP (itemsD t) = some t := by
  have := asP_items (t := t) (u := []) (ds := []) rfl
  simpa using this
theorem A_law_turned_ok {ns : List Str} (hn : NmG ns) {t : Tab} (ht : TabN ns t) (q : ∀ t, TabN ns t → Q (.dic t) O) : A_law_turned CS [.d .tape, .d (.lst (ns.map D.str)), .d (.dic t)] O Q R := by
  refine ⟨rfl, ?_⟩
  unfold W_law_turned
  have sz := sizeLine_eq
  have hf := hn.few
  simp only [wSeq, wOwn, wCN, wCons, wNil, wFrz, wItems, wVar, look, bvOf, sstart, List.map, List.append, List.set]
  refine ⟨t, rfl, ?_⟩
  simp only [treeC]
  refine .inr ⟨_, _, rfl, asP_self t, ?_⟩
  rw [merge_nil ht.g.nd]
  unfold wFor
  simp only [wiA, wVar, look, bvOf, seqI, List.set]
  refine forN_run (fun r s => ∃ (u : Tab) (n w : Option SV), s = [some (.d .tape), some (.d (.lst (ns.map D.str))), some (.d (.dic t)), some (.o (.dic u)), n, w] ∧ TabN ns u ∧ ∃ ms : List Str, r = ms.map D.str ∧ ∀ m ∈ ms, m ∈ ns) trivial _ _ ?_ ?_ ?_
  · rintro d r s hsuf ⟨u, n, w, rfl, hu, ms, e, hm⟩ D2 hrt hbk hnx hct
    cases ms with
    | nil => cases e
    | cons m ms =>
      simp only [List.map_cons, List.cons.injEq] at e
      obtain ⟨rfl, rfl⟩ := e
      have hm' : ∀ x ∈ ms, x ∈ ns := fun x hx => hm x (List.mem_cons_of_mem _ hx)
      have tl := tab_len hu.g.nd hu.on
      have key : ∀ u' n w, TabN ns u' → D2.nx [some (.d .tape), some (.d (.lst (ns.map D.str))), some (.d (.dic t)), some (.o (.dic u')), n, w] O := fun u' n w h => hnx _ ⟨u', n, w, rfl, h, ms, rfl, hm'⟩
      clear hnx hct hrt hbk q
      simp only [wgName, wSeq, wAsg, wCall, wCons, wNil, wVar, wC, look, bvOf, List.map, toSV, List.set]
      refine ⟨5, rfl, by decide, by decide, fun k k0 k1 => ?_⟩
      simp only [isD, wgName, List.set, wIfS, wTst, wOp, tAndW, wVar, look, bvOf, wC]
      rw [eq_fl (.inr (.inl ⟨k, rfl⟩)) (.inr (.inl ⟨0, rfl⟩))]
      by_cases h0 : k = 0
      · subst h0
        simp only [show eqvD (.int 0) (.int 0) = true from rfl, blQ, if_true, wAsg, wCall, wCons, wNil, wVar, wC, look, bvOf, List.map, toSV, wFrz, wLst, allD, treeC, wUn, wNeg, isD]
        refine A_law_any_ok (by decide) (by decide) fun x hx => ?_
        have hv : isValueD x = true := by
          revert x
          decide
        simp [wSeq, wAsg, isD, wgName, wPar, setAll, wqD, wqO, wqNil, wDrop, wRet, wRetN, wIfS, wNext, wTst, blQ, wOp, wOpN, wUn, wFrz, treeC, wTmp, wLive, liveC, wOwn, wAnd, wOr, wNot, wIf, tAndW, tOrW, tNotW, wChain, wC, wVar, look, bvOf, wNil, wCons, wTup, wLst, allD, wNewK, wNewT, wCB, wCN, w1, w2, n1, wCall, wCallX, toSV, wIsi, isaQ, tyD, tyM, isaB, wLen, lenD, lenM, wLe, wLt, wGt, wGe, wAdd, wAddL, wAddN, wSub, wMulI, wDiv, wMod, wPow, wNeg, wInt2, wInt1, wCmpI, wAbs, wIx, ixB, ixL, ixM, ixK, wIn, wNotIn, keyD, wIsN, wNotN, isNonB, isNonD, wBm, mApp, appM, mPop, popM, mCnt, mIdx, itY, wDict2, wgSub, refQ, setM, setC, wgOSub, ownQ, wOm, wOmM, tyC, oApp, oPop, oPopAt, oExt, oUpd, oIns, wExpM, wSetM, wRetM, wIxM, wDPop1, wDPop2, dpQ, wFz, fzS, wFld, wSFld, wGet2, wGet1, getQ, wEq, wNe, wNe2, eqC2, eqB, eqC, asL, asLM, asK, asKM, asS, asT, asTM, wFor, wgTup, wgCons, wgNil, wTuple, wList, wiN, wiA, kindI, seqI, seqM, wiIt, wiItT, wiItA, dctI, dctM, wiVal, dicI, dicM, wiR1, wiR2, wiEn, wiZip, lstI, wSorted, wSorted2, wSorted3, asTS, wAll, wAny, wLc, wDc, wDisp, wDispT1, wRepL, repL, keyT, keyL, wpCons, wpNil, wItems, wSl, wSlN, wPart, wNoP, wipeS, wNever, retE, wReprL, wRaise, wRaiseA, wTry, rTry, sufD, wIsX, wAct, wLam, thL, lendS, lend1, noS, sstart, rNo, wAug, -List.lookup_eq_none_iff, eq_fl (show fl (.int 0) from .inr (.inl ⟨_, rfl⟩)) (show fl (.int 1) from .inr (.inl ⟨_, rfl⟩)), eqvD]
        exact ⟨by omega, key _ _ _ (hu.put hn (hm m List.mem_cons_self) hv)⟩
      · have e0 : eqvD (.int k) (.int 0) = false := by simp [eqvD, h0]
        simp only [e0, blQ, Bool.false_eq_true, if_false, wNext]
        by_cases h1 : k = 1
        · subst h1
          simp [wSeq, wAsg, isD, wgName, wPar, setAll, wqD, wqO, wqNil, wDrop, wRet, wRetN, wIfS, wNext, wTst, blQ, wOp, wOpN, wUn, wFrz, treeC, wTmp, wLive, liveC, wOwn, wAnd, wOr, wNot, wIf, tAndW, tOrW, tNotW, wChain, wC, wVar, look, bvOf, wNil, wCons, wTup, wLst, allD, wNewK, wNewT, wCB, wCN, w1, w2, n1, wCall, wCallX, toSV, wIsi, isaQ, tyD, tyM, isaB, wLen, lenD, lenM, wLe, wLt, wGt, wGe, wAdd, wAddL, wAddN, wSub, wMulI, wDiv, wMod, wPow, wNeg, wInt2, wInt1, wCmpI, wAbs, wIx, ixB, ixL, ixM, ixK, wIn, wNotIn, keyD, wIsN, wNotN, isNonB, isNonD, wBm, mApp, appM, mPop, popM, mCnt, mIdx, itY, wDict2, wgSub, refQ, setM, setC, wgOSub, ownQ, wOm, wOmM, tyC, oApp, oPop, oPopAt, oExt, oUpd, oIns, wExpM, wSetM, wRetM, wIxM, wDPop1, wDPop2, dpQ, wFz, fzS, wFld, wSFld, wGet2, wGet1, getQ, wEq, wNe, wNe2, eqC2, eqB, eqC, asL, asLM, asK, asKM, asS, asT, asTM, wFor, wgTup, wgCons, wgNil, wTuple, wList, wiN, wiA, kindI, seqI, seqM, wiIt, wiItT, wiItA, dctI, dctM, wiVal, dicI, dicM, wiR1, wiR2, wiEn, wiZip, lstI, wSorted, wSorted2, wSorted3, asTS, wAll, wAny, wLc, wDc, wDisp, wDispT1, wRepL, repL, keyT, keyL, wpCons, wpNil, wItems, wSl, wSlN, wPart, wNoP, wipeS, wNever, retE, wReprL, wRaise, wRaiseA, wTry, rTry, sufD, wIsX, wAct, wLam, thL, lendS, lend1, noS, sstart, rNo, wAug, -List.lookup_eq_none_iff, eq_fl (show fl (.int 1) from .inr (.inl ⟨_, rfl⟩)) (show fl (.int 1) from .inr (.inl ⟨_, rfl⟩)), eqvD]
          cases eg : valG u (.inr m) with
          | none =>
            simp [inD, inK, keyD, eg]
            exact key _ _ _ hu
          | some v =>
            simp [inD, inK, keyD, eg]
            exact key _ _ _ (hu.drop _)
        · have e1 : eqvD (.int k) (.int 1) = false := by simp [eqvD, h1]
          simp [wSeq, wAsg, isD, wgName, wPar, setAll, wqD, wqO, wqNil, wDrop, wRet, wRetN, wIfS, wNext, wTst, blQ, wOp, wOpN, wUn, wFrz, treeC, wTmp, wLive, liveC, wOwn, wAnd, wOr, wNot, wIf, tAndW, tOrW, tNotW, wChain, wC, wVar, look, bvOf, wNil, wCons, wTup, wLst, allD, wNewK, wNewT, wCB, wCN, w1, w2, n1, wCall, wCallX, toSV, wIsi, isaQ, tyD, tyM, isaB, wLen, lenD, lenM, wLe, wLt, wGt, wGe, wAdd, wAddL, wAddN, wSub, wMulI, wDiv, wMod, wPow, wNeg, wInt2, wInt1, wCmpI, wAbs, wIx, ixB, ixL, ixM, ixK, wIn, wNotIn, keyD, wIsN, wNotN, isNonB, isNonD, wBm, mApp, appM, mPop, popM, mCnt, mIdx, itY, wDict2, wgSub, refQ, setM, setC, wgOSub, ownQ, wOm, wOmM, tyC, oApp, oPop, oPopAt, oExt, oUpd, oIns, wExpM, wSetM, wRetM, wIxM, wDPop1, wDPop2, dpQ, wFz, fzS, wFld, wSFld, wGet2, wGet1, getQ, wEq, wNe, wNe2, eqC2, eqB, eqC, asL, asLM, asK, asKM, asS, asT, asTM, wFor, wgTup, wgCons, wgNil, wTuple, wList, wiN, wiA, kindI, seqI, seqM, wiIt, wiItT, wiItA, dctI, dctM, wiVal, dicI, dicM, wiR1, wiR2, wiEn, wiZip, lstI, wSorted, wSorted2, wSorted3, asTS, wAll, wAny, wLc, wDc, wDisp, wDispT1, wRepL, repL, keyT, keyL, wpCons, wpNil, wItems, wSl, wSlN, wPart, wNoP, wipeS, wNever, retE, wReprL, wRaise, wRaiseA, wTry, rTry, sufD, wIsX, wAct, wLam, thL, lendS, lend1, noS, sstart, rNo, wAug, -List.lookup_eq_none_iff, eq_fl (show fl (.int k) from .inr (.inl ⟨_, rfl⟩)) (show fl (.int 1) from .inr (.inl ⟨_, rfl⟩)), e1]
          exact key _ _ _ hu
  · rintro s ⟨u, n, w, rfl, hu, ms, e, hm⟩
    simp [wSeq, wAsg, isD, wgName, wPar, setAll, wqD, wqO, wqNil, wDrop, wRet, wRetN, wIfS, wNext, wTst, blQ, wOp, wOpN, wUn, wFrz, treeC, wTmp, wLive, liveC, wOwn, wAnd, wOr, wNot, wIf, tAndW, tOrW, tNotW, wChain, wC, wVar, look, bvOf, wNil, wCons, wTup, wLst, allD, wNewK, wNewT, wCB, wCN, w1, w2, n1, wCall, wCallX, toSV, wIsi, isaQ, tyD, tyM, isaB, wLen, lenD, lenM, wLe, wLt, wGt, wGe, wAdd, wAddL, wAddN, wSub, wMulI, wDiv, wMod, wPow, wNeg, wInt2, wInt1, wCmpI, wAbs, wIx, ixB, ixL, ixM, ixK, wIn, wNotIn, keyD, wIsN, wNotN, isNonB, isNonD, wBm, mApp, appM, mPop, popM, mCnt, mIdx, itY, wDict2, wgSub, refQ, setM, setC, wgOSub, ownQ, wOm, wOmM, tyC, oApp, oPop, oPopAt, oExt, oUpd, oIns, wExpM, wSetM, wRetM, wIxM, wDPop1, wDPop2, dpQ, wFz, fzS, wFld, wSFld, wGet2, wGet1, getQ, wEq, wNe, wEq2, wNe2, eqC2, eqB, eqC, asL, asLM, asK, asKM, asS, asT, asTM, wFor, wgTup, wgCons, wgNil, wTuple, wList, wiN, wiA, kindI, seqI, seqM, wiIt, wiItT, wiItA, dctI, dctM, wiVal, dicI, dicM, wiR1, wiR2, wiEn, wiZip, lstI, wSorted, wSorted2, wSorted3, asTS, wAll, wAny, wLc, wDc, wDisp, wDispT1, wRepL, repL, keyT, keyL, wpCons, wpNil, wItems, wSl, wSlN, wPart, wNoP, wipeS, wNever, retE, wReprL, wRaise, wRaiseA, wTry, rTry, sufD, wIsX, wAct, wLam, thL, lendS, lend1, noS, sstart, rNo, wAug, -List.lookup_eq_none_iff]
    exact q u hu
  · exact ⟨t, _, _, rfl, ht, ns, rfl, fun _ h => h⟩
end KM

set_option Elab.async false
set_option linter.all false
set_option maxRecDepth 100000
set_option maxHeartbeats 1000000
/-! KM: tables as maps -/
namespace KM
open PySem PySem.Spec PyProof.Rows L2 VD
theorem val_some {κ ν : Type} [DecidableEq κ] : ∀ {t : List (κ × ν)}, (t.map (·.1)).Nodup → ∀ {k : κ} {v : ν}, (k, v) ∈ t → valG t k = some v
  | [], _, _, _, h => (List.not_mem_nil h).elim
  | (j, u) :: r, nd, k, v, h => by
    have h1 := List.nodup_cons.mp nd
    rw [valG_cons]
    rcases List.mem_cons.mp h with e | h
    · cases e
      simp
    · have : j ≠ k := fun e => by
        subst e
        exact h1.1 (List.mem_map_of_mem (f := (·.1)) h)
      rw [if_neg this]
      exact val_some h1.2 h
theorem val_keys {κ ν : Type} [DecidableEq κ] {t : List (κ × ν)} {k : κ} : (valG t k).isSome = true ↔ k ∈ t.map (·.1) := by
  constructor
  · intro h
    obtain ⟨v, e⟩ := Option.isSome_iff_exists.mp h
    exact List.mem_map_of_mem (f := (·.1)) (valG_mem e)
  · intro h
    obtain ⟨kv, h1, h2⟩ := List.mem_map.mp h
    subst h2
    induction t with
    | nil => cases h1
    | cons a r ih =>
      rw [valG_cons]
      split
      · rfl
      · rename_i hne
        rcases List.mem_cons.mp h1 with e | h1
        · subst e; exact absurd rfl hne
        · exact ih h1 (List.mem_map_of_mem (f := (·.1)) h1)
theorem same_len {κ ν μ : Type} [DecidableEq κ] {a : List (κ × ν)} {b : List (κ × μ)} (na : (a.map (·.1)).Nodup) (nb : (b.map (·.1)).Nodup) (h : ∀ k, (valG a k).isSome = (valG b k).isSome) : a.length = b.length := by
  have h1 := nodup_le na fun k hk => val_keys.mp ((h k) ▸ val_keys.mpr hk)
  have h2 := nodup_le nb fun k hk => val_keys.mp ((h k).symm ▸ val_keys.mpr hk)
  simp at h1 h2
  omega
theorem eqvK_all : ∀ {a b : Tab}, (∀ kv ∈ a, ∃ e, valG b kv.1 = some e ∧ eqvD kv.2 e = true) → eqvK a b = true
  | [], _, _ => rfl
  | (k, d) :: r, b, h => by
    obtain ⟨e, h1, h2⟩ := h _ List.mem_cons_self
    have := eqvK_all (a := r) (b := b) fun kv hk => h kv (List.mem_cons_of_mem _ hk)
    simp only at h1 h2
    simp only [eqvK, h1, h2, this]
    rfl
/-- two tables that answer alike are equal -/
theorem eqv_same {a b : Tab} (na : (a.map (·.1)).Nodup) (nb : (b.map (·.1)).Nodup) (rf : ∀ kv ∈ a, eqvD kv.2 kv.2 = true) (h : ∀ k, valG a k = valG b k) : eqvD (.dic a) (.dic b) = true := by
  have hl := same_len na nb fun k => by rw [h k]
  have hk := eqvK_all (a := a) (b := b) fun kv hkv => ⟨kv.2, by rw [← h, val_some na hkv], rf kv hkv⟩
  simp [eqvD, hl, hk]
theorem val_put {κ ν : Type} [DecidableEq κ] {t : List (κ × ν)} {k j : κ} {v : ν} : valG (putG t k v) j = if k = j then some v else valG t j := by
  unfold putG
  split
  · rename_i h
    induction t with
    | nil => simp at h
    | cons a r ih =>
      simp only [List.map_cons]
      rw [valG_cons, valG_cons]
      by_cases ha : a.1 = k
      · rw [if_pos ha]
        by_cases hj : k = j
        · simp [ha, hj]
        · have : ¬ a.1 = j := fun z => hj (ha.symm.trans z)
          simp only [if_neg hj, if_neg this]
          clear ih h
          induction r with
          | nil => rfl
          | cons b s ihs =>
            simp only [List.map_cons]
            rw [valG_cons, valG_cons, ihs]
            by_cases hb : b.1 = k
            · have hbj : ¬ b.1 = j := fun z => hj (hb.symm.trans z)
              simp [hb, hbj, hj]
            · simp [hb]
      · rw [if_neg ha]
        have h' : (r.any fun kv => decide (kv.1 = k)) = true := by simpa [ha] using h
        rw [ih h']
        by_cases hj : k = j
        · subst hj; simp [ha]
        · simp [hj]
  · rename_i h
    induction t with
    | nil => simp [valG_cons]
    | cons a r ih =>
      simp only [List.any_cons, Bool.or_eq_true, decide_eq_true_eq, not_or] at h
      rw [List.cons_append, valG_cons, valG_cons, ih (by simpa using h.2)]
      by_cases hj : k = j
      · subst hj; simp [h.1]
      · simp [hj]
end KM

set_option Elab.async false
set_option linter.all false
set_option maxRecDepth 100000
set_option maxHeartbeats 1000000
/-! KM: differences and merges as maps -/
namespace KM
open PySem PySem.Spec PyProof.Rows L2 VD
theorem fold_dif {x y : Tab} {n : Str} : ∀ {ns : List Str} {acc : Tab}, valG (ns.foldl (dstep x y) acc) (.inr n) = if n ∈ ns ∧ eqvD (getT x n) (getT y n) = false then some (.tup [getT x n, getT y n]) else valG acc (.inr n)
  | [], acc => by simp
  | m :: r, acc => by
    rw [List.foldl_cons, fold_dif]
    unfold dstep
    by_cases hm : n ∈ r
    · by_cases he : eqvD (getT x n) (getT y n) = false
      · simp [hm, he]
      · simp only [Bool.not_eq_false] at he
        simp [hm, he]
        split
        · rfl
        · rename_i h1
          rw [val_put]
          have : (Sum.inr m : Key) ≠ .inr n := fun z => by cases z; exact h1 he
          rw [if_neg this]
    · by_cases e : m = n
      · subst e
        cases he : eqvD (getT x m) (getT y m)
        · simp [hm, he, val_put]
        · simp [hm, he]
      · have e' : ¬ n = m := fun z => e z.symm
        have ek : (Sum.inr m : Key) ≠ .inr n := fun z => by cases z; exact e rfl
        simp only [hm, false_and, if_false, List.mem_cons, e', false_or]
        split
        · rfl
        · rw [val_put, if_neg ek]
/-- the names of a table -/
theorem mem_strK {t : Tab} {n : Str} : n ∈ strK t ↔ (valG t (.inr n)).isSome = true := by
  rw [val_keys]
  constructor
  · intro h
    obtain ⟨kv, h1, h2⟩ := List.mem_filterMap.mp h
    cases e : kv.1 with
    | inl i => rw [e] at h2; cases h2
    | inr m => rw [e] at h2; cases h2; exact List.mem_map.mpr ⟨kv, h1, e⟩
  · intro h
    obtain ⟨kv, h1, h2⟩ := List.mem_map.mp h
    exact List.mem_filterMap.mpr ⟨kv, h1, by rw [h2]⟩
theorem mem_names {t : Tab} {n : Str} : n ∈ namesL t ↔ (valG t (.inr n)).isSome = true := by
  have hp : (namesL t).Perm (strK t) := isort_perm leS (strK t)
  rw [hp.mem_iff, mem_strK]
theorem val_merge {k : Key} : ∀ {b a : Tab}, (valG (mergeG a b) k).isSome = ((valG a k).isSome || (valG b k).isSome)
  | [], a => by simp [mergeG, valG]
  | kv :: r, a => by
    show (valG (mergeG (putG a kv.1 kv.2) r) k).isSome = _
    rw [val_merge, val_put, valG_cons]
    by_cases h : kv.1 = k <;> simp [h]
theorem mem_all2 {x y : Tab} {n : Str} : n ∈ all2 x y ↔ (valG x (.inr n)).isSome = true ∨ (valG y (.inr n)).isSome = true := by
  unfold all2
  rw [mem_names, val_merge, val_merge]
  simp [valG]
theorem mem_all3 {b x y : Tab} {n : Str} : n ∈ all3 b x y ↔ (valG b (.inr n)).isSome = true ∨ (valG x (.inr n)).isSome = true ∨ (valG y (.inr n)).isSome = true := by
  unfold all3
  rw [mem_names, val_merge, val_merge, val_merge]
  simp [valG, or_assoc]
theorem val_dif {x y : Tab} {n : Str} : valG (dif x y) (.inr n) = if eqvD (getT x n) (getT y n) = false then some (.tup [getT x n, getT y n]) else none := by
  unfold dif
  rw [fold_dif]
  by_cases h : n ∈ all2 x y
  · simp [h, valG]
  · have h' := h
    rw [mem_all2] at h'
    simp only [not_or, Bool.not_eq_true] at h'
    have a := Option.isNone_iff_eq_none.mp (by simpa using h'.1)
    have b := Option.isNone_iff_eq_none.mp (by simpa using h'.2)
    have : eqvD (getT x n) (getT y n) = true := by simp [getT, a, b, eqvD]
    simp [h, this, valG]
end KM

set_option Elab.async false
set_option linter.all false
set_option maxRecDepth 100000
set_option maxHeartbeats 1000000
/-! KM: parts of a table -/
namespace KM
open PySem PySem.Spec PyProof.Rows L2 VD
variable {CS : CSt} {R : RZ} {O : OO} {Q : D → OO → Prop}
def part (t : Tab) (ns : List Str) : Tab := t.filter fun kv => match kv.1 with | .inr n => decide (n ∈ ns) | .inl _ => false
def pick (t : Tab) (ns : List Str) : D → Option D
  | .str n => if n ∈ ns then some (.tup [.str n, getT t n]) else none
  | _ => none
theorem any_str {ns : List Str} {m : Str} : ((ns.map D.str).any fun z => eqvD z (.str m)) = decide (m ∈ ns) := by
  induction ns with
  | nil => simp
  | cons a r ih =>
    simp only [List.map_cons, List.any_cons, ih, eqvD, List.mem_cons]
    by_cases h : a = m
    · subst h; simp
    · have : ¬ m = a := fun z => h z.symm
      simp [h, this]
theorem ex_str {ns : List Str} {m : Str} : (∃ x, x ∈ ns.map D.str ∧ eqvD x (.str m) = true) ↔ m ∈ ns := by
  have := any_str (ns := ns) (m := m)
  rw [Bool.eq_iff_iff, List.any_eq_true, decide_eq_true_eq] at this
  exact this
theorem pln_strs (ns : List Str) : (ns.map D.str).all pln = true := by simp [pln]
theorem pick_items {T : Tab} (nd : (T.map (·.1)).Nodup) {ns : List Str} : ∀ {t : Tab}, txtK t → (∀ kv ∈ t, kv ∈ T) → (t.map fun kv => keyE kv.1).filterMap (pick T ns) = itemsD (part t ns)
  | [], _, _ => rfl
  | (.inl i, v) :: r, h, _ => by
    obtain ⟨n, e⟩ := h _ List.mem_cons_self
    cases e
  | (.inr n, v) :: r, h, hs => by
    have ih := pick_items nd (t := r) (ns := ns) (fun kv hk => h kv (List.mem_cons_of_mem _ hk)) fun kv hk => hs kv (List.mem_cons_of_mem _ hk)
    have hv : getT T n = v := by
      unfold getT
      rw [val_some nd (hs _ List.mem_cons_self)]
      rfl
    by_cases hn : n ∈ ns
    · simp only [List.map_cons, keyE, List.filterMap_cons, pick, hn, if_true, part, List.filter_cons, decide_true]
      simp only [itemsD, List.map_cons, keyE, hv]
      congr 1
    · simp only [List.map_cons, keyE, List.filterMap_cons, pick, hn, if_false, part, List.filter_cons, decide_false, Bool.false_eq_true]
      exact ih
theorem A_law_part_ok {t : Tab} (nd : (t.map (·.1)).Nodup) (tx : txtK t) (hl : t.length ≤ 1000) {ns : List Str} (q : Q (.dic (part t ns)) O) : A_law_part CS [.d (.dic t), .d (.lst (ns.map D.str))] O Q R := by
  refine ⟨rfl, ?_⟩
  unfold W_law_part
  have sz := sizeLine_eq
  simp only [wRet, wFrz, wCN, wCons, wNil]
  unfold wLc
  simp only [wiA, wVar, look, bvOf, seqI, sstart, List.map, List.append]
  refine lcN_run (f := pick t ns) trivial _ _ (fun d hd Ky Kn h => ?_) (by simp; omega) ?_
  · obtain ⟨kv, hkv, rfl⟩ := List.mem_map.mp hd
    obtain ⟨n, e⟩ := tx kv hkv
    obtain ⟨v, hv⟩ : ∃ v, valG t (.inr n) = some v := ⟨kv.2, by rw [← e]; exact val_some nd hkv⟩
    rw [e] at h ⊢
    simp only [keyE, pick] at h ⊢
    by_cases hn : n ∈ ns
    · rw [if_pos hn] at h
      simp [wSeq, wAsg, isD, wgName, wPar, setAll, wqD, wqO, wqNil, wDrop, wRet, wRetN, wIfS, wNext, wTst, blQ, wOp, wOpN, wUn, wFrz, treeC, wTmp, wLive, liveC, wOwn, wAnd, wOr, wNot, wIf, tAndW, tOrW, tNotW, wChain, wC, wVar, look, bvOf, wNil, wCons, wTup, wLst, allD, wNewK, wNewT, wCB, wCN, w1, w2, n1, wCall, wCallX, toSV, wIsi, isaQ, tyD, tyM, isaB, wLen, lenD, lenM, wLe, wLt, wGt, wGe, wAdd, wAddL, wAddN, wSub, wMulI, wDiv, wMod, wPow, wNeg, wInt2, wInt1, wCmpI, wAbs, wIx, ixB, ixL, ixM, ixK, wIn, wNotIn, keyD, wIsN, wNotN, isNonB, isNonD, wBm, mApp, appM, mPop, popM, mCnt, mIdx, itY, wDict2, wgSub, refQ, setM, setC, wgOSub, ownQ, wOm, wOmM, tyC, oApp, oPop, oPopAt, oExt, oUpd, oIns, wExpM, wSetM, wRetM, wIxM, wDPop1, wDPop2, dpQ, wFz, fzS, wFld, wSFld, wGet2, wGet1, getQ, wEq, wNe, wEq2, wNe2, eqC2, eqB, eqC, asL, asLM, asK, asKM, asS, asT, asTM, wFor, wgTup, wgCons, wgNil, wTuple, wList, wiN, wiA, kindI, seqI, seqM, wiIt, wiItT, wiItA, dctI, dctM, wiVal, dicI, dicM, wiR1, wiR2, wiEn, wiZip, lstI, wSorted, wSorted2, wSorted3, asTS, wAll, wAny, wLc, wDc, wDisp, wDispT1, wRepL, repL, keyT, keyL, wpCons, wpNil, wItems, wSl, wSlN, wPart, wNoP, wipeS, wNever, retE, wReprL, wRaise, wRaiseA, wTry, rTry, sufD, wIsX, wAct, wLam, thL, lendS, lend1, noS, sstart, rNo, wAug, -List.lookup_eq_none_iff, inD, inL, pln, dpD, hv]
      rw [if_pos (ex_str.mpr hn)]
      simpa [getT, hv] using h
    · rw [if_neg hn] at h
      simp [wSeq, wAsg, isD, wgName, wPar, setAll, wqD, wqO, wqNil, wDrop, wRet, wRetN, wIfS, wNext, wTst, blQ, wOp, wOpN, wUn, wFrz, treeC, wTmp, wLive, liveC, wOwn, wAnd, wOr, wNot, wIf, tAndW, tOrW, tNotW, wChain, wC, wVar, look, bvOf, wNil, wCons, wTup, wLst, allD, wNewK, wNewT, wCB, wCN, w1, w2, n1, wCall, wCallX, toSV, wIsi, isaQ, tyD, tyM, isaB, wLen, lenD, lenM, wLe, wLt, wGt, wGe, wAdd, wAddL, wAddN, wSub, wMulI, wDiv, wMod, wPow, wNeg, wInt2, wInt1, wCmpI, wAbs, wIx, ixB, ixL, ixM, ixK, wIn, wNotIn, keyD, wIsN, wNotN, isNonB, isNonD, wBm, mApp, appM, mPop, popM, mCnt, mIdx, itY, wDict2, wgSub, refQ, setM, setC, wgOSub, ownQ, wOm, wOmM, tyC, oApp, oPop, oPopAt, oExt, oUpd, oIns, wExpM, wSetM, wRetM, wIxM, wDPop1, wDPop2, dpQ, wFz, fzS, wFld, wSFld, wGet2, wGet1, getQ, wEq, wNe, wEq2, wNe2, eqC2, eqB, eqC, asL, asLM, asK, asKM, asS, asT, asTM, wFor, wgTup, wgCons, wgNil, wTuple, wList, wiN, wiA, kindI, seqI, seqM, wiIt, wiItT, wiItA, dctI, dctM, wiVal, dicI, dicM, wiR1, wiR2, wiEn, wiZip, lstI, wSorted, wSorted2, wSorted3, asTS, wAll, wAny, wLc, wDc, wDisp, wDispT1, wRepL, repL, keyT, keyL, wpCons, wpNil, wItems, wSl, wSlN, wPart, wNoP, wipeS, wNever, retE, wReprL, wRaise, wRaiseA, wTry, rTry, sufD, wIsX, wAct, wLam, thL, lendS, lend1, noS, sstart, rNo, wAug, -List.lookup_eq_none_iff, inD, inL, pln, dpD]
      rw [if_neg (fun z => hn (ex_str.mp z))]
      exact h
  · rw [pick_items nd tx (fun _ h => h)]
    refine .inr ⟨_, _, rfl, asP_self _, ?_⟩
    rw [merge_nil (show ((part t ns).map (·.1)).Nodup from nd.sublist ((List.filter_sublist (l := t)).map _))]
    exact q
end KM

set_option Elab.async false
set_option linter.all false
set_option maxRecDepth 100000
set_option maxHeartbeats 1000000
/-! KM: a table led by a difference -/
namespace KM
open PySem PySem.Spec PyProof.Rows L2 VD
variable {CS : CSt} {R : RZ} {O : OO} {Q : D → OO → Prop}
def lstep (y : Tab) (acc : Tab) (n : Str) : Tab := if isNonD (getT y n) then dropG acc (.inr n) else putG acc (.inr n) (getT y n)
def led (x y : Tab) : Tab := (strK (dif x y)).foldl (lstep y) x
theorem val_drop {κ ν : Type} [DecidableEq κ] {k j : κ} : ∀ {t : List (κ × ν)}, valG (dropG t k) j = if k = j then none else valG t j
  | [] => by simp [dropG, valG]
  | a :: r => by
    have ih := val_drop (k := k) (j := j) (t := r)
    unfold dropG at ih ⊢
    rw [List.filter_cons]
    by_cases h : a.1 = k
    · simp only [h, ne_eq, not_true_eq_false, decide_false, Bool.false_eq_true, if_false, valG_cons]
      rw [ih]
      by_cases hj : k = j <;> simp [hj]
    · simp only [h, ne_eq, not_false_eq_true, decide_true, if_true, valG_cons]
      rw [ih]
      by_cases hj : k = j
      · subst hj; simp [h]
      · simp [hj]
theorem val_lstep {y acc : Tab} {m n : Str} : valG (lstep y acc m) (.inr n) = if m = n then (if isNonD (getT y m) then none else some (getT y m)) else valG acc (.inr n) := by
  unfold lstep
  by_cases e : m = n
  · subst e
    by_cases h : isNonD (getT y m) = true
    · simp [h, val_drop]
    · simp [h, val_put]
  · have : (Sum.inr m : Key) ≠ .inr n := fun z => by cases z; exact e rfl
    by_cases h : isNonD (getT y m) = true
    · simp [h, val_drop, e]
    · simp [h, val_put, e]
theorem fold_led {y : Tab} {n : Str} : ∀ {ns : List Str} {acc : Tab}, valG (ns.foldl (lstep y) acc) (.inr n) = if n ∈ ns then (if isNonD (getT y n) then none else some (getT y n)) else valG acc (.inr n)
  | [], acc => by simp
  | m :: r, acc => by
    rw [List.foldl_cons, fold_led, val_lstep]
    by_cases h : n ∈ r
    · simp [h]
    · by_cases e : m = n
      · subst e; simp [h]
      · have : ¬ n = m := fun z => e z.symm
        simp [h, e, this]
/-- a table's answer, told by its get -/
theorem val_get {t : Tab} (ht : TabG t) {n : Str} : valG t (.inr n) = if isNonD (getT t n) then none else some (getT t n) := by
  unfold getT
  cases e : valG t (.inr n) with
  | none => rfl
  | some v =>
    have := value_nn (ht.vl _ (valG_mem e))
    have : isNonD v = false := by
      cases h : isNonD v with
      | false => rfl
      | true => exact absurd (isNon_iff.mp h) this
    simp [this]
theorem val_led {x y : Tab} (hx : TabG x) (hy : TabG y) {n : Str} : valG (led x y) (.inr n) = valG y (.inr n) := by
  unfold led
  rw [fold_led, val_get hy]
  by_cases h : n ∈ strK (dif x y)
  · rw [if_pos h]
  · rw [if_neg h, val_get hx]
    rw [mem_strK, val_dif] at h
    have he : eqvD (getT x n) (getT y n) = true := by
      cases e : eqvD (getT x n) (getT y n) with
      | true => rfl
      | false => rw [if_pos e] at h; exact absurd rfl h
    rw [(fl_eqv (getT_fl hx n) (getT_fl hy n)).mp he]
end KM

set_option Elab.async false
set_option linter.all false
set_option maxRecDepth 100000
set_option maxHeartbeats 1000000
/-! KM: the walk of law_led -/
namespace KM
open PySem PySem.Spec PyProof.Rows L2 VD
variable {CS : CSt} {R : RZ} {O : OO} {Q : D → OO → Prop}
theorem nodup_drop {κ ν : Type} [DecidableEq κ] {t : List (κ × ν)} (h : (t.map (·.1)).Nodup) (k : κ) : ((dropG t k).map (·.1)).Nodup := h.sublist ((List.filter_sublist (l := t)).map _)
theorem nodup_lstep {y acc : Tab} {m : Str} (h : (acc.map (·.1)).Nodup) : ((lstep y acc m).map (·.1)).Nodup := by
  unfold lstep
  split
  · exact nodup_drop h _
  · exact nodup_put h _ _
theorem nodup_led {y : Tab} : ∀ {ns : List Str} {acc : Tab}, (acc.map (·.1)).Nodup → ((ns.foldl (lstep y) acc).map (·.1)).Nodup
  | [], _, h => h
  | m :: r, acc, h => nodup_led (ns := r) (nodup_lstep h)
theorem led_nd {x y : Tab} (hx : TabG x) : ((led x y).map (·.1)).Nodup := nodup_led hx.nd
theorem dif_nd {x y : Tab} : ((dif x y).map (·.1)).Nodup := by
  unfold dif
  have : ∀ (ns : List Str) (acc : Tab), (acc.map (·.1)).Nodup → ((ns.foldl (dstep x y) acc).map (·.1)).Nodup := by
    intro ns
    induction ns with
    | nil => exact fun _ h => h
    | cons m r ih =>
      intro acc h
      refine ih _ ?_
      unfold dstep
      split
      · exact h
      · exact nodup_put h _ _
  exact this _ _ List.Pairwise.nil
theorem dif_txt {x y : Tab} : txtK (dif x y) := by
  unfold dif
  have : ∀ (ns : List Str) (acc : Tab), txtK acc → txtK (ns.foldl (dstep x y) acc) := by
    intro ns
    induction ns with
    | nil => exact fun _ h => h
    | cons m r ih =>
      intro acc h
      refine ih _ ?_
      unfold dstep
      split
      · exact h
      · exact fun kv hk => (mem_putG hk).elim (fun e => by rw [e]; exact ⟨m, rfl⟩) (h kv)
  exact this _ _ merge_nilK
theorem strK_nd : ∀ {t : Tab}, (t.map (·.1)).Nodup → (strK t).Nodup
  | [], _ => List.Pairwise.nil
  | (.inl i, v) :: r, h => strK_nd (t := r) (List.nodup_cons.mp h).2
  | (.inr n, v) :: r, h => by
    have h1 := List.nodup_cons.mp h
    refine List.nodup_cons.mpr ⟨fun z => ?_, strK_nd (t := r) h1.2⟩
    have z' : n ∈ strK r := z
    rw [mem_strK, val_keys] at z'
    exact h1.1 z'
theorem keys_strK : ∀ {t : Tab}, txtK t → (t.map fun kv => keyE kv.1) = (strK t).map D.str
  | [], _ => rfl
  | (.inl i, v) :: r, h => by
    obtain ⟨n, e⟩ := h _ List.mem_cons_self
    cases e
  | (.inr n, v) :: r, h => by
    have := keys_strK (t := r) fun kv hk => h kv (List.mem_cons_of_mem _ hk)
    rw [List.map_cons, this]
    rfl
end KM

set_option Elab.async false
set_option linter.all false
set_option maxRecDepth 100000
set_option maxHeartbeats 1000000
/-! KM: the walk of law_led -/
namespace KM
open PySem PySem.Spec PyProof.Rows L2 VD
variable {CS : CSt} {R : RZ} {O : OO} {Q : D → OO → Prop}
theorem A_law_led_ok {x y : Tab} (hx : TabG x) (hy : TabG y) (q : Q (.dic (led x y)) O) : A_law_led CS [.d (.dic x), .d (.dic (dif x y))] O Q R := by
  refine ⟨rfl, ?_⟩
  unfold W_law_led
  have sz := sizeLine_eq
  have hl : (strK (dif x y)).length ≤ 400 := by
    refine Nat.le_trans (nodup_le (strK_nd dif_nd) (m := all2 x y) fun n hn => ?_) (all2_len hx hy)
    rw [mem_strK, val_dif] at hn
    refine Classical.byContradiction fun h' => ?_
    rw [mem_all2] at h'
    simp only [not_or, Bool.not_eq_true] at h'
    have a := Option.isNone_iff_eq_none.mp (by simpa using h'.1)
    have b := Option.isNone_iff_eq_none.mp (by simpa using h'.2)
    have : eqvD (getT x n) (getT y n) = true := by simp [getT, a, b, eqvD]
    rw [this] at hn
    simp at hn
  have hx2 := hx.few
  simp only [wSeq, wOwn, wCN, wCons, wNil, wFrz, wItems, wVar, look, bvOf, sstart, List.map, List.append, List.set]
  refine ⟨x, rfl, ?_⟩
  simp only [treeC]
  refine .inr ⟨_, _, rfl, asP_self x, ?_⟩
  rw [merge_nil hx.nd]
  unfold wFor
  simp only [wiA, wVar, look, bvOf, seqI, List.set]
  show forN _ _ _ _ ((dif x y).map fun kv => keyE kv.1) _ _
  rw [keys_strK dif_txt]
  refine forN_run (fun r s => ∃ (acc : Tab) (n : Option SV), s = [some (.d (.dic x)), some (.d (.dic (dif x y))), some (.o (.dic acc)), n] ∧ acc.length + (r : List D).length ≤ 600 ∧
    ∃ ns : List Str, r = ns.map D.str ∧ ns.Nodup ∧ (∀ m ∈ ns, m ∈ strK (dif x y) ∧ valG acc (.inr m) = valG x (.inr m)) ∧ ns.foldl (lstep y) acc = led x y) trivial _ _ ?_ ?_ ?_
  · rintro d r s hsuf ⟨acc, n, rfl, hlen, ns, e, nd, hm, hfold⟩ D2 hrt hbk hnx hct
    cases ns with
    | nil => cases e
    | cons m ns =>
      simp only [List.map_cons, List.cons.injEq] at e
      obtain ⟨rfl, rfl⟩ := e
      have nd1 := List.nodup_cons.mp nd
      simp only [List.length_cons, List.length_map] at hlen
      obtain ⟨m1, m2⟩ := hm m List.mem_cons_self
      rw [mem_strK, val_dif] at m1
      have he : eqvD (getT x m) (getT y m) = false := by
        cases e : eqvD (getT x m) (getT y m) with
        | false => rfl
        | true => rw [e] at m1; simp at m1
      have hv : valG (dif x y) (.inr m) = some (.tup [getT x m, getT y m]) := by rw [val_dif, if_pos he]
      have key : ∀ n, D2.nx [some (.d (.dic x)), some (.d (.dic (dif x y))), some (.o (.dic (lstep y acc m))), n] O := fun n => by
        refine hnx _ ⟨_, _, rfl, ?_, ns, rfl, nd1.2, fun k hk => ⟨(hm k (List.mem_cons_of_mem _ hk)).1, ?_⟩, hfold⟩
        · have : (lstep y acc m).length ≤ acc.length + 1 := by
            unfold lstep
            split
            · exact Nat.le_trans (List.length_filter_le _ _) (Nat.le_succ _)
            · exact put_len
          simp only [List.length_map]
          omega
        · rw [val_lstep, if_neg (fun z : m = k => nd1.1 (z ▸ hk))]
          exact (hm k (List.mem_cons_of_mem _ hk)).2
      unfold lstep at key
      clear hnx hct hrt hbk hfold q
      cases hn : isNonD (getT y m)
      · simp [wSeq, wAsg, isD, wgName, wPar, setAll, wqD, wqO, wqNil, wDrop, wRet, wRetN, wIfS, wNext, wTst, blQ, wOp, wOpN, wUn, wFrz, treeC, wTmp, wLive, liveC, wOwn, wAnd, wOr, wNot, wIf, tAndW, tOrW, tNotW, wChain, wC, wVar, look, bvOf, wNil, wCons, wTup, wLst, allD, wNewK, wNewT, wCB, wCN, w1, w2, n1, wCall, wCallX, toSV, wIsi, isaQ, tyD, tyM, isaB, wLen, lenD, lenM, wLe, wLt, wGt, wGe, wAdd, wAddL, wAddN, wSub, wMulI, wDiv, wMod, wPow, wNeg, wInt2, wInt1, wCmpI, wAbs, wIx, ixB, ixL, ixM, ixK, wIn, wNotIn, keyD, wIsN, wNotN, isNonB, wBm, mApp, appM, mPop, popM, mCnt, mIdx, itY, wDict2, wgSub, refQ, setM, setC, wgOSub, ownQ, wOm, wOmM, tyC, oApp, oPop, oPopAt, oExt, oUpd, oIns, wExpM, wSetM, wRetM, wIxM, wDPop1, wDPop2, dpQ, wFz, fzS, wFld, wSFld, wGet2, wGet1, getQ, wEq, wNe, wEq2, wNe2, eqC2, eqB, eqC, asL, asLM, asK, asKM, asS, asT, asTM, wFor, wgTup, wgCons, wgNil, wTuple, wList, wiN, wiA, kindI, seqI, seqM, wiIt, wiItT, wiItA, dctI, dctM, wiVal, dicI, dicM, wiR1, wiR2, wiEn, wiZip, lstI, wSorted, wSorted2, wSorted3, asTS, wAll, wAny, wLc, wDc, wDisp, wDispT1, wRepL, repL, keyT, keyL, wpCons, wpNil, wItems, wSl, wSlN, wPart, wNoP, wipeS, wNever, retE, wReprL, wRaise, wRaiseA, wTry, rTry, sufD, wIsX, wAct, wLam, thL, lendS, lend1, noS, sstart, rNo, wAug, -List.lookup_eq_none_iff, hv, at1, hn] at key ⊢
        exact ⟨by omega, key _⟩
      · simp [wSeq, wAsg, isD, wgName, wPar, setAll, wqD, wqO, wqNil, wDrop, wRet, wRetN, wIfS, wNext, wTst, blQ, wOp, wOpN, wUn, wFrz, treeC, wTmp, wLive, liveC, wOwn, wAnd, wOr, wNot, wIf, tAndW, tOrW, tNotW, wChain, wC, wVar, look, bvOf, wNil, wCons, wTup, wLst, allD, wNewK, wNewT, wCB, wCN, w1, w2, n1, wCall, wCallX, toSV, wIsi, isaQ, tyD, tyM, isaB, wLen, lenD, lenM, wLe, wLt, wGt, wGe, wAdd, wAddL, wAddN, wSub, wMulI, wDiv, wMod, wPow, wNeg, wInt2, wInt1, wCmpI, wAbs, wIx, ixB, ixL, ixM, ixK, wIn, wNotIn, keyD, wIsN, wNotN, isNonB, wBm, mApp, appM, mPop, popM, mCnt, mIdx, itY, wDict2, wgSub, refQ, setM, setC, wgOSub, ownQ, wOm, wOmM, tyC, oApp, oPop, oPopAt, oExt, oUpd, oIns, wExpM, wSetM, wRetM, wIxM, wDPop1, wDPop2, dpQ, wFz, fzS, wFld, wSFld, wGet2, wGet1, getQ, wEq, wNe, wEq2, wNe2, eqC2, eqB, eqC, asL, asLM, asK, asKM, asS, asT, asTM, wFor, wgTup, wgCons, wgNil, wTuple, wList, wiN, wiA, kindI, seqI, seqM, wiIt, wiItT, wiItA, dctI, dctM, wiVal, dicI, dicM, wiR1, wiR2, wiEn, wiZip, lstI, wSorted, wSorted2, wSorted3, asTS, wAll, wAny, wLc, wDc, wDisp, wDispT1, wRepL, repL, keyT, keyL, wpCons, wpNil, wItems, wSl, wSlN, wPart, wNoP, wipeS, wNever, retE, wReprL, wRaise, wRaiseA, wTry, rTry, sufD, wIsX, wAct, wLam, thL, lendS, lend1, noS, sstart, rNo, wAug, -List.lookup_eq_none_iff, hv, at1, hn] at key ⊢
        refine ⟨?_, key _⟩
        rw [m2, val_get hx]
        have : isNonD (getT x m) = false := by
          cases h : isNonD (getT x m) with
          | false => rfl
          | true => rw [isNon_iff.mp h, isNon_iff.mp hn] at he; cases he
        simp [this]
  · rintro s ⟨acc, n, rfl, hlen, ns, e, nd, hm, hfold⟩
    cases ns with
    | cons m ns => cases e
    | nil =>
      simp at hfold
      subst hfold
      simp [wSeq, wAsg, isD, wgName, wPar, setAll, wqD, wqO, wqNil, wDrop, wRet, wRetN, wIfS, wNext, wTst, blQ, wOp, wOpN, wUn, wFrz, treeC, wTmp, wLive, liveC, wOwn, wAnd, wOr, wNot, wIf, tAndW, tOrW, tNotW, wChain, wC, wVar, look, bvOf, wNil, wCons, wTup, wLst, allD, wNewK, wNewT, wCB, wCN, w1, w2, n1, wCall, wCallX, toSV, wIsi, isaQ, tyD, tyM, isaB, wLen, lenD, lenM, wLe, wLt, wGt, wGe, wAdd, wAddL, wAddN, wSub, wMulI, wDiv, wMod, wPow, wNeg, wInt2, wInt1, wCmpI, wAbs, wIx, ixB, ixL, ixM, ixK, wIn, wNotIn, keyD, wIsN, wNotN, isNonB, isNonD, wBm, mApp, appM, mPop, popM, mCnt, mIdx, itY, wDict2, wgSub, refQ, setM, setC, wgOSub, ownQ, wOm, wOmM, tyC, oApp, oPop, oPopAt, oExt, oUpd, oIns, wExpM, wSetM, wRetM, wIxM, wDPop1, wDPop2, dpQ, wFz, fzS, wFld, wSFld, wGet2, wGet1, getQ, wEq, wNe, wEq2, wNe2, eqC2, eqB, eqC, asL, asLM, asK, asKM, asS, asT, asTM, wFor, wgTup, wgCons, wgNil, wTuple, wList, wiN, wiA, kindI, seqI, seqM, wiIt, wiItT, wiItA, dctI, dctM, wiVal, dicI, dicM, wiR1, wiR2, wiEn, wiZip, lstI, wSorted, wSorted2, wSorted3, asTS, wAll, wAny, wLc, wDc, wDisp, wDispT1, wRepL, repL, keyT, keyL, wpCons, wpNil, wItems, wSl, wSlN, wPart, wNoP, wipeS, wNever, retE, wReprL, wRaise, wRaiseA, wTry, rTry, sufD, wIsX, wAct, wLam, thL, lendS, lend1, noS, sstart, rNo, wAug, -List.lookup_eq_none_iff]
      exact q
  · exact ⟨x, _, rfl, by simp; omega, _, rfl, strK_nd dif_nd, fun m hm => ⟨hm, rfl⟩, rfl⟩
end KM

set_option Elab.async false
set_option linter.all false
set_option maxRecDepth 100000
set_option maxHeartbeats 1000000
/-! KM: what a refused call tells -/
namespace KM
open PySem PySem.Spec PyProof.Rows L2 VD
variable {CS : CSt} {R : RZ} {O : OO} {Q : D → OO → Prop}
theorem word_no {f : Addr} {T : Th} (h : ∀ (Q' : BV → OO → Prop) (R' : Nat → List (Str × D) → OO → Prop), R' 0 [] O → T O Q' R') (q : Q (.str "table") O) : W_law_word f T (retE Q) (sstart N_law_word [.d (.ref f)]) O := by
  unfold W_law_word
  simp only [wSeq, wAsg, wC, isD, wgName, sstart, List.map, List.append, List.set, wTry, wDrop, wAct, look]
  refine ⟨rfl, h _ _ ?_⟩
  show ∀ a, O a = none → _
  intro a ha
  simp [wSeq, wAsg, isD, wgName, wPar, setAll, wqD, wqO, wqNil, wDrop, wRet, wRetN, wIfS, wNext, wTst, blQ, wOp, wOpN, wUn, wFrz, treeC, wTmp, wLive, liveC, wOwn, wAnd, wOr, wNot, wIf, tAndW, tOrW, tNotW, wChain, wC, wVar, look, bvOf, wNil, wCons, wTup, wLst, allD, wNewK, wNewT, wCB, wCN, w1, w2, n1, wCall, wCallX, toSV, wIsi, isaQ, tyD, tyM, isaB, wLen, lenD, lenM, wLe, wLt, wGt, wGe, wAdd, wAddL, wAddN, wSub, wMulI, wDiv, wMod, wPow, wNeg, wInt2, wInt1, wCmpI, wAbs, wIx, ixB, ixL, ixM, ixK, wIn, wNotIn, keyD, wIsN, wNotN, isNonB, isNonD, wBm, mApp, appM, mPop, popM, mCnt, mIdx, itY, wDict2, wgSub, refQ, setM, setC, wgOSub, ownQ, wOm, wOmM, tyC, oApp, oPop, oPopAt, oExt, oUpd, oIns, wExpM, wSetM, wRetM, wIxM, wDPop1, wDPop2, dpQ, wFz, fzS, wFld, wSFld, wGet2, wGet1, getQ, wEq, wNe, wNe2, eqC2, eqB, eqC, asL, asLM, asK, asKM, asS, asT, asTM, wFor, wgTup, wgCons, wgNil, wTuple, wList, wiN, wiA, kindI, seqI, seqM, wiIt, wiItT, wiItA, dctI, dctM, wiVal, dicI, dicM, wiR1, wiR2, wiEn, wiZip, lstI, wSorted, wSorted2, wSorted3, asTS, wAll, wAny, wLc, wDc, wDisp, wDispT1, wRepL, repL, keyT, keyL, wpCons, wpNil, wItems, wSl, wSlN, wPart, wNoP, wipeS, wNever, retE, wReprL, wRaise, wRaiseA, wTry, rTry, sufD, wIsX, wAct, wLam, thL, lendS, lend1, noS, sstart, rNo, wAug, -List.lookup_eq_none_iff, isc_NoTable, isc_ValueError]
  have e1 : eqvD (.bl true) (.bl true) = true := by simp [eqvD]
  simp only [e1, if_true]
  rw [show ((1 : Nat) : Int) = 1 from rfl, eq_fl (.inr (.inl ⟨1, rfl⟩)) (.inr (.inl ⟨1, rfl⟩))]
  have e2 : eqvD (.int 1) (.int 1) = true := by simp [eqvD]
  have tv : TvD O "list" (.d (.lst [.bl true])) := by first | exact .lst rfl | exact TvD.lst (ds := [.bl true]) rfl
  simp only [e2, if_true]
  refine ⟨tv, by simp [dpD], tv, by simp [dpD], 0, ⟨trivial, rfl⟩, _, at0, q⟩
theorem lam_no {We : RT → WE} {s : SD} {Q : BV → OO → Prop} (h : ∀ (Rl : RT) (Q' : BV → OO → Prop), (∀ s', Rl 0 [] s' O) → We Rl (lendS s) O Q') (q : Q (.d (.str "table")) O) : wLam W_law_word N_law_word We s O Q := fun f =>
  word_no (fun Q' R' hr => h _ _ fun _ => hr) q
end KM

set_option Elab.async false
set_option linter.all false
set_option maxRecDepth 100000
set_option maxHeartbeats 1000000
/-! KM: calls that are refused -/
namespace KM
open PySem PySem.Spec PyProof.Rows L2 VD
variable {CS : CSt} {R : RZ} {O : OO} {Q : D → OO → Prop}
theorem A_law_word_of_no {x y : D} (hx : okF x) (hy : okF y) (h : (flatD x && flatD y) = false) (q : Q (.str "table") O) : A_law_word_of CS [.d x, .d y] O Q R := by
  refine ⟨rfl, ?_⟩
  unfold W_law_word_of
  show wLam _ _ _ _ _ _
  refine lam_no (fun Rl Q' hr => ?_) q
  simp only [wCallX, wCons, wNil, wVar, sstart, List.map, List.append, lendS, Option.map, lend1, look, bvOf, toSV]
  exact A_difference_no hx hy h (hr _)
end KM

set_option Elab.async false
set_option linter.all false
set_option maxRecDepth 100000
set_option maxHeartbeats 1000000
/-! KM: things that are no tables -/
namespace KM
open PySem PySem.Spec PyProof.Rows L2 VD
variable {CS : CSt} {R : RZ} {O : OO} {Q : D → OO → Prop}
def noT (d : D) : Prop := okF d ∧ flatD d = false
theorem okF_tab {t : Tab} (h1 : t.length ≤ 1000) (h2 : ∀ kv ∈ t, okV (keyE kv.1) ∧ okV kv.2) : okF (.dic t) := ⟨h1, h2⟩
theorem nt_tup {ds : List D} : noT (.tup ds) := ⟨rfl, rfl⟩
theorem nt_lst {ds : List D} : noT (.lst ds) := ⟨rfl, rfl⟩
theorem okV_str {x : Str} (h : x.length ≤ 1000) : okV (.str x) := ⟨rfl, fun y e => by cases e; exact h⟩
theorem okV_key {x : Str} (h : x.length ≤ 1000) : okV (keyE (.inr x)) := okV_str h
theorem okV_int {i : Int} : okV (.int i) := ⟨rfl, fun y e => by cases e⟩
theorem okV_keyi {i : Int} : okV (keyE (.inl i)) := okV_int
theorem okV_non : okV .non := ⟨rfl, fun y e => by cases e⟩
theorem okV_bl {b} : okV (.bl b) := ⟨rfl, fun y e => by cases e⟩
theorem okV_tup {b} : okV (.tup b) := ⟨rfl, fun y e => by cases e⟩
theorem okV_lst {b} : okV (.lst b) := ⟨rfl, fun y e => by cases e⟩
theorem okV_dic {b} : okV (.dic b) := ⟨rfl, fun y e => by cases e⟩
theorem nt_one {k : Key} {v : D} (hk : okV (keyE k)) (hv : okV v) (h : flatD (.dic [(k, v)]) = false) : noT (.dic [(k, v)]) :=
  ⟨okF_tab (by simp) (fun kv hkv => by simp at hkv; subst hkv; exact ⟨hk, hv⟩), h⟩
def noSome : List D := [.non, .int 0, .lst [], .tup [], .str "a", .dic [(.inr "A", .int 1)], .dic [(.inr "", .int 1)], .dic [(.inr "abcdefghijklm", .int 1)], .dic [(.inl 1, .int 1)], .dic [(.inr "a", .non)], .dic [(.inr "a", .bl true)],
  .dic [(.inr "a", .tup [.int 1])], .dic [(.inr "a", .str "B")], .dic [(.inr "a", .str "abcdefghi")], .dic [(.inr "a", .int 1000001)], .dic [(.inr "a", .int (-1000001))], .dic [(.inr "a", .lst [])], .dct [([.inr "a"], .int 1)], .dic [(.inr "a", .dic [])]]
theorem noSome_ok : ∀ d ∈ noSome, noT d := by
  intro d hd
  simp only [noSome, List.mem_cons, List.not_mem_nil, or_false] at hd
  rcases hd with rfl | rfl | rfl | rfl | rfl | rfl | rfl | rfl | rfl | rfl | rfl | rfl | rfl | rfl | rfl | rfl | rfl | rfl | rfl
  · exact ⟨rfl, rfl⟩
  · exact ⟨rfl, rfl⟩
  · exact ⟨rfl, rfl⟩
  · exact ⟨rfl, rfl⟩
  · exact ⟨rfl, rfl⟩
  · exact nt_one (okV_key (by decide)) okV_int (by decide)
  · exact nt_one (okV_key (by decide)) okV_int (by decide)
  · exact nt_one (okV_key (by decide)) okV_int (by decide)
  · exact nt_one okV_keyi okV_int (by decide)
  · exact nt_one (okV_key (by decide)) okV_non (by decide)
  · exact nt_one (okV_key (by decide)) okV_bl (by decide)
  · exact nt_one (okV_key (by decide)) okV_tup (by decide)
  · exact nt_one (okV_key (by decide)) (okV_str (by decide)) (by decide)
  · exact nt_one (okV_key (by decide)) (okV_str (by decide)) (by decide)
  · exact nt_one (okV_key (by decide)) okV_int (by decide)
  · exact nt_one (okV_key (by decide)) okV_int (by decide)
  · exact nt_one (okV_key (by decide)) okV_lst (by decide)
  · exact ⟨⟨by decide, fun kv hk => by simp at hk; subst hk; exact okV_int⟩, rfl⟩
  · exact nt_one (okV_key (by decide)) okV_dic (by decide)
theorem A_law_no_table_ok (q : ∀ d, noT d → Q d O) : A_law_no_table CS [.d .tape] O Q R := by
  refine ⟨rfl, ?_⟩
  unfold W_law_no_table
  have sz := sizeLine_eq
  simp only [wSeq, wAsg, wCall, wCons, wNil, wVar, wC, look, bvOf, sstart, List.map, List.append, toSV, wFrz, wLst, allD, treeC, isD, wgName, List.set]
  refine A_law_any_ok (by decide) (by decide) fun d hd => ?_
  have h0 : noT d := by
    simp only [List.mem_cons, List.not_mem_nil, or_false] at hd
    rcases hd with rfl | rfl | rfl | rfl <;> exact ⟨rfl, rfl⟩
  unfold wFor
  simp only [wiR1, wCall, wCons, wNil, wVar, wC, look, bvOf, List.map, List.append, toSV, wFrz, wLst, allD, treeC, isD]
  refine A_law_any_ok (by decide) (by decide) fun k hk => ?_
  obtain ⟨j, rfl, hj⟩ : ∃ j : Int, k = .int j ∧ (0 ≤ j ∧ j ≤ 60) := by
    simp only [List.mem_cons, List.not_mem_nil, or_false] at hk
    rcases hk with rfl | rfl | rfl <;> exact ⟨_, rfl, by decide⟩
  refine ⟨by omega, by omega, ?_⟩
  refine forN_run (fun r s => ∃ (d : D) (n t : Option SV), s = [some (.d .tape), some (.d d), n, t] ∧ noT d) trivial _ _ ?_ ?_ ?_
  · rintro e r s hsuf ⟨d, n, t, rfl, hd⟩ D2 hrt hbk hnx hct
    simp only [wgName, wAsg, wCall, wCons, wNil, wVar, wC, look, bvOf, sstart, List.map, List.append, toSV, wFrz, wLst, wTup, allD, treeC, isD, wgName, List.set]
    refine A_law_any_ok (by simp) (by simp) fun x hx => hnx _ ⟨x, _, _, rfl, ?_⟩
    simp only [List.mem_cons, List.not_mem_nil, or_false] at hx
    rcases hx with rfl | rfl
    · exact nt_tup
    · exact nt_lst
  · rintro s ⟨d, n, t, rfl, hd⟩
    simp [wSeq, wAsg, isD, wgName, wPar, setAll, wqD, wqO, wqNil, wDrop, wRetN, wIfS, wNext, wTst, blQ, wOp, wOpN, wUn, wFrz, treeC, wTmp, wLive, liveC, wOwn, wAnd, wOr, wNot, wIf, tAndW, tOrW, tNotW, wChain, wC, wVar, look, bvOf, wNil, wCons, wTup, wLst, allD, wNewK, wNewT, wCB, wCN, w1, w2, n1, wCallX, toSV, wIsi, isaQ, tyD, tyM, isaB, wLen, lenD, lenM, wLe, wLt, wGt, wGe, wAdd, wAddL, wAddN, wSub, wMulI, wDiv, wMod, wPow, wNeg, wInt2, wInt1, wCmpI, wAbs, wIx, ixB, ixL, ixM, ixK, wIn, wNotIn, keyD, wIsN, wNotN, isNonB, isNonD, wBm, mApp, appM, mPop, popM, mCnt, mIdx, itY, wDict2, wgSub, refQ, setM, setC, wgOSub, ownQ, wOm, wOmM, tyC, oApp, oPop, oPopAt, oExt, oUpd, oIns, wExpM, wSetM, wRetM, wIxM, wDPop1, wDPop2, dpQ, wFz, fzS, wFld, wSFld, wGet2, wGet1, getQ, wEq, wNe, wEq2, wNe2, eqC2, eqB, eqC, asL, asLM, asK, asKM, asS, asT, asTM, wFor, wgTup, wgCons, wgNil, wTuple, wList, wiN, wiA, kindI, seqI, seqM, wiIt, wiItT, wiItA, dctI, dctM, wiVal, dicI, dicM, wiR1, wiR2, wiEn, wiZip, lstI, wSorted, wSorted2, wSorted3, asTS, wAll, wAny, wLc, wDc, wDisp, wDispT1, wRepL, repL, keyT, keyL, wpCons, wpNil, wItems, wSl, wSlN, wPart, wNoP, wipeS, wNever, retE, wReprL, wRaise, wRaiseA, wTry, rTry, sufD, wIsX, wAct, wLam, thL, lendS, lend1, noS, sstart, rNo, wAug, -List.lookup_eq_none_iff, keyT, keyL]
    refine ⟨by omega, by omega, by omega, ?_⟩
    simp only [wFz, look, fzS, treeC, List.set, wRet, wCall, wCons, wNil, wVar, bvOf, List.map, toSV]
    refine A_law_any_ok (by simp) (by simp) fun x hx => ?_
    refine q x ?_
    have : x ∈ noSome ∨ x = d := by
      simp only [List.mem_cons, List.not_mem_nil, or_false] at hx
      simp only [noSome, List.mem_cons, List.not_mem_nil, or_false]
      rcases hx with h | h | h | h | h | h | h | h | h | h | h | h | h | h | h | h | h | h | h | h <;> first | exact .inr h | (left; rw [h]; decide) | (left; rw [h]; simp [mergeG, putG])
    rcases this with h | rfl
    · exact noSome_ok x h
    · exact hd
  · exact ⟨d, _, _, rfl, h0⟩
end KM

set_option Elab.async false
set_option linter.all false
set_option maxRecDepth 100000
set_option maxHeartbeats 1000000
/-! KM: merged tables as maps -/
namespace KM
open PySem PySem.Spec PyProof.Rows L2 VD
theorem perm_nodup {α : Type} [DecidableEq α] : ∀ {l m : List α}, l.Nodup → m.Nodup → (∀ x, x ∈ l ↔ x ∈ m) → l.Perm m
  | [], m, _, _, h => by
    cases m with
    | nil => exact .refl _
    | cons a r => exact absurd ((h a).mpr List.mem_cons_self) List.not_mem_nil
  | a :: r, m, hl, hm, h => by
    have h1 := List.nodup_cons.mp hl
    have ha : a ∈ m := (h a).mp List.mem_cons_self
    refine (List.Perm.cons a (perm_nodup (m := m.erase a) h1.2 (hm.erase a) fun x => ?_)).trans (List.perm_cons_erase ha).symm
    rw [hm.mem_erase_iff, ← h x]
    constructor
    · intro hx
      exact ⟨fun e => h1.1 (e ▸ hx), List.mem_cons_of_mem _ hx⟩
    · rintro ⟨hne, hx⟩
      exact (List.mem_cons.mp hx).resolve_left hne
abbrev mvAt (b x y : Tab) (n : Str) : D × Bool := mv (getT b n) (getT x n) (getT y n)
def optD (d : D) : Option D := if isNonD d then none else some d
theorem fold_mrg {b x y : Tab} {n : Str} : ∀ {ns : List Str} {acc : Tab × List Str}, valG (ns.foldl (mstep b x y) acc).1 (.inr n) = if n ∈ ns ∧ isNonD (mvAt b x y n).1 = false then some (mvAt b x y n).1 else valG acc.1 (.inr n)
  | [], acc => by simp
  | m :: r, acc => by
    rw [List.foldl_cons, fold_mrg]
    have e1 : (mstep b x y acc m).1 = if isNonD (mvAt b x y m).1 = true then acc.1 else putG acc.1 (.inr m) (mvAt b x y m).1 := rfl
    rw [e1]
    by_cases hm : n ∈ r
    · cases he : isNonD (mvAt b x y n).1
      · simp [hm, he]
      · simp only [hm, he, List.mem_cons, or_true, true_and, Bool.true_eq_false, if_false]
        split
        · rfl
        · rename_i h1
          rw [val_put]
          have : (Sum.inr m : Key) ≠ .inr n := fun z => by cases z; exact h1 he
          rw [if_neg this]
    · by_cases e : m = n
      · subst e
        cases he : isNonD (mvAt b x y m).1
        · simp [hm, he, val_put]
        · simp [hm, he]
      · have e' : ¬ n = m := fun z => e z.symm
        have ek : (Sum.inr m : Key) ≠ .inr n := fun z => by cases z; exact e rfl
        simp only [hm, false_and, if_false, List.mem_cons, e', false_or]
        split
        · rfl
        · rw [val_put, if_neg ek]
theorem fold_cl {b x y : Tab} : ∀ {ns : List Str} {acc : Tab × List Str}, (ns.foldl (mstep b x y) acc).2 = acc.2 ++ ns.filter fun n => (mvAt b x y n).2
  | [], acc => by simp
  | m :: r, acc => by
    rw [List.foldl_cons, fold_cl]
    have e1 : (mstep b x y acc m).2 = if (mvAt b x y m).2 = true then acc.2 ++ [m] else acc.2 := rfl
    rw [e1]
    cases h : (mvAt b x y m).2 <;> simp [List.filter_cons, h]
theorem mrg_cl {b x y : Tab} : (mrg b x y).2 = (all3 b x y).filter fun n => (mvAt b x y n).2 := by
  unfold mrg
  rw [fold_cl]
  rfl
theorem non_all3 {b x y : Tab} {n : Str} (h : n ∉ all3 b x y) : getT b n = .non ∧ getT x n = .non ∧ getT y n = .non := by
  rw [mem_all3] at h
  simp only [not_or, Bool.not_eq_true] at h
  have a := Option.isNone_iff_eq_none.mp (by simpa using h.1)
  have b := Option.isNone_iff_eq_none.mp (by simpa using h.2.1)
  have c := Option.isNone_iff_eq_none.mp (by simpa using h.2.2)
  simp [getT, a, b, c]
theorem val_mrg {b x y : Tab} {n : Str} : valG (mrg b x y).1 (.inr n) = optD (mvAt b x y n).1 := by
  unfold mrg optD
  rw [fold_mrg]
  by_cases h : n ∈ all3 b x y
  · cases e : isNonD (mvAt b x y n).1 <;> simp [h, e, valG]
  · obtain ⟨h1, h2, h3⟩ := non_all3 h
    simp [h, mvAt, h1, h2, h3, mv, eqvD, isNonD, valG]
theorem mem_cl {b x y : Tab} {n : Str} : n ∈ (mrg b x y).2 ↔ (mvAt b x y n).2 = true := by
  rw [mrg_cl, List.mem_filter]
  constructor
  · exact fun h => h.2
  · intro h
    refine ⟨Classical.byContradiction fun z => ?_, h⟩
    obtain ⟨h1, h2, h3⟩ := non_all3 z
    simp [mvAt, h1, h2, h3, mv, eqvD] at h
theorem all3_nd {b x y : Tab} : (all3 b x y).Nodup := (isort_perm leS _).nodup_iff.mpr (strK_nd (nodup_merge (nodup_merge (nodup_merge List.Pairwise.nil))))
theorem all3_pw {b x y : Tab} : (all3 b x y).Pairwise fun a b => leS a b = true := isort_pw leS_tot leS_tr _
theorem cl_nd {b x y : Tab} : (mrg b x y).2.Nodup := by rw [mrg_cl]; exact all3_nd.sublist List.filter_sublist
theorem cl_pw {b x y : Tab} : (mrg b x y).2.Pairwise fun a b => leS a b = true := by rw [mrg_cl]; exact all3_pw.sublist List.filter_sublist
/-- lists of names in order, told by their members -/
theorem sorted_same {l m : List Str} (hl : l.Nodup) (hm : m.Nodup) (h : ∀ x, x ∈ l ↔ x ∈ m) (hp : l.Pairwise fun a b => leS a b = true) : l = sortS m :=
  isort_eq leS_tot leS_tr leS_anti (perm_nodup hl hm h) hp
theorem sorted_self {l : List Str} (hp : l.Pairwise fun a b => leS a b = true) : l = sortS l := isort_eq leS_tot leS_tr leS_anti (.refl _) hp
theorem nodup_mst {b x y : Tab} : ∀ {ns : List Str} {acc : Tab × List Str}, (acc.1.map (·.1)).Nodup → ((ns.foldl (mstep b x y) acc).1.map (·.1)).Nodup
  | [], _, h => h
  | m :: r, acc, h => by
    rw [List.foldl_cons]
    refine nodup_mst (ns := r) ?_
    have e1 : (mstep b x y acc m).1 = if isNonD (mvAt b x y m).1 = true then acc.1 else putG acc.1 (.inr m) (mvAt b x y m).1 := rfl
    rw [e1]
    split
    · exact h
    · exact nodup_put h _ _
theorem mrg_nd {b x y : Tab} : ((mrg b x y).1.map (·.1)).Nodup := nodup_mst List.Pairwise.nil
theorem txt_mst {b x y : Tab} : ∀ {ns : List Str} {acc : Tab × List Str}, txtK acc.1 → txtK (ns.foldl (mstep b x y) acc).1
  | [], _, h => h
  | m :: r, acc, h => by
    rw [List.foldl_cons]
    refine txt_mst (ns := r) ?_
    have e1 : (mstep b x y acc m).1 = if isNonD (mvAt b x y m).1 = true then acc.1 else putG acc.1 (.inr m) (mvAt b x y m).1 := rfl
    rw [e1]
    split
    · exact h
    · exact fun kv hk => (mem_putG hk).elim (fun e => by rw [e]; exact ⟨m, rfl⟩) (h kv)
theorem mrg_txt {b x y : Tab} : txtK (mrg b x y).1 := txt_mst merge_nilK
theorem fl_rf {d : D} (h : fl d) : eqvD d d = true := (fl_eqv h h).mpr rfl
/-- values are flat -/
def flK (t : Tab) : Prop := ∀ kv ∈ t, fl kv.2
theorem TabG.flk {t : Tab} (h : TabG t) : flK t := fun kv hk => value_fl (h.vl kv hk)
theorem mrg_fl {b x y : Tab} (hb : TabG b) (hx : TabG x) (hy : TabG y) : flK (mrg b x y).1 := fun kv hk => by
  obtain ⟨n, e⟩ := mrg_txt kv hk
  have hv := val_some mrg_nd (show (kv.1, kv.2) ∈ (mrg b x y).1 from hk)
  rw [e, val_mrg, optD] at hv
  split at hv
  · cases hv
  · rw [← Option.some.inj hv]; exact mv_fl (getT_fl hx n) (getT_fl hy n)
theorem fl_same {s t : Tab} (ns : (s.map (·.1)).Nodup) (nt : (t.map (·.1)).Nodup) (xs : txtK s) (xt : txtK t) (fs : flK s) (h : ∀ n, valG s (.inr n) = valG t (.inr n)) : eqvD (.dic s) (.dic t) = true := by
  refine eqv_same ns nt (fun kv hk => fl_rf (fs kv hk)) fun k => ?_
  cases k with
  | inr n => exact h n
  | inl i =>
    have no : ∀ {t : Tab}, txtK t → valG t (.inl i) = none := fun {t} ht => by
      cases e : valG t (.inl i) with
      | none => rfl
      | some v =>
        obtain ⟨n, e⟩ := ht _ (valG_mem e)
        cases e
    rw [no xs, no xt]
theorem fl_cmpK {s t : Tab} (fs : flK s) (ft : flK t) : cmpD (.dic s) (.dic t) = true := by
  show cmpK s t = true
  have go : ∀ s : Tab, flK s → cmpK s t = true := by
    intro s
    induction s with
    | nil => intro _; rfl
    | cons a r ih =>
      intro h
      obtain ⟨k, d⟩ := a
      simp only [cmpK, Bool.and_eq_true]
      refine ⟨?_, ih fun kv hk => h kv (List.mem_cons_of_mem _ hk)⟩
      cases e : valG t k with
      | none => rfl
      | some v => exact fl_cmp (h _ List.mem_cons_self) (ft _ (valG_mem e))
  exact go s fs
theorem fl_dpK {s : Tab} (fs : flK s) : dpD (.dic s) ≤ 1 := by
  have go : ∀ s : Tab, flK s → dpK s = 0 := by
    intro s
    induction s with
    | nil => intro _; rfl
    | cons a r ih =>
      intro h
      obtain ⟨k, d⟩ := a
      simp only [dpK, fl_dp (h _ List.mem_cons_self), ih fun kv hk => h kv (List.mem_cons_of_mem _ hk)]
      rfl
  simp [dpD, go s fs]
/-! ### parts -/
theorem val_part {t : Tab} {ns : List Str} {n : Str} : valG (part t ns) (.inr n) = if n ∈ ns then valG t (.inr n) else none := by
  induction t with
  | nil => simp [part, valG]
  | cons a r ih =>
    obtain ⟨k, v⟩ := a
    unfold part at ih ⊢
    rw [List.filter_cons]
    cases k with
    | inl i =>
      simp only [Bool.false_eq_true, if_false]
      rw [ih]
      simp [valG_cons]
    | inr m =>
      by_cases hm : m ∈ ns
      · simp only [hm, decide_true, if_true, valG_cons]
        rw [ih]
        by_cases e : m = n
        · subst e; simp [hm]
        · have : (Sum.inr m : Key) ≠ .inr n := fun z => by cases z; exact e rfl
          simp [this]
      · simp only [hm, decide_false, Bool.false_eq_true, if_false]
        rw [ih, valG_cons]
        by_cases e : m = n
        · subst e; simp [hm]
        · have : (Sum.inr m : Key) ≠ .inr n := fun z => by cases z; exact e rfl
          simp [this]
theorem part_sub {t : Tab} {ns : List Str} : ∀ kv ∈ part t ns, kv ∈ t := fun kv h => (List.mem_filter.mp h).1
theorem part_nd {t : Tab} {ns : List Str} (h : (t.map (·.1)).Nodup) : ((part t ns).map (·.1)).Nodup := h.sublist ((List.filter_sublist (l := t)).map _)
theorem part_txt {t : Tab} {ns : List Str} (h : txtK t) : txtK (part t ns) := fun kv hk => h kv (part_sub kv hk)
theorem part_fl {t : Tab} {ns : List Str} (h : flK t) : flK (part t ns) := fun kv hk => h kv (part_sub kv hk)
theorem part_G {t : Tab} {ns : List Str} (h : TabG t) : TabG (part t ns) :=
  ⟨part_nd h.nd, Nat.le_trans (List.length_filter_le _ _) h.few, fun kv hk => h.nm kv (part_sub kv hk), fun kv hk => h.vl kv (part_sub kv hk)⟩
theorem get_part {t : Tab} {ns : List Str} {n : Str} : getT (part t ns) n = if n ∈ ns then getT t n else .non := by
  unfold getT
  rw [val_part]
  split <;> rfl
/-! ### the facts -/
theorem eqv_comm {x y : D} (hx : fl x) (hy : fl y) : eqvD x y = eqvD y x := by
  rw [Bool.eq_iff_iff, fl_eqv hx hy, fl_eqv hy hx]
  exact eq_comm
theorem mv_cl {o x y : D} (ho : fl o) (hx : fl x) (hy : fl y) : (mv o x y).2 = (mv o y x).2 := by
  rw [(mv_alt ho hx hy).2, (mv_alt ho hy hx).2, eqv_comm hx hy, Bool.and_assoc, Bool.and_assoc, Bool.and_comm (!eqvD x o)]
theorem mv_sym {o x y : D} (ho : fl o) (hx : fl x) (hy : fl y) (h : (mv o x y).2 = false) : (mv o x y).1 = (mv o y x).1 := by
  rw [(mv_alt ho hx hy).2] at h
  rw [(mv_alt ho hx hy).1, (mv_alt ho hy hx).1]
  cases h1 : eqvD x y with
  | true =>
    have := (fl_eqv hx hy).mp h1
    subst this
    rfl
  | false =>
    cases h2 : eqvD x o <;> cases h3 : eqvD y o <;> simp [h1, h2, h3] at h ⊢
    exact absurd ((fl_eqv hx hy).mpr (((fl_eqv hx ho).mp h2).trans ((fl_eqv hy ho).mp h3).symm)) (by rw [h1]; decide)
theorem cl_sym {b x y : Tab} (hb : TabG b) (hx : TabG x) (hy : TabG y) : (mrg b y x).2 = (mrg b x y).2 := by
  rw [sorted_self (cl_pw (b := b) (x := x) (y := y))]
  refine sorted_same cl_nd cl_nd (fun n => ?_) cl_pw
  rw [mem_cl, mem_cl, mvAt, mvAt, mv_cl (getT_fl hb n) (getT_fl hx n) (getT_fl hy n)]
end KM

set_option Elab.async false
set_option linter.all false
set_option maxRecDepth 100000
set_option maxHeartbeats 1000000
/-! KM: what the law compares -/
namespace KM
open PySem PySem.Spec PyProof.Rows L2 VD
/-- two things that are compared, and are the same -/
structure NE (d e : D) : Prop where
  c : eqC2 d e
  v : eqvD d e = true
theorem NE.ne {d e : D} (h : NE d e) {O : OO} {Q : BV → OO → Prop} : wNe2 (.d d) (.d e) O Q = Q (.d (.bl false)) O := by
  show (eqC2 d e ∧ Q (.d (.bl (!eqvD d e))) O) = _
  rw [h.v, eq_true h.c, true_and]
  rfl
theorem NE.eq {d e : D} (h : NE d e) {O : OO} {Q : BV → OO → Prop} : wEq2 (.d d) (.d e) O Q = Q (.d (.bl true)) O := by
  show (eqC2 d e ∧ Q (.d (.bl (eqvD d e))) O) = _
  rw [h.v, eq_true h.c, true_and]
theorem ne_fl' {d : D} (h : fl d) : NE d d := ⟨fl_eqC2 h h, fl_rf h⟩
theorem strs_eqv : ∀ l : List Str, eqvL (l.map D.str) (l.map D.str) = true
  | [] => rfl
  | a :: r => by simp [eqvL, eqvD, strs_eqv r]
theorem strs_cmp : ∀ l m : List Str, cmpL (l.map D.str) (m.map D.str) = true
  | [], _ => by simp [cmpL]
  | a :: r, [] => by simp [cmpL]
  | a :: r, b :: s => by simp [cmpL, cmpD, strs_cmp r s]
theorem strs_dp : ∀ l : List Str, dpL (l.map D.str) = 0
  | [] => rfl
  | a :: r => by simp [dpL, dpD, strs_dp r]
theorem ne_strs (l : List Str) : NE (.tup (l.map D.str)) (.tup (l.map D.str)) :=
  ⟨.inr ⟨by simp [dpD, strs_dp], rfl, rfl, strs_cmp l l⟩, strs_eqv l⟩
theorem ne_dic {s t : Tab} (fs : flK s) (ft : flK t) (h : eqvD (.dic s) (.dic t) = true) : NE (.dic s) (.dic t) :=
  ⟨.inl ⟨Nat.le_trans (fl_dpK fs) (by decide), by simp [isDicD, fl_cmpK fs ft]⟩, h⟩
theorem ne_pair {s t : Tab} {l m : List Str} (fs : flK s) (ft : flK t) (h : eqvD (.dic s) (.dic t) = true) (e : l = m) : NE (.tup [.dic s, .tup (l.map D.str)]) (.tup [.dic t, .tup (m.map D.str)]) := by
  subst e
  refine ⟨.inr ⟨?_, rfl, rfl, ?_⟩, ?_⟩
  · have := fl_dpK fs
    simp only [dpD, dpL, strs_dp] at this ⊢
    omega
  · show cmpL _ _ = true
    have c1 : cmpD (.tup (l.map D.str)) (.tup (l.map D.str)) = true := strs_cmp l l
    simp only [cmpL, fl_cmpK fs ft, c1, Bool.and_self]
  · show eqvL _ _ = true
    have c1 : eqvD (.tup (l.map D.str)) (.tup (l.map D.str)) = true := strs_eqv l
    simp only [eqvL, h, c1, Bool.and_self]
section
variable {b x y : Tab}
theorem mrg_self (hb : TabG b) (hx : TabG x) (hy : TabG y) : NE (mrgD b x y) (mrgD b x y) :=
  ne_pair (mrg_fl hb hx hy) (mrg_fl hb hx hy) (fl_same mrg_nd mrg_nd mrg_txt mrg_txt (mrg_fl hb hx hy) fun _ => rfl) rfl
theorem mrg_is (hb : TabG b) (hx : TabG x) (hy : TabG y) {t : Tab} (ht : TabG t) (h : ∀ n, mvAt b x y n = (getT t n, false)) : NE (mrgD b x y) (.tup [.dic t, .tup []]) := by
  refine ne_pair (m := []) (mrg_fl hb hx hy) ht.flk (fl_same mrg_nd ht.nd mrg_txt ht.txt (mrg_fl hb hx hy) fun n => ?_) ?_
  · rw [val_mrg, h, optD, val_get ht]
  · refine List.eq_nil_iff_forall_not_mem.mpr fun n hn => ?_
    rw [mem_cl, h] at hn
    cases hn
theorem mrg_b1 (hb : TabG b) (hx : TabG x) : NE (mrgD b x b) (.tup [.dic x, .tup []]) := mrg_is hb hx hb hx fun n => by
  simp [mvAt, mv, fl_rf (getT_fl hb n)]
theorem mrg_b2 (hb : TabG b) (hx : TabG x) : NE (mrgD b b x) (.tup [.dic x, .tup []]) := mrg_is hb hb hx hx fun n => by
  have h1 := getT_fl hb n
  have h2 := getT_fl hx n
  simp only [mvAt, mv, fl_rf h1, if_true, eqv_comm h2 h1, Bool.or_self]
  split
  · rename_i h
    rw [(fl_eqv h1 h2).mp h]
  · rfl
theorem mrg_b3 (hb : TabG b) (hx : TabG x) : NE (mrgD b x x) (.tup [.dic x, .tup []]) := mrg_is hb hx hx hx fun n => by
  simp [mvAt, mv, fl_rf (getT_fl hx n)]
theorem sure_same (hb : TabG b) (hx : TabG x) (hy : TabG y) {ns : List Str} (hs : ∀ n ∈ ns, n ∉ (mrg b x y).2) : NE (.dic (part (mrg b x y).1 ns)) (.dic (part (mrg b y x).1 ns)) := by
  refine ne_dic (part_fl (mrg_fl hb hx hy)) (part_fl (mrg_fl hb hy hx)) (fl_same (part_nd mrg_nd) (part_nd mrg_nd) (part_txt mrg_txt) (part_txt mrg_txt) (part_fl (mrg_fl hb hx hy)) fun n => ?_)
  rw [val_part, val_part]
  split
  · rename_i hn
    have := hs n hn
    rw [mem_cl, Bool.not_eq_true] at this
    rw [val_mrg, val_mrg, mvAt, mvAt, mv_sym (getT_fl hb n) (getT_fl hx n) (getT_fl hy n) this]
  · rfl
theorem dif_self (hx : TabG x) : dif x x = [] := by
  unfold dif
  have : ∀ (ns : List Str) (acc : Tab), (∀ n, eqvD (getT x n) (getT x n) = true) → ns.foldl (dstep x x) acc = acc := by
    intro ns
    induction ns with
    | nil => intro _ _; rfl
    | cons m r ih =>
      intro acc h
      rw [List.foldl_cons]
      have : dstep x x acc m = acc := by unfold dstep; rw [if_pos (h m)]
      rw [this]
      exact ih acc h
  exact this _ _ fun n => fl_rf (getT_fl hx n)
/-- a difference's values -/
def prK (t : Tab) : Prop := ∀ kv ∈ t, ∃ u v, kv.2 = .tup [u, v] ∧ fl u ∧ fl v
theorem dif_pr (hx : TabG x) (hy : TabG y) : prK (dif x y) := fun kv hk => by
  obtain ⟨n, e⟩ := dif_txt kv hk
  have hv := val_some dif_nd (show (kv.1, kv.2) ∈ dif x y from hk)
  rw [e, val_dif] at hv
  split at hv
  · exact ⟨_, _, (Option.some.inj hv).symm, getT_fl hx n, getT_fl hy n⟩
  · cases hv
theorem pr_cmp {s t : Tab} (fs : prK s) (ft : prK t) : cmpD (.dic s) (.dic t) = true := by
  show cmpK s t = true
  have go : ∀ s : Tab, prK s → cmpK s t = true := by
    intro s
    induction s with
    | nil => intro _; rfl
    | cons a r ih =>
      intro h
      obtain ⟨k, d⟩ := a
      simp only [cmpK, Bool.and_eq_true]
      refine ⟨?_, ih fun kv hk => h kv (List.mem_cons_of_mem _ hk)⟩
      cases e : valG t k with
      | none => rfl
      | some v =>
        obtain ⟨u1, v1, e1, a1, b1⟩ := h _ List.mem_cons_self
        obtain ⟨u2, v2, e2, a2, b2⟩ := ft _ (valG_mem e)
        simp only at e1 e2
        rw [e1, e2]
        simp [cmpD, cmpL, fl_cmp a1 a2, fl_cmp b1 b2]
  exact go s fs
theorem pr_dp {s : Tab} (fs : prK s) : dpD (.dic s) ≤ 2 := by
  have go : ∀ s : Tab, prK s → dpK s ≤ 1 := by
    intro s
    induction s with
    | nil => intro _; decide
    | cons a r ih =>
      intro h
      obtain ⟨k, d⟩ := a
      obtain ⟨u1, v1, e1, a1, b1⟩ := h _ List.mem_cons_self
      have := ih fun kv hk => h kv (List.mem_cons_of_mem _ hk)
      simp only at e1
      simp only [dpK, e1, dpD, dpL, fl_dp a1, fl_dp b1]
      omega
  have := go s fs
  simp only [dpD]
  omega
theorem dif_same (hx : TabG x) (hy : TabG y) : NE (.dic (dif x y)) (.dic (dif x y)) := by
  have p := dif_pr hx hy
  refine ⟨.inl ⟨Nat.le_trans (pr_dp p) (by decide), by simp [isDicD, pr_cmp p p]⟩, eqv_same dif_nd dif_nd (fun kv hk => ?_) fun _ => rfl⟩
  obtain ⟨u, v, e, a, b⟩ := p kv hk
  rw [e]
  simp [eqvD, eqvL, fl_rf a, fl_rf b]
theorem dif_nil (hx : TabG x) : NE (.dic (dif x x)) (.dic []) := by
  rw [dif_self hx]
  exact ⟨.inl ⟨by decide, rfl⟩, rfl⟩
theorem led_txt (hx : TabG x) : txtK (led x y) := by
  unfold led
  have : ∀ (ns : List Str) (acc : Tab), txtK acc → txtK (ns.foldl (lstep y) acc) := by
    intro ns
    induction ns with
    | nil => exact fun _ h => h
    | cons m r ih =>
      intro acc h
      refine ih _ ?_
      unfold lstep
      split
      · exact fun kv hk => h kv (List.mem_filter.mp hk).1
      · exact fun kv hk => (mem_putG hk).elim (fun e => by rw [e]; exact ⟨m, rfl⟩) (h kv)
  exact this _ _ hx.txt
theorem led_fl (hx : TabG x) (hy : TabG y) : flK (led x y) := fun kv hk => by
  obtain ⟨n, e⟩ := led_txt hx kv hk
  have hv := val_some (led_nd hx) (show (kv.1, kv.2) ∈ led x y from hk)
  rw [e, val_led hx hy] at hv
  exact hy.flk (.inr n, kv.2) (valG_mem hv)
theorem led_same (hx : TabG x) (hy : TabG y) : NE (.dic (led x y)) (.dic y) :=
  ne_dic (led_fl hx hy) hy.flk (fl_same (led_nd hx) hy.nd (led_txt hx) hy.txt (led_fl hx hy) fun n => val_led hx hy)
/-! ### pieces -/
theorem mv_part {lot : List Str} {n : Str} : mvAt (part b lot) (part x lot) (part y lot) n = if n ∈ lot then mvAt b x y n else (.non, false) := by
  simp only [mvAt, get_part]
  split
  · rfl
  · rfl
theorem off_ns {ns : List Str} {t : Tab} (h : TabN ns t) {n : Str} (hn : n ∉ ns) : getT t n = .non := by
  unfold getT
  cases e : valG t (.inr n) with
  | none => rfl
  | some v =>
    obtain ⟨m, hm, e2⟩ := h.on _ (valG_mem e)
    cases e2
    exact absurd hm hn
theorem mv_off {ns : List Str} (hb : TabN ns b) (hx : TabN ns x) (hy : TabN ns y) {n : Str} (hn : n ∉ ns) : mvAt b x y n = (.non, false) := by
  simp [mvAt, off_ns hb hn, off_ns hx hn, off_ns hy hn, mv, eqvD]
/-- two lots, of which each name is in just one -/
structure Lots (ns l m : List Str) : Prop where
  a : ∀ n ∈ l, n ∉ m
  b : ∀ n ∈ ns, n ∈ l ∨ n ∈ m
theorem val_merge2 {s t : Tab} {k : Key} (nd : (s.map (·.1)).Nodup) (nt : (t.map (·.1)).Nodup) : valG (mergeG s t) k = match valG t k with | some v => some v | none => valG s k := by
  induction t generalizing s with
  | nil => rfl
  | cons a r ih =>
    have h1 := List.nodup_cons.mp nt
    show valG (mergeG (putG s a.1 a.2) r) k = _
    rw [ih (nodup_put nd _ _) h1.2, val_put, valG_cons]
    by_cases e : a.1 = k
    · have : valG r k = none := by
        cases q : valG r k with
        | none => rfl
        | some v => exact absurd (List.mem_map_of_mem (f := (·.1)) (valG_mem q)) (by rw [← e]; exact h1.1)
      simp [e, this]
    · simp [e]
abbrev piece (b x y : Tab) (l : List Str) : Tab × List Str := mrg (part b l) (part x l) (part y l)
theorem pieces_tab {ns l m : List Str} (hb : TabN ns b) (hx : TabN ns x) (hy : TabN ns y) (h : Lots ns l m) : NE (.dic (mergeG [] ((piece b x y l).1 ++ (piece b x y m).1))) (.dic (mrg b x y).1) := by
  have fl1 := mrg_fl (part_G (ns := l) hb.g) (part_G (ns := l) hx.g) (part_G (ns := l) hy.g)
  have fl2 := mrg_fl (part_G (ns := m) hb.g) (part_G (ns := m) hx.g) (part_G (ns := m) hy.g)
  rw [merge_two, merge_nil mrg_nd]
  have tx : txtK (mergeG (piece b x y l).1 (piece b x y m).1) := merge_txt mrg_txt mrg_txt
  have ff : flK (mergeG (piece b x y l).1 (piece b x y m).1) := fun kv hk => (mem_merge hk).elim (fl1 kv) (fl2 kv)
  refine ne_dic ff (mrg_fl hb.g hx.g hy.g) (fl_same (nodup_merge mrg_nd) mrg_nd tx mrg_txt ff fun n => ?_)
  rw [val_merge2 mrg_nd mrg_nd, val_mrg, val_mrg, val_mrg, mv_part, mv_part]
  by_cases hn : n ∈ ns
  · by_cases hl : n ∈ l
    · simp only [hl, h.a n hl, if_true, if_false]
      rfl
    · have hm := (h.b n hn).resolve_left hl
      simp only [hl, hm, if_true, if_false]
      unfold optD
      cases isNonD (mvAt b x y n).1 <;> simp [isNonD]
  · rw [mv_off hb hx hy hn]
    simp [optD, isNonD]
theorem pieces_cl {ns l m : List Str} (hb : TabN ns b) (hx : TabN ns x) (hy : TabN ns y) (h : Lots ns l m) : sortS ((piece b x y l).2 ++ (piece b x y m).2) = (mrg b x y).2 := by
  refine (sorted_same cl_nd ?_ (fun n => ?_) cl_pw).symm
  · refine List.nodup_append.mpr ⟨cl_nd, cl_nd, fun p hp q hq e => ?_⟩
    subst e
    rw [mem_cl, mv_part] at hp hq
    by_cases hl : p ∈ l
    · rw [if_neg (h.a p hl)] at hq; cases hq
    · rw [if_neg hl] at hp; cases hp
  · rw [List.mem_append, mem_cl, mem_cl, mem_cl, mv_part, mv_part]
    by_cases hn : n ∈ ns
    · by_cases hl : n ∈ l
      · simp [hl, h.a n hl]
      · have hm := (h.b n hn).resolve_left hl
        simp [hl, hm]
    · rw [mv_off hb hx hy hn]
      simp
end
end KM

set_option Elab.async false
set_option linter.all false
set_option maxRecDepth 100000
set_option maxHeartbeats 1000000
/-! KM: the law's look at one merge -/
namespace KM
open PySem PySem.Spec PyProof.Rows L2 VD
variable {CS : CSt} {R : RZ} {O : OO} {Q : D → OO → Prop}
theorem seq_to {a b : WS} {D : DEnds} {s s' : SD} {O O' : OO} (h : ∀ D2 : DEnds, D2.rt = D.rt → D2.nx s' O' → a D2 s O) (hb : b D s' O') : wSeq a b D s O := h _ rfl hb
theorem seq_any {a b : WS} {D : DEnds} {s : SD} {O : OO} (I : SD → Prop) (h : ∀ D2 : DEnds, D2.rt = D.rt → (∀ s', I s' → D2.nx s' O) → a D2 s O) (hb : ∀ s', I s' → b D s' O) : wSeq a b D s O := h _ rfl hb
/-- small tables: repr of three -/
theorem low_small {x : Str} (h : lowS x = true) : (x.cps.toList.all fun c => decide (c < 16 ^ 8)) = true := by
  unfold lowS at h
  rw [List.all_eq_true] at h ⊢
  intro c hc
  have := h c hc
  simp only [Bool.and_eq_true, decide_eq_true_eq] at this ⊢
  omega
theorem tab_small {t : Tab} (ht : TabG t) : plK t = true ∧ wgK t ≤ 70 * t.length ∧ dpK t = 0 ∧ nlK t = true := by
  have go : ∀ t : Tab, (∀ kv ∈ t, ∃ n, kv.1 = .inr n ∧ isNameD (.str n) = true) → (∀ kv ∈ t, isValueD kv.2 = true) → plK t = true ∧ wgK t ≤ 70 * t.length ∧ dpK t = 0 ∧ nlK t = true := by
    intro t
    induction t with
    | nil => intro _ _; exact ⟨rfl, by decide, rfl, rfl⟩
    | cons a r ih =>
      intro h1 h2
      obtain ⟨k, v⟩ := a
      obtain ⟨p1, p2, p3, p4⟩ := ih (fun kv hk => h1 kv (List.mem_cons_of_mem _ hk)) fun kv hk => h2 kv (List.mem_cons_of_mem _ hk)
      obtain ⟨n, e, hn⟩ := h1 _ List.mem_cons_self
      simp only at e
      subst e
      have hv := h2 _ List.mem_cons_self
      simp only [isNameD, Bool.and_eq_true, decide_eq_true_eq] at hn
      have ln : n.cps.size ≤ 12 := hn.1.2
      have q : plD v = true ∧ wgD v ≤ 41 ∧ dpD v = 0 ∧ nlD v = true := by
        cases v with
        | int i =>
          simp only [isValueD, isWordD, withinD, Bool.false_or, Bool.and_eq_true, decide_eq_true_eq] at hv
          refine ⟨?_, by simp [wgD], rfl, rfl⟩
          simp only [plD, decide_eq_true_eq]
          omega
        | str z =>
          simp only [isValueD, isWordD, withinD, Bool.or_false, Bool.and_eq_true, decide_eq_true_eq] at hv
          have lz : z.cps.size ≤ 8 := hv.1
          exact ⟨low_small hv.2, by simp only [wgD]; omega, rfl, rfl⟩
        | _ => simp [isValueD, isWordD, withinD] at hv
      simp only [plK, wgK, dpK, nlK, List.length_cons, q.1, q.2.2.1, q.2.2.2, p1, p3, p4, low_small hn.2, Bool.and_self, true_and]
      have := q.2.1
      refine ⟨by omega, by simp⟩
  exact go t ht.nm ht.vl
theorem three_small {ns : List Str} (hn : NmG ns) {b x y : Tab} (hb : TabN ns b) (hx : TabN ns x) (hy : TabN ns y) : Small (.lst [.dic b, .dic x, .dic y]) ∧ nlL [.dic b, .dic x, .dic y] = true := by
  obtain ⟨a1, a2, a3, a4⟩ := tab_small hb.g
  obtain ⟨b1, b2, b3, b4⟩ := tab_small hx.g
  obtain ⟨c1, c2, c3, c4⟩ := tab_small hy.g
  have l1 := hb.g.few
  have l2 := hx.g.few
  have l3 := hy.g.few
  refine ⟨⟨?_, ?_, ?_⟩, ?_⟩
  · simp only [plD, plL, a1, b1, c1]; rfl
  · simp only [wgD, wgL]; omega
  · simp only [dpD, dpL, a3, b3, c3]; decide
  · simp only [nlL, nlD, a4, b4, c4]; rfl
theorem names_small {ns l : List Str} (hn : NmG ns) (hs : ∀ n ∈ l, n ∈ ns) (hl : l.length ≤ 1000) : Small (.tup (l.map D.str)) := by
  have go : ∀ l : List Str, (∀ n ∈ l, n ∈ ns) → plL (l.map D.str) = true ∧ wgL (l.map D.str) ≤ 13 * l.length ∧ dpL (l.map D.str) = 0 := by
    intro l
    induction l with
    | nil => intro _; exact ⟨rfl, by decide, rfl⟩
    | cons a r ih =>
      intro h
      obtain ⟨p1, p2, p3⟩ := ih fun n hk => h n (List.mem_cons_of_mem _ hk)
      have := hn.nm a (h a List.mem_cons_self)
      simp only [isNameD, Bool.and_eq_true, decide_eq_true_eq] at this
      have la : a.cps.size ≤ 12 := this.1.2
      simp only [List.map_cons, plL, wgL, dpL, plD, wgD, dpD, List.length_cons, p1, p3, low_small this.2]
      exact ⟨rfl, by omega, rfl⟩
  obtain ⟨p1, p2, p3⟩ := go l hs
  exact ⟨by simpa [plD] using p1, by simp only [wgD]; omega, by simp [dpD, p3]⟩
theorem cl_sub {ns : List Str} {b x y : Tab} (hb : TabN ns b) (hx : TabN ns x) (hy : TabN ns y) : ∀ n ∈ (mrg b x y).2, n ∈ ns := fun n hn => by
  refine Classical.byContradiction fun z => ?_
  rw [mem_cl, mv_off hb hx hy z] at hn
  cases hn
theorem nd_strs (l : List Str) : ndD (.tup (l.map D.str)) = true := by
  show ndL _ = true
  induction l with
  | nil => rfl
  | cons a r ih => simp [ndL, ndD, ih]
theorem repr_cl {ns l : List Str} (hn : NmG ns) (hs : ∀ n ∈ l, n ∈ ns) (hl : l.length ≤ 1000) {Q : BV → OO → Prop} (q : Q (.d (.str (reprD (.tup (l.map D.str))))) O) : wRepr2 [.d (.tup (l.map D.str))] O Q :=
  wRepr2_pl rfl (names_small hn hs hl) (.inl (nd_strs l)) q
end KM

set_option Elab.async false
set_option linter.all false
set_option maxRecDepth 100000
set_option maxHeartbeats 1000000
/-! KM: the law's look at one merge -/
namespace KM
open PySem PySem.Spec PyProof.Rows L2 VD
variable {CS : CSt} {R : RZ} {O : OO} {Q : D → OO → Prop}
abbrev st (ns : List Str) (b x y : Tab) (r : List (Option SV)) : SD := some (.d .tape) :: some (.d (.lst (ns.map D.str))) :: some (.d (.dic b)) :: some (.d (.dic x)) :: some (.d (.dic y)) :: r
theorem inL_strs {l : List Str} {n : Str} {Q : Bool → Prop} : inL (l.map D.str) (.str n) Q = Q (decide (n ∈ l)) := by
  unfold inL
  rw [any_str, eq_true (pln_strs l), eq_true (show pln (.str n) = true from rfl), eq_true (show dpD (.str n) ≤ 60 by simp [dpD])]
  simp
theorem in_strs {l : List Str} {n : Str} {Q : BV → OO → Prop} : wNotIn (.d (.str n)) (.d (.tup (l.map D.str))) O Q = Q (.d (.bl (!decide (n ∈ l)))) O := by
  show inL (l.map D.str) (.str n) (fun b => Q (.d (.bl (!b))) O) = _
  rw [inL_strs]
theorem in_strsL {l : List Str} {n : Str} {Q : BV → OO → Prop} : wNotIn (.d (.str n)) (.d (.lst (l.map D.str))) O Q = Q (.d (.bl (!decide (n ∈ l)))) O := by
  show inL (l.map D.str) (.str n) (fun b => Q (.d (.bl (!b))) O) = _
  rw [inL_strs]
theorem ixm0 {b x y : Tab} {Q : BV → OO → Prop} : wIx (.d (mrgD b x y)) (.d (.int 0)) O Q = Q (.d (.dic (mrg b x y).1)) O := ixt0
theorem ixm1 {b x y : Tab} {Q : BV → OO → Prop} : wIx (.d (mrgD b x y)) (.d (.int 1)) O Q = Q (.d (.tup ((mrg b x y).2.map D.str))) O := ixt1
theorem fm_names {p : Str → Bool} {ns : List Str} : (ns.map D.str).filterMap (fun d => match d with | .str n => if p n then some (.str n) else none | _ => none) = (ns.filter p).map D.str := by
  induction ns with
  | nil => rfl
  | cons a r ih =>
    rw [List.map_cons, List.filterMap_cons, ih, List.filter_cons]
    cases h : p a <;> simp [h]
theorem asStr_map : ∀ l : List Str, asStr (l.map D.str) = some l
  | [] => rfl
  | a :: r => by simp [asStr, asStr_map r]
theorem mrg_len {b x y : Tab} (hb : TabG b) (hx : TabG x) (hy : TabG y) : (mrg b x y).1.length ≤ 600 := by
  have := nodup_le (l := (mrg b x y).1.map (·.1)) (m := (all3 b x y).map Sum.inr) mrg_nd fun k hk => by
    obtain ⟨kv, hkv, rfl⟩ := List.mem_map.mp hk
    obtain ⟨n, e⟩ := mrg_txt kv hkv
    rw [e]
    refine List.mem_map_of_mem (Classical.byContradiction fun z => ?_)
    obtain ⟨h1, h2, h3⟩ := non_all3 z
    have hv := val_some mrg_nd (show (kv.1, kv.2) ∈ (mrg b x y).1 from hkv)
    rw [e, val_mrg] at hv
    simp [mvAt, h1, h2, h3, mv, eqvD, optD, isNonD] at hv
  have l3 := all3_len hb hx hy
  simp only [List.length_map] at this
  omega
theorem A_are_right_ok {ns : List Str} (hn : NmG ns) {b x y : Tab} (hb : TabN ns b) (hx : TabN ns x) (hy : TabN ns y) (q : Q (.bl true) O) :
    A_law_are_right CS [.d .tape, .d (.lst (ns.map D.str)), .d (.dic b), .d (.dic x), .d (.dic y)] O Q R := by
  refine ⟨rfl, ?_⟩
  unfold W_law_are_right
  have sz := sizeLine_eq
  have hf := hn.few
  obtain ⟨sm, nl⟩ := three_small hn hb hx hy
  have cs := cl_sub hb hx hy
  have csl : (mrg b x y).2.length ≤ 1000 := Nat.le_trans (nodup_le cl_nd cs) (by omega)
  have ecl := cl_sym hb.g hx.g hy.g
  show wSeq _ _ _ (st ns b x y [none, none, none, none, none, none, none, none, none, none]) _
  refine seq_to (s' := st ns b x y [some (.d (.str (reprD (.lst [.dic b, .dic x, .dic y])))), none, none, none, none, none, none, none, none, none]) (O' := O) (fun D2 hrt hnx => ?_) ?_
  · simp only [wAsg, wReprL, wCons, wNil, wVar, look, bvOf, allD]
    exact reprL_pl sm nl hnx
  generalize hk : reprD (.lst [.dic b, .dic x, .dic y]) = kept
  refine seq_to (s' := st ns b x y [some (.d (.str kept)), some (.d (mrgD b x y)), some (.d (mrgD b y x)), none, none, none, none, none, none, none]) (O' := O) (fun D2 hrt hnx => ?_) ?_
  · simp only [wAsg, wTup, wCallX, wCons, wNil, wVar, look, bvOf, List.map, toSV]
    refine A_merged_ok hb.g hx.g hy.g ?_
    refine A_merged_ok hb.g hy.g hx.g ?_
    simp only [allD, isD]
    exact ⟨rfl, hnx⟩
  refine seq_to (s' := st ns b x y [some (.d (.str kept)), some (.d (mrgD b x y)), some (.d (mrgD b y x)), some (.d (mrgD b x y)), none, none, none, none, none, none]) (O' := O) (fun D2 hrt hnx => ?_) ?_
  · simp only [wAsg, wCall, wCons, wNil, wVar, look, bvOf, List.map, toSV]
    exact A_law_merged_ok hb.g hx.g hy.g hnx
  refine seq_to (s' := st ns b x y [some (.d (.str kept)), some (.d (mrgD b x y)), some (.d (mrgD b y x)), some (.d (mrgD b x y)), none, none, none, none, none, none]) (O' := O) (fun D2 hrt hnx => ?_) ?_
  · simp only [wIfS, tOrW, wTst, wOp, wCB, wCall, wCons, wNil, wVar, look, bvOf, List.map, toSV, wC]
    rw [(mrg_self hb.g hx.g hy.g).ne]
    simp only [blQ, Bool.false_eq_true, if_false]
    simp only [ixm1]
    refine repr_cl hn cs csl (repr_cl hn cs csl ?_)
    rw [(ne_fl' (.inr (.inr ⟨_, rfl⟩))).ne]
    simp only [blQ, Bool.false_eq_true, if_false]
    refine A_law_merged_ok hb.g hy.g hx.g ?_
    rw [(mrg_self hb.g hy.g hx.g).ne]
    simp only [blQ, Bool.false_eq_true, if_false, ecl]
    rw [(ne_strs _).ne]
    simp only [blQ, Bool.false_eq_true, if_false]
    exact hnx
  -- names that do not clash
  generalize hsure : ns.filter (fun n => !decide (n ∈ (mrg b x y).2)) = sure
  have hs1 : ∀ n ∈ sure, n ∉ (mrg b x y).2 := fun n h => by
    rw [← hsure, List.mem_filter] at h
    simpa using h.2
  have hs2 : sure.length ≤ 6 := by rw [← hsure]; exact Nat.le_trans (List.length_filter_le _ _) hf
  refine seq_to (s' := st ns b x y [some (.d (.str kept)), some (.d (mrgD b x y)), some (.d (mrgD b y x)), some (.d (mrgD b x y)), some (.o (.lst (sure.map D.str))), none, none, none, none, none]) (O' := O) (fun D2 hrt hnx => ?_) ?_
  · unfold wOwn wLc
    simp only [wiA, wVar, look, bvOf, seqI]
    refine lcN_run (f := fun d => match d with | .str n => if (!decide (n ∈ (mrg b x y).2)) then some (.str n) else none | _ => none) trivial _ _ (fun d hd Ky Kn h => ?_) (by simp; omega) ?_
    · obtain ⟨n, _, rfl⟩ := List.mem_map.mp hd
      simp only [wgName, wipeS, List.foldr, List.set, wTst, wOp, wVar, look, bvOf, wC, ixm1, in_strs, blQ]
      simp only at h
      cases hq : (!decide (n ∈ (mrg b x y).2)) <;> simp only [hq, if_true, Bool.false_eq_true, if_false, isD] at h ⊢ <;> exact h
    · simp only [fm_names, hsure, List.nil_append]
      exact hnx
  simp only [wFz, look, fzS, treeC, List.set]
  refine seq_to (s' := st ns b x y [some (.d (.str kept)), some (.d (mrgD b x y)), some (.d (mrgD b y x)), some (.d (mrgD b x y)), some (.d (.lst (sure.map D.str))), none, none, none, none, none]) (O' := O) (fun D2 hrt hnx => ?_) ?_
  · simp only [wIfS, tOrW, wTst, wOp, wCB, wCall, wCons, wNil, wVar, look, bvOf, List.map, toSV, wC, ixm0]
    refine A_law_part_ok mrg_nd mrg_txt (Nat.le_trans (mrg_len hb.g hx.g hy.g) (by decide)) ?_
    refine A_law_part_ok mrg_nd mrg_txt (Nat.le_trans (mrg_len hb.g hy.g hx.g) (by decide)) ?_
    rw [(sure_same hb.g hx.g hy.g hs1).ne]
    simp only [blQ, Bool.false_eq_true, if_false]
    exact hnx
  refine seq_to (s' := st ns b x y [some (.d (.str kept)), some (.d (mrgD b x y)), some (.d (mrgD b y x)), some (.d (mrgD b x y)), some (.d (.lst (sure.map D.str))), none, none, none, none, none]) (O' := O) (fun D2 hrt hnx => ?_) ?_
  · simp only [wIfS, tOrW, wTst, wOp, wCB, wCall, wCallX, wCons, wNil, wVar, look, bvOf, List.map, toSV, wC]
    refine A_difference_ok hx.g hy.g (A_law_unlike_ok hx.g hy.g ?_)
    rw [(dif_same hx.g hy.g).ne]
    simp only [blQ, Bool.false_eq_true, if_false]
    refine A_difference_ok hx.g hy.g (A_law_led_ok hx.g hy.g ?_)
    rw [(led_same hx.g hy.g).ne]
    simp only [blQ, Bool.false_eq_true, if_false]
    exact hnx
  refine seq_to (s' := st ns b x y [some (.d (.str kept)), some (.d (mrgD b x y)), some (.d (mrgD b y x)), some (.d (mrgD b x y)), some (.d (.lst (sure.map D.str))), none, none, none, none, none]) (O' := O) (fun D2 hrt hnx => ?_) ?_
  · simp only [wIfS, tOrW, wTst, wOp, wCB, wCall, wCallX, wCons, wNil, wVar, look, bvOf, List.map, toSV, wC, wTup, allD, wFrz, wNewK, treeC]
    refine A_difference_ok hx.g hx.g ?_
    rw [(dif_nil hx.g).ne]
    simp only [blQ, Bool.false_eq_true, if_false]
    refine A_merged_ok hb.g hx.g hb.g ?_
    rw [(mrg_b1 hb.g hx.g).ne]
    simp only [blQ, Bool.false_eq_true, if_false]
    refine A_merged_ok hb.g hb.g hx.g ?_
    rw [(mrg_b2 hb.g hx.g).ne]
    simp only [blQ, Bool.false_eq_true, if_false]
    exact hnx
  refine seq_to (s' := st ns b x y [some (.d (.str kept)), some (.d (mrgD b x y)), some (.d (mrgD b y x)), some (.d (mrgD b x y)), some (.d (.lst (sure.map D.str))), none, none, none, none, none]) (O' := O) (fun D2 hrt hnx => ?_) ?_
  · simp only [wIfS, tOrW, wTst, wOp, wCB, wCall, wCallX, wCons, wNil, wVar, look, bvOf, List.map, toSV, wC, wTup, allD, wFrz, wNewK, treeC]
    refine A_merged_ok hb.g hx.g hx.g ?_
    rw [(mrg_b3 hb.g hx.g).ne]
    simp only [blQ, Bool.false_eq_true, if_false]
    exact hnx
  -- a drawn lot of the names
  refine seq_any (fun s' => ∃ lot : List Str, (∀ n ∈ lot, n ∈ ns) ∧ lot.length ≤ 6 ∧ s' = st ns b x y [some (.d (.str kept)), some (.d (mrgD b x y)), some (.d (mrgD b y x)), some (.d (mrgD b x y)), some (.d (.lst (sure.map D.str))), none, some (.d (.lst (lot.map D.str))), none, none, none]) (fun D2 hrt hnx => ?_) ?_
  · unfold wAsg wFrz wLc
    simp only [wiA, wVar, look, bvOf, seqI]
    have go : ∀ (ms acc : List Str), (∀ n ∈ ms, n ∈ ns) → (∀ n ∈ acc, n ∈ ns) → acc.length + ms.length ≤ 6 → lcN (wgName 10) (wTst (wOp wEq2 (wCall (A_law_pick CS) (wCons (wVar 0) (wCons (wC (.int 2)) wNil))) (wC (.int 0)))) (wVar 10) (fun _ => True)
        (wipeS (st ns b x y [some (.d (.str kept)), some (.d (mrgD b x y)), some (.d (mrgD b y x)), some (.d (mrgD b x y)), some (.d (.lst (sure.map D.str))), none, none, none, none, none]) [10])
        (fun acc O1 => isD (.d (treeC (.lst acc))) fun d => wgName 11 d (st ns b x y [some (.d (.str kept)), some (.d (mrgD b x y)), some (.d (mrgD b y x)), some (.d (mrgD b x y)), some (.d (.lst (sure.map D.str))), none, none, none, none, none]) O1 D2.nx) (ms.map D.str) (acc.map D.str) O := by
      intro ms
      induction ms with
      | nil => exact fun acc _ h1 h2 => ⟨trivial, hnx _ ⟨acc, h1, by simpa using h2, rfl⟩⟩
      | cons m r ih =>
        intro acc h0 h1 h2
        have hr := fun n hk => h0 n (List.mem_cons_of_mem _ hk)
        simp only [List.length_cons] at h2
        refine ⟨trivial, ?_⟩
        simp only [wgName, wipeS, List.foldr, List.set, wTst, wOp, wCall, wCons, wNil, wVar, look, bvOf, List.map, toSV, wC]
        refine ⟨2, rfl, by decide, by decide, fun k k0 k1 => ?_⟩
        dsimp only
        rw [eq_fl (.inr (.inl ⟨_, rfl⟩)) (.inr (.inl ⟨_, rfl⟩))]
        simp only [blQ]
        split
        · refine ⟨by rw [List.length_map]; omega, ?_⟩
          have := ih (acc ++ [m]) hr (fun n hk => (List.mem_append.mp hk).elim (h1 n) fun z => by rw [List.mem_singleton.mp z]; exact h0 m List.mem_cons_self) (by simp; omega)
          rw [List.map_append] at this
          exact this
        · exact ih acc hr h1 (by omega)
    exact go ns [] (fun _ h => h) (fun _ h => absurd h List.not_mem_nil) (by simpa using hf)
  rintro s' ⟨lot, hlot, hll, rfl⟩
  generalize hrest : ns.filter (fun n => !decide (n ∈ lot)) = rest
  have hr2 : rest.length ≤ 6 := by rw [← hrest]; exact Nat.le_trans (List.length_filter_le _ _) hf
  have hL : Lots ns lot rest := ⟨fun n h z => by
      rw [← hrest, List.mem_filter] at z
      simp [h] at z, fun n h => by
      by_cases hq : n ∈ lot
      · exact .inl hq
      · right
        rw [← hrest, List.mem_filter]
        exact ⟨h, by simpa using hq⟩⟩
  refine seq_to (s' := st ns b x y [some (.d (.str kept)), some (.d (mrgD b x y)), some (.d (mrgD b y x)), some (.d (mrgD b x y)), some (.d (.lst (sure.map D.str))), none, some (.d (.lst (lot.map D.str))), some (.o (.lst (rest.map D.str))), none, none]) (O' := O) (fun D2 hrt hnx => ?_) ?_
  · unfold wOwn wLc
    simp only [wiA, wVar, look, bvOf, seqI]
    refine lcN_run (f := fun d => match d with | .str n => if (!decide (n ∈ lot)) then some (.str n) else none | _ => none) trivial _ _ (fun d hd Ky Kn h => ?_) (by simp; omega) ?_
    · obtain ⟨n, _, rfl⟩ := List.mem_map.mp hd
      simp only [wgName, wipeS, List.foldr, List.set, wTst, wOp, wVar, look, bvOf, wC, in_strsL, blQ]
      simp only at h
      cases hq : (!decide (n ∈ lot)) <;> simp only [hq, if_true, Bool.false_eq_true, if_false, isD] at h ⊢ <;> exact h
    · simp only [fm_names, hrest, List.nil_append]
      exact hnx
  simp only [wFz, look, fzS, treeC, List.set]
  have Gp : ∀ l : List Str, TabG (part b l) ∧ TabG (part x l) ∧ TabG (part y l) := fun l => ⟨part_G hb.g, part_G hx.g, part_G hy.g⟩
  refine seq_to (s' := st ns b x y [some (.d (.str kept)), some (.d (mrgD b x y)), some (.d (mrgD b y x)), some (.d (mrgD b x y)), some (.d (.lst (sure.map D.str))), none, some (.d (.lst (lot.map D.str))), some (.d (.lst (rest.map D.str))),
      some (.o (.lst [mrgD (part b lot) (part x lot) (part y lot), mrgD (part b rest) (part x rest) (part y rest)])), none]) (O' := O) (fun D2 hrt hnx => ?_) ?_
  · unfold wOwn wLc
    have few : ∀ {t : Tab}, TabG t → t.length ≤ 1000 := fun h => Nat.le_trans h.few (by decide)
    simp only [wiN, wTup, wCons, wNil, wVar, look, bvOf, allD]
    refine ⟨rfl, trivial, ?_⟩
    simp only [wgName, wipeS, List.foldr, List.set, wCall, wCons, wNil, wVar, look, bvOf, List.map, toSV, if_true]
    refine A_law_part_ok hb.g.nd hb.g.txt (few hb.g) (A_law_part_ok hx.g.nd hx.g.txt (few hx.g) (A_law_part_ok hy.g.nd hy.g.txt (few hy.g) ?_))
    refine A_merged_ok (Gp lot).1 (Gp lot).2.1 (Gp lot).2.2 ⟨by simp; omega, trivial, ?_⟩
    simp only [wgName, wipeS, List.foldr, List.set, wCall, wCons, wNil, wVar, look, bvOf, List.map, toSV, if_true]
    refine A_law_part_ok hb.g.nd hb.g.txt (few hb.g) (A_law_part_ok hx.g.nd hx.g.txt (few hx.g) (A_law_part_ok hy.g.nd hy.g.txt (few hy.g) ?_))
    exact A_merged_ok (Gp rest).1 (Gp rest).2.1 (Gp rest).2.2 ⟨by simp; omega, trivial, hnx⟩
  have m1 := mrg_len (Gp lot).1 (Gp lot).2.1 (Gp lot).2.2
  have m2 := mrg_len (Gp rest).1 (Gp rest).2.1 (Gp rest).2.2
  refine seq_to (s' := st ns b x y [some (.d (.str kept)), some (.d (mrgD b x y)), some (.d (mrgD b y x)), some (.d (mrgD b x y)), some (.d (.lst (sure.map D.str))), none, some (.d (.lst (lot.map D.str))), some (.d (.lst (rest.map D.str))),
      some (.o (.lst [mrgD (part b lot) (part x lot) (part y lot), mrgD (part b rest) (part x rest) (part y rest)])), none]) (O' := O) (fun D2 hrt hnx => ?_) ?_
  · simp only [wIfS, wTst, wOp, wFrz, wCN, wCons, wNil, wOpN, wItems, wVar, look, bvOf, wC]
    simp [wIx, ixB, ixL, isD, at0, at1, asK, treeC, wAddN, asL, mrgD]
    have eP : asP (itemsD (mrg (part b lot) (part x lot) (part y lot)).1 ++ itemsD (mrg (part b rest) (part x rest) (part y rest)).1) = some ((mrg (part b lot) (part x lot) (part y lot)).1 ++ (mrg (part b rest) (part x rest) (part y rest)).1) := by
      have := asP_items (t := (mrg (part b lot) (part x lot) (part y lot)).1) (asP_items (t := (mrg (part b rest) (part x rest) (part y rest)).1) (u := []) (ds := []) rfl)
      simpa using this
    refine ⟨by simp [itemsD]; omega, .inr ⟨_, _, rfl, eP, ?_⟩⟩
    dsimp only
    rw [(pieces_tab hb hx hy hL).ne]
    exact hnx
  simp only [wRet, wAnd, wOp, wCB, wFrz, wCN, wCons, wNil, wVar, look, bvOf, wC]
  simp [wIx, ixB, ixL, isD, at0, at1, treeC, mrgD]
  have c1 : (mrg (part b lot) (part x lot) (part y lot)).2.length ≤ 600 := by
    rw [mrg_cl]; exact Nat.le_trans (List.length_filter_le _ _) (all3_len (Gp lot).1 (Gp lot).2.1 (Gp lot).2.2)
  have c2 : (mrg (part b rest) (part x rest) (part y rest)).2.length ≤ 600 := by
    rw [mrg_cl]; exact Nat.le_trans (List.length_filter_le _ _) (all3_len (Gp rest).1 (Gp rest).2.1 (Gp rest).2.2)
  refine ⟨by simp; omega, .inr ⟨(mrg (part b lot) (part x lot) (part y lot)).2 ++ (mrg (part b rest) (part x rest) (part y rest)).2, by rw [← List.map_append]; exact asStr_map _, ?_⟩⟩
  rw [pieces_cl hb hx hy hL]
  refine ⟨_, rfl, ?_⟩
  dsimp only
  rw [(ne_strs _).eq]
  simp only [blQ, if_true, wReprL, wCons, wNil, wVar, look, bvOf, allD]
  refine reprL_pl sm nl ?_
  rw [hk, (ne_fl' (.inr (.inr ⟨_, rfl⟩))).eq]
  exact q
end KM

set_option Elab.async false
set_option linter.all false
set_option maxRecDepth 100000
set_option maxHeartbeats 1000000
/-! KM: the law's look at the bounds -/
namespace KM
open PySem PySem.Spec PyProof.Rows L2 VD
def tens : List Nat := [97, 98, 99, 100, 101, 102, 103, 104, 105, 106]
def twenty : List Nat := tens ++ [107, 108, 109, 110, 111, 112, 113, 114, 115, 116]
def stepI (c : Nat) (acc : Tab) (d : Nat) : Tab := putG acc (.inr ⟨#[119, c, d]⟩) (.int 2)
def stepO (acc : Tab) (c : Nat) : Tab := tens.foldl (stepI c) acc
def wideT : Tab := twenty.foldl stepO []
def moreT : Tab := mergeG [] (wideT ++ [(.inr "onemore", .int 0)])
theorem wide_nd : (wideT.map (·.1)).Nodup := by decide +kernel
theorem wide_flat : flatD (.dic wideT) = true := by decide +kernel
theorem wide_len : wideT.length = 200 := by decide +kernel
theorem more_flat : flatD (.dic moreT) = false := by decide +kernel
end KM

set_option Elab.async false
set_option linter.all false
set_option maxRecDepth 100000
set_option maxHeartbeats 1000000
/-! KM: the law's look at the bounds -/
namespace KM
open PySem PySem.Spec PyProof.Rows L2 VD
variable {CS : CSt} {R : RZ} {O : OO} {Q : D → OO → Prop}
abbrev sg (c : Nat) : D := .str ⟨#[c]⟩
theorem twenty_is {Q : List D → (OO → Prop) → OO → Prop} : seqI true (.d (.str "abcdefghijklmnopqrst")) O Q = Q (twenty.map sg) (fun _ => True) O := rfl
theorem tens_is {Q : List D → (OO → Prop) → OO → Prop} : seqI true (.d (.str "abcdefghij")) O Q = Q (tens.map sg) (fun _ => True) O := rfl
theorem wide_G : TabG wideT := flat_good wide_flat wide_nd
def okKV : Key × D → Bool
  | (.inr n, .int _) => decide (n.length ≤ 1000)
  | _ => false
theorem okF_of {t : Tab} (hl : t.length ≤ 1000) (h : t.all okKV = true) : okF (.dic t) := okF_tab hl fun kv hk => by
  have := List.all_eq_true.mp h kv hk
  obtain ⟨k, v⟩ := kv
  cases k with
  | inl i => cases this
  | inr n =>
    cases v with
    | int i => exact ⟨okV_key (by simpa [okKV] using this), okV_int⟩
    | _ => cases this
theorem more_ok : okF (.dic moreT) := okF_of (by decide +kernel) (by decide +kernel)
theorem nilG : TabG [] := ⟨List.Pairwise.nil, by decide, fun _ h => absurd h List.not_mem_nil, fun _ h => absurd h List.not_mem_nil⟩
theorem mrg_b4 {b : Tab} (hb : TabG b) : NE (mrgD b b []) (.tup [.dic [], .tup []]) := mrg_is hb hb nilG nilG fun n => by
  have h1 := getT_fl hb n
  have e : getT [] n = .non := rfl
  simp only [mvAt, mv, e, fl_rf h1, if_true]
  split
  · rename_i h
    simp only [Bool.or_eq_true] at h
    have : getT b n = .non := h.elim (fun z => (fl_eqv h1 (.inl rfl)).mp z) fun z => ((fl_eqv (.inl rfl) h1).mp z).symm
    rw [this]
  · rfl
theorem dif_len {b : Tab} (hb : TabG b) : (dif b []).length = b.length := by
  refine same_len dif_nd hb.nd fun k => ?_
  cases k with
  | inr n =>
    rw [val_dif, val_get hb]
    have e : getT [] n = .non := rfl
    rw [e]
    have h1 := getT_fl hb n
    rcases h1 with h | ⟨i, h⟩ | ⟨i, h⟩ <;> rw [h] <;> simp [eqvD, isNonD]
  | inl i =>
    have no : ∀ {t : Tab}, txtK t → valG t (.inl i) = none := fun {t} ht => by
      cases e : valG t (.inl i) with
      | none => rfl
      | some v =>
        obtain ⟨n, e⟩ := ht _ (valG_mem e)
        cases e
    rw [no hb.txt, no dif_txt]
theorem len_dic {t : Tab} {Q : BV → OO → Prop} : wLen [.d (.dic t)] O Q = Q (.d (.int (t.length : Nat))) O := by
  simp [wLen, lenD, w1]
theorem len200 {t : Tab} (h : t.length = 200) {Q : BV → OO → Prop} : wLen [.d (.dic t)] O Q = Q (.d (.int 200)) O := by
  rw [len_dic, h]; rfl
theorem stepI_len {c d : Nat} {acc : Tab} : (stepI c acc d).length ≤ acc.length + 1 := put_len
theorem A_bounds_ok (q : Q (.bl true) O) : A_law_bounds_right CS [] O Q R := by
  refine ⟨rfl, ?_⟩
  unfold W_law_bounds_right
  have sz := sizeLine_eq
  refine seq_to (s' := [some (.o (.dic [])), none, none, none]) (O' := O) (fun D2 hrt hnx => ?_) ?_
  · simp only [wOwn, wNewK, sstart, List.map, List.append, List.set]
    exact hnx
  refine seq_any (fun s => ∃ u1 u2, s = [some (.o (.dic wideT)), u1, u2, none]) (fun D2 hrt hnx => ?_) ?_
  · unfold wFor
    simp only [wiN, wC]
    refine ⟨rfl, ?_⟩
    rw [twenty_is]
    refine forN_run (fun r s => ∃ (acc : Tab) (u1 u2 : Option SV) (cs : List Nat), s = [some (.o (.dic acc)), u1, u2, none] ∧ r = cs.map sg ∧ cs.foldl stepO acc = wideT ∧ acc.length + 10 * cs.length ≤ 200) trivial _ _ ?_ ?_ ?_
    · rintro d r s hsuf ⟨acc, u1, u2, cs, rfl, e, hf, hl⟩ D3 hrt hbk hnx3 hct
      cases cs with
      | nil => cases e
      | cons c cs =>
        simp only [List.map_cons, List.cons.injEq] at e
        obtain ⟨rfl, rfl⟩ := e
        simp only [List.length_cons] at hl
        simp only [wgName, List.set, wiN, wC]
        refine ⟨rfl, ?_⟩
        rw [tens_is]
        refine forN_run (fun r s => ∃ (acc2 : Tab) (u2 : Option SV) (ds : List Nat), s = [some (.o (.dic acc2)), some (.d (sg c)), u2, none] ∧ r = ds.map sg ∧ ds.foldl (stepI c) acc2 = stepO acc c ∧ acc2.length + ds.length ≤ acc.length + 10) trivial _ _ ?_ ?_ ?_
        · rintro d r s hsuf ⟨acc2, u2, ds, rfl, e, hf2, hl2⟩ D4 hrt hbk hnx4 hct
          cases ds with
          | nil => cases e
          | cons d ds =>
            simp only [List.map_cons, List.cons.injEq] at e
            obtain ⟨rfl, rfl⟩ := e
            simp only [List.length_cons] at hl2
            have hs := stepI_len (c := c) (d := d) (acc := acc2)
            have key := hnx4 [some (.o (.dic (stepI c acc2 d))), some (.d (sg c)), some (.d (sg d)), none] ⟨_, _, ds, rfl, rfl, hf2, by omega⟩
            clear hnx4 hct hnx3 hnx q
            simp [wSeq, wAsg, isD, wgName, wPar, setAll, wqD, wqO, wqNil, wDrop, wRet, wRetN, wIfS, wNext, wTst, blQ, wOp, wOpN, wUn, wFrz, treeC, wTmp, wLive, liveC, wOwn, wAnd, wOr, wNot, wIf, tAndW, tOrW, tNotW, wChain, wC, wVar, look, bvOf, wNil, wCons, wTup, wLst, allD, wNewK, wNewT, wCB, wCN, w1, w2, n1, wCall, wCallX, toSV, wIsi, isaQ, tyD, tyM, isaB, wLen, lenD, lenM, wLe, wLt, wGt, wGe, wAdd, wAddL, wAddN, wSub, wMulI, wDiv, wMod, wPow, wNeg, wInt2, wInt1, wCmpI, wAbs, wIx, ixB, ixL, ixM, ixK, wIn, wNotIn, keyD, wIsN, wNotN, isNonB, isNonD, wBm, mApp, appM, mPop, popM, mCnt, mIdx, itY, wDict2, wgSub, refQ, setM, setC, wgOSub, ownQ, wOm, wOmM, tyC, oApp, oPop, oPopAt, oExt, oUpd, oIns, wExpM, wSetM, wRetM, wIxM, wDPop1, wDPop2, dpQ, wFz, fzS, wFld, wSFld, wGet2, wGet1, getQ, wEq, wNe, wEq2, wNe2, eqC2, eqB, eqC, asL, asLM, asK, asKM, asS, asT, asTM, wFor, wgTup, wgCons, wgNil, wTuple, wList, wiN, wiA, kindI, seqI, seqM, wiIt, wiItT, wiItA, dctI, dctM, wiVal, dicI, dicM, wiR1, wiR2, wiEn, wiZip, lstI, wSorted, wSorted2, wSorted3, asTS, wAll, wAny, wLc, wDc, wDisp, wDispT1, wRepL, repL, keyT, keyL, wpCons, wpNil, wItems, wSl, wSlN, wPart, wNoP, wipeS, wNever, retE, wReprL, wRaise, wRaiseA, wTry, rTry, sufD, wIsX, wAct, wLam, thL, lendS, lend1, noS, sstart, rNo, wAug, -List.lookup_eq_none_iff, stepI] at key ⊢
            have e : ((Str.ofString "w" ++ ⟨#[c]⟩ : Str) ++ ⟨#[d]⟩ : Str) = ⟨#[119, c, d]⟩ := rfl
            have l1 : (Str.ofString "w").length = 1 := by decide
            have l2 : (Str.ofString "w" ++ ⟨#[c]⟩ : Str).length = 2 := rfl
            have l3 : ∀ x : Nat, (⟨#[x]⟩ : Str).length = 1 := fun _ => rfl
            rw [e, l1, l2, l3, l3]
            exact ⟨by omega, by omega, by omega, key⟩
        · rintro s ⟨acc2, u2, ds, rfl, e, hf2, hl2⟩
          cases ds with
          | cons a r => cases e
          | nil =>
            simp only [List.foldl_nil] at hf2
            simp only [List.length_nil] at hl2
            exact hnx3 _ ⟨acc2, _, _, cs, rfl, rfl, by rw [hf2]; exact hf, by omega⟩
        · exact ⟨acc, _, tens, rfl, rfl, rfl, by simp [tens]⟩
    · rintro s ⟨acc, u1, u2, cs, rfl, e, hf, hl⟩
      cases cs with
      | cons a r => cases e
      | nil =>
        simp only [List.foldl_nil] at hf
        subst hf
        exact hnx _ ⟨_, _, rfl⟩
    · exact ⟨[], _, _, twenty, rfl, rfl, rfl, by decide⟩
  rintro s ⟨u1, u2, rfl⟩
  have eP : asP (itemsD wideT ++ [.tup [.str "onemore", .int 0]]) = some (wideT ++ [(.inr "onemore", .int 0)]) := asP_items rfl
  refine seq_to (s' := [some (.o (.dic wideT)), u1, u2, some (.d (.dic moreT))]) (O' := O) (fun D2 hrt hnx => ?_) ?_
  · simp only [wAsg, wFrz, wCN, wCons, wNil, wOpN, wItems, wLst, wTup, wVar, look, bvOf, wC, allD, treeC]
    refine ⟨wideT, rfl, _, _, rfl, rfl, by simp [itemsD, wide_len]; omega, ?_⟩
    exact .inr ⟨_, _, rfl, eP, hnx⟩
  simp only [wFz, look, fzS, treeC, List.set]
  refine seq_to (s' := [some (.d (.dic wideT)), u1, u2, some (.d (.dic moreT))]) (O' := O) (fun D2 hrt hnx => ?_) ?_
  · simp only [wIfS, tOrW, wTst, wOp, wCB, wCall, wCallX, wCons, wNil, wVar, look, bvOf, List.map, toSV, wC, wTup, allD, wFrz, wNewK, treeC]
    rw [len200 wide_len, (ne_fl' (.inr (.inl ⟨_, rfl⟩))).ne]
    simp only [blQ, Bool.false_eq_true, if_false]
    refine A_merged_ok wide_G wide_G nilG ?_
    rw [(mrg_b4 wide_G).ne]
    simp only [blQ, Bool.false_eq_true, if_false]
    refine A_difference_ok wide_G nilG ?_
    rw [len200 ((dif_len wide_G).trans wide_len), (ne_fl' (.inr (.inl ⟨_, rfl⟩))).ne]
    simp only [blQ, Bool.false_eq_true, if_false]
    exact hnx
  simp only [wRet, wOp, wC]
  refine lam_no (fun Rl Q' hr => ?_) ?_
  · simp only [wCallX, wCons, wNil, wVar, sstart, List.map, List.append, lendS, Option.map, lend1, look, bvOf, toSV, wFrz, wNewK, treeC]
    exact A_difference_no more_ok nilG.okF (by rw [more_flat]; rfl) (hr _)
  · rw [(ne_fl' (.inr (.inr ⟨_, rfl⟩))).eq]
    exact q
end KM

set_option Elab.async false
set_option linter.all false
set_option maxRecDepth 100000
set_option maxHeartbeats 1000000
/-! KM: the law -/
namespace KM
open PySem PySem.Spec PyProof.Rows L2 VD
variable {CS : CSt} {O : OO}
def b0 : Tab := [(.inr "a", .int 1), (.inr "b", .int 2), (.inr "c", .int 3)]
def x0 : Tab := [(.inr "a", .int 1), (.inr "b", .int 5), (.inr "d", .int 4)]
def y0 : Tab := [(.inr "a", .int 9), (.inr "b", .int 6), (.inr "c", .int 3)]
def m0 : D := .tup [.dic [(.inr "a", .int 9), (.inr "b", .int 5), (.inr "d", .int 4)], .tup [.str "b"]]
def d0 : D := .dic [(.inr "a", .tup [.int 1, .int 9]), (.inr "b", .tup [.int 5, .int 6]), (.inr "c", .tup [.non, .int 3]), (.inr "d", .tup [.int 4, .non])]
theorem b0G : TabG b0 := flat_good (by decide +kernel) (by decide +kernel)
theorem x0G : TabG x0 := flat_good (by decide +kernel) (by decide +kernel)
theorem y0G : TabG y0 := flat_good (by decide +kernel) (by decide +kernel)
theorem mrg0 : NE (mrgD b0 x0 y0) m0 := ⟨.inr ⟨by decide +kernel, by decide +kernel, by decide +kernel, by decide +kernel⟩, by decide +kernel⟩
theorem dif0 : NE (.dic (dif x0 y0)) d0 := ⟨.inl ⟨by decide +kernel, by decide +kernel⟩, by decide +kernel⟩
def all6 : List Str := ["a", "b", "c", "dd", "zzzzzzzzzzzz", "name"]
theorem all6_G {k : Nat} : NmG (all6.take k) where
  few := by
    rw [List.length_take]
    exact Nat.min_le_right _ _
  nd := (show all6.Nodup by decide +kernel).sublist (List.take_sublist _ _)
  nm := fun n h => (show ∀ n ∈ all6, isNameD (.str n) = true by decide +kernel) n (List.mem_of_mem_take h)
theorem cut6 {i : Int} : VD.cutD (all6.map D.str) none (some i) = (all6.take (HT.sIx 6 6 (some i))).map D.str := by
  unfold VD.cutD
  rw [List.map_take]
  rfl
abbrev tblT : D := .str "table"
theorem run : W_law CS rNo (retE fun d _ => d = .bl true) ((noS N_law.length).set 1 (some (.d .tape))) (fun _ => none) := by
  unfold W_law
  have sz := sizeLine_eq
  refine seq_to (s' := [none, some (.d .tape), some (.d (.dic b0)), some (.d (.dic x0)), some (.d (.dic y0)), none, none, none, none, none]) (O' := fun _ => none) (fun D2 hrt hnx => ?_) ?_
  · simp only [wAsg, wTup, wFrz, wDisp, wpCons, wpNil, wCons, wNil, wC, isD, keyD, allD, treeC]
    refine ⟨_, rfl, _, rfl, _, rfl, _, rfl, _, rfl, _, rfl, _, rfl, _, rfl, _, rfl, ?_⟩
    exact ⟨rfl, hnx⟩
  refine seq_to (s' := [none, some (.d .tape), some (.d (.dic b0)), some (.d (.dic x0)), some (.d (.dic y0)), none, none, none, none, none]) (O' := fun _ => none) (fun D2 hrt hnx => ?_) ?_
  · simp only [wIfS, tOrW, tNotW, wTst, wOp, wCB, wCall, wCallX, wCons, wNil, wVar, look, bvOf, List.map, toSV, wC, wTup, allD, wFrz, wDisp, wpCons, wpNil, treeC, isD, keyD]
    refine A_merged_ok b0G x0G y0G ?_
    refine ⟨_, rfl, _, rfl, _, rfl, ?_⟩
    show wNe2 (.d (mrgD b0 x0 y0)) (.d m0) _ _
    rw [mrg0.ne]
    simp only [blQ, Bool.false_eq_true, if_false]
    refine A_bounds_ok ?_
    exact hnx
  refine seq_to (s' := [none, some (.d .tape), some (.d (.dic b0)), some (.d (.dic x0)), some (.d (.dic y0)), none, none, none, none, none]) (O' := fun _ => none) (fun D2 hrt hnx => ?_) ?_
  · simp only [wIfS, tOrW, tNotW, wTst, wOp, wCB, wCall, wCallX, wCons, wNil, wVar, look, bvOf, List.map, toSV, wC, wTup, allD, wFrz, wDisp, wpCons, wpNil, treeC, isD, keyD]
    refine A_difference_ok x0G y0G ?_
    refine ⟨_, rfl, _, rfl, _, rfl, _, rfl, ?_⟩
    show wNe2 (.d (.dic (dif x0 y0))) (.d d0) _ _
    rw [dif0.ne]
    simp only [blQ, Bool.false_eq_true, if_false]
    exact hnx
  refine seq_any (fun s => True) (fun D2 hrt hnx => ?_) (fun s _ => ?_)
  · unfold wFor
    simp only [wiR1, wCons, wNil, wC]
    refine ⟨by decide, by decide, ?_⟩
    refine forN_run (fun r s => ∃ s2 s3 s4 s5 s6 s7 s8 s9, s = [none, some (.d .tape), s2, s3, s4, s5, s6, s7, s8, s9]) trivial _ _ ?_ (fun s _ => hnx s trivial) ⟨_, _, _, _, _, _, _, _, rfl⟩
    rintro d r s hsuf ⟨s2, s3, s4, s5, s6, s7, s8, s9, rfl⟩ D3 hrt3 hbk3 hnx3 hct3
    simp only [wgName, List.set]
    refine seq_any (fun s => ∃ k, s = [none, some (.d .tape), s2, s3, s4, some (.d d), some (.d (.lst ((all6.take k).map D.str))), s7, s8, s9]) (fun D4 hrt4 hnx4 => ?_) ?_
    · simp only [wAsg, wSl, wFrz, wLst, wCons, wNil, wC, allD, treeC, wNoP, wPart, wOp, wCall, wVar, look, bvOf, List.map, toSV]
      refine ⟨6, rfl, by decide, by decide, fun k k0 k1 => ?_⟩
      simp only [wAdd, intQ]
      refine ⟨_, rfl, ?_⟩
      have := hnx4 _ ⟨HT.sIx 6 6 (some (1 + k)), rfl⟩
      rw [← cut6] at this
      exact this
    rintro s ⟨k, rfl⟩
    have hN := all6_G (k := k)
    generalize all6.take k = ns at hN ⊢
    refine seq_any (fun s => ∃ b, TabN ns b ∧ s = [none, some (.d .tape), some (.d (.dic b)), s3, s4, some (.d d), some (.d (.lst (ns.map D.str))), s7, s8, s9]) (fun D4 hrt4 hnx4 => ?_) ?_
    · simp only [wAsg, wCall, wCons, wNil, wVar, look, bvOf, List.map, toSV]
      exact A_law_table_ok hN fun t ht => hnx4 _ ⟨t, ht, rfl⟩
    rintro s ⟨b, hb, rfl⟩
    refine seq_any (fun s => ∃ x y, TabN ns x ∧ TabN ns y ∧ s = [none, some (.d .tape), some (.d (.dic b)), some (.d (.dic x)), some (.d (.dic y)), some (.d d), some (.d (.lst (ns.map D.str))), s7, s8, s9]) (fun D4 hrt4 hnx4 => ?_) ?_
    · simp only [wAsg, wTup, wCall, wCons, wNil, wVar, look, bvOf, List.map, toSV]
      refine A_law_turned_ok hN hb fun x hx => A_law_turned_ok hN hb fun y hy => ?_
      simp only [allD, isD]
      exact ⟨rfl, hnx4 _ ⟨x, y, hx, hy, rfl⟩⟩
    rintro s ⟨x, y0, hx, hy0, rfl⟩
    refine seq_any (fun s => ∃ y, TabN ns y ∧ s = [none, some (.d .tape), some (.d (.dic b)), some (.d (.dic x)), some (.d (.dic y)), some (.d d), some (.d (.lst (ns.map D.str))), s7, s8, s9]) (fun D4 hrt4 hnx4 => ?_) ?_
    · simp only [wIfS, wTst, wOp, wCall, wCons, wNil, wVar, wC, look, bvOf, List.map, toSV]
      refine ⟨4, rfl, by decide, by decide, fun k k0 k1 => ?_⟩
      dsimp only
      rw [eq_fl (.inr (.inl ⟨_, rfl⟩)) (.inr (.inl ⟨_, rfl⟩))]
      simp only [blQ]
      split
      · simp only [wAsg, wCall, wCons, wNil, wVar, look, bvOf, List.map, toSV]
        exact A_law_table_ok hN fun t ht => hnx4 _ ⟨t, ht, rfl⟩
      · exact hnx4 _ ⟨y0, hy0, rfl⟩
    rintro s ⟨y, hy, rfl⟩
    refine seq_to (s' := [none, some (.d .tape), some (.d (.dic b)), some (.d (.dic x)), some (.d (.dic y)), some (.d d), some (.d (.lst (ns.map D.str))), s7, s8, s9]) (O' := fun _ => none) (fun D4 hrt4 hnx4 => ?_) ?_
    · simp only [wIfS, tNotW, wTst, wCallX, wCons, wNil, wVar, look, bvOf, List.map, toSV]
      refine A_are_right_ok hN hb hx hy ?_
      exact hnx4
    refine seq_any (fun s => ∃ u v, noT u ∧ noT v ∧ s = [none, some (.d .tape), some (.d (.dic b)), some (.d (.dic x)), some (.d (.dic y)), some (.d d), some (.d (.lst (ns.map D.str))), some (.d u), some (.d v), s9]) (fun D4 hrt4 hnx4 => ?_) ?_
    · simp only [wAsg, wTup, wCall, wCons, wNil, wVar, look, bvOf, List.map, toSV]
      refine A_law_no_table_ok fun u hu => A_law_no_table_ok fun v hv => ?_
      simp only [allD, isD]
      exact ⟨rfl, hnx4 _ ⟨u, v, hu, hv, rfl⟩⟩
    rintro s ⟨u, v, ⟨hu1, hu2⟩, ⟨hv1, hv2⟩, rfl⟩
    refine seq_to (s' := [none, some (.d .tape), some (.d (.dic b)), some (.d (.dic x)), some (.d (.dic y)), some (.d d), some (.d (.lst (ns.map D.str))), some (.d u), some (.d v), some (.o (.lst [tblT, tblT]))]) (O' := fun _ => none) (fun D4 hrt4 hnx4 => ?_) ?_
    · simp only [wOwn, wLst, wCons, wNil]
      refine lam_no (fun Rl Q' hr => ?_) ?_
      · simp only [wCallX, wCons, wNil, wVar, lendS, List.map, Option.map, lend1, look, bvOf, toSV]
        exact A_difference_no hu1 hv1 (by rw [hu2]; rfl) (hr _)
      simp only [wCall, wCons, wNil, wVar, look, bvOf, List.map, toSV]
      exact A_law_word_of_no hx.g.okF hu1 (by rw [hu2, Bool.and_false]) hnx4
    have go : ∀ (l : List D) (D4 : DEnds) (We : RT → WE), l.length ≤ 10 → (∀ (Rl : RT) (Q' : BV → OO → Prop), (∀ s', Rl 0 [] s' (fun _ => none)) → We Rl [none, some (.d .tape), some (.d (.dic b)), some (.d (.dic x)), some (.d (.dic y)), some (.d d), some (.d (.lst (ns.map D.str))), some (.d u), some (.d v), some (.b (.lst l))] (fun _ => none) Q') →
        D4.nx [none, some (.d .tape), some (.d (.dic b)), some (.d (.dic x)), some (.d (.dic y)), some (.d d), some (.d (.lst (ns.map D.str))), some (.d u), some (.d v), some (.o (.lst (l ++ [tblT])))] (fun _ => none) →
        wExpM (wOm 9 "list" oApp (wCons (wLam W_law_word N_law_word We) wNil)) D4 [none, some (.d .tape), some (.d (.dic b)), some (.d (.dic x)), some (.d (.dic y)), some (.d d), some (.d (.lst (ns.map D.str))), some (.d u), some (.d v), some (.o (.lst l))] (fun _ => none) := by
      intro l D4 We hl h hnx4
      simp only [wExpM, wOm, look, ownQ, tyC]
      refine ⟨⟨trivial, (fun _ z => by cases z), (fun _ z => by cases z)⟩, ?_⟩
      simp only [wCons, wNil]
      refine lam_no (fun Rl Q' hr => h Rl Q' hr) ?_
      exact ⟨by omega, hnx4⟩
    refine seq_to (s' := [none, some (.d .tape), some (.d (.dic b)), some (.d (.dic x)), some (.d (.dic y)), some (.d d), some (.d (.lst (ns.map D.str))), some (.d u), some (.d v), some (.o (.lst [tblT, tblT, tblT]))]) (O' := fun _ => none) (fun D4 hrt4 hnx4 => ?_) ?_
    · refine go [tblT, tblT] D4 _ (by decide) (fun Rl Q' hr => ?_) hnx4
      simp only [wCallX, wCons, wNil, wVar, look, bvOf, List.map, toSV]
      exact A_merged_no hu1 hx.g.okF hy.g.okF (by rw [hu2]; rfl) (hr _)
    refine seq_to (s' := [none, some (.d .tape), some (.d (.dic b)), some (.d (.dic x)), some (.d (.dic y)), some (.d d), some (.d (.lst (ns.map D.str))), some (.d u), some (.d v), some (.o (.lst [tblT, tblT, tblT, tblT]))]) (O' := fun _ => none) (fun D4 hrt4 hnx4 => ?_) ?_
    · refine go [tblT, tblT, tblT] D4 _ (by decide) (fun Rl Q' hr => ?_) hnx4
      simp only [wCallX, wCons, wNil, wVar, look, bvOf, List.map, toSV]
      exact A_merged_no hb.g.okF hu1 hv1 (by rw [hu2, Bool.and_false]; rfl) (hr _)
    refine seq_to (s' := [none, some (.d .tape), some (.d (.dic b)), some (.d (.dic x)), some (.d (.dic y)), some (.d d), some (.d (.lst (ns.map D.str))), some (.d u), some (.d v), some (.o (.lst [tblT, tblT, tblT, tblT, tblT]))]) (O' := fun _ => none) (fun D4 hrt4 hnx4 => ?_) ?_
    · refine go [tblT, tblT, tblT, tblT] D4 _ (by decide) (fun Rl Q' hr => ?_) hnx4
      simp only [wCallX, wCons, wNil, wVar, look, bvOf, List.map, toSV]
      exact A_merged_no hb.g.okF hx.g.okF hu1 (by rw [hu2, Bool.and_false]) (hr _)
    simp only [wIfS, wTst, wOp, wVar, look, bvOf, wFrz, wOpN, wRepL, wLst, wCons, wNil, wC, allD, treeC]
    refine ⟨_, _, rfl, rfl, by decide, by decide, by rw [sz]; decide, ?_⟩
    have e : eqvD (.lst [tblT, tblT, tblT, tblT, tblT]) (.lst (repL [.str "table"] 5)) = true := by decide +kernel
    refine ⟨.inl ⟨by decide +kernel, by decide +kernel⟩, ?_⟩
    show blQ (.d (.bl (!eqvD (.lst [tblT, tblT, tblT, tblT, tblT]) (.lst (repL [.str "table"] 5))))) _
    rw [e]
    exact hnx3 _ ⟨_, _, _, _, _, _, _, _, rfl⟩
  · exact rfl
end KM

set_option Elab.async false
set_option linter.all false
set_option maxRecDepth 100000
set_option maxHeartbeats 0
/-! KM: the law's text, as it stands -/
namespace KM
open PySem PySem.Spec PyProof.Rows L2 VD
theorem loose_of {p : Program} {L : List (Str × PySem.W.WData)} {mg : Str → Option Value} {h : Heap} (x : PySem.W.XL p L mg h) {c : Str} {v : Int} (hm : (c, PySem.W.WData.int v) ∈ L) : ∃ t, mg c = some (.int v t) := by
  obtain ⟨u, hv, r⟩ := x.2.val _ hm
  cases r
  exact ⟨_, hv⟩
theorem all_mk {l : PySem.W.OpenLaw} {q : Program} {w : World} {K : PySem.W.Frag} {h : Heap} {mg : Str → Option Value} {fa C_NoTable C_TraceError tc_law_bounds_right tp_law_bounds_right tc_law_word_of tp_law_word_of tc_law tp_law f_is_integer f_is_within f_is_name f_is_word f_is_value f_is_flat_table f_check_flat f_all_names f_difference f_merged_value f_raw_merged f_merged f_law_tape f_law_pick f_law_any f_law_table f_law_turned f_law_merged f_law_word f_law_no_table f_law_unlike f_law_led f_law_part f_law_are_right f_law_bounds_right f_law_word_of f_law : Addr} (X : K.In h) (G : h.Ns mainGlobals mg) (hfa : mg "law" = some (.ref fa)) (lo_MOST_VALUE : ∃ t, mg "MOST_VALUE" = some (.int 1000000 t)) {t_MOST_NAMES t_MOST_SIGNS : Tok}
    {od_is_integer an_is_integer : Option Addr} {sl_is_integer : Array (Option Value)} {oc_is_integer kV_is_integer dc_is_integer pm_is_integer cd_is_integer ct_is_integer : Value} {od_is_within an_is_within : Option Addr} {sl_is_within : Array (Option Value)} {oc_is_within kV_is_within dc_is_within pm_is_within cd_is_within ct_is_within : Value} {od_is_name an_is_name : Option Addr} {sl_is_name : Array (Option Value)} {oc_is_name kV_is_name dc_is_name pm_is_name cd_is_name ct_is_name : Value} {od_is_word an_is_word : Option Addr} {sl_is_word : Array (Option Value)} {oc_is_word kV_is_word dc_is_word pm_is_word cd_is_word ct_is_word : Value} {od_is_value an_is_value : Option Addr} {sl_is_value : Array (Option Value)} {oc_is_value kV_is_value dc_is_value pm_is_value cd_is_value ct_is_value : Value} {od_is_flat_table an_is_flat_table : Option Addr} {sl_is_flat_table : Array (Option Value)} {oc_is_flat_table kV_is_flat_table dc_is_flat_table pm_is_flat_table cd_is_flat_table ct_is_flat_table : Value} {od_check_flat an_check_flat : Option Addr} {sl_check_flat : Array (Option Value)} {oc_check_flat kV_check_flat dc_check_flat pm_check_flat cd_check_flat ct_check_flat : Value} {od_all_names an_all_names : Option Addr} {sl_all_names : Array (Option Value)} {oc_all_names kV_all_names dc_all_names pm_all_names cd_all_names ct_all_names : Value} {od_difference an_difference : Option Addr} {sl_difference : Array (Option Value)} {oc_difference kV_difference dc_difference pm_difference cd_difference ct_difference : Value} {od_merged_value an_merged_value : Option Addr} {sl_merged_value : Array (Option Value)} {oc_merged_value kV_merged_value dc_merged_value pm_merged_value cd_merged_value ct_merged_value : Value} {od_raw_merged an_raw_merged : Option Addr} {sl_raw_merged : Array (Option Value)} {oc_raw_merged kV_raw_merged dc_raw_merged pm_raw_merged cd_raw_merged ct_raw_merged : Value} {od_merged an_merged : Option Addr} {sl_merged : Array (Option Value)} {oc_merged kV_merged dc_merged pm_merged cd_merged ct_merged : Value} {od_law_tape an_law_tape : Option Addr} {sl_law_tape : Array (Option Value)} {oc_law_tape kV_law_tape dc_law_tape pm_law_tape cd_law_tape ct_law_tape : Value} {od_law_pick an_law_pick : Option Addr} {sl_law_pick : Array (Option Value)} {oc_law_pick kV_law_pick dc_law_pick pm_law_pick cd_law_pick ct_law_pick : Value} {od_law_any an_law_any : Option Addr} {sl_law_any : Array (Option Value)} {oc_law_any kV_law_any dc_law_any pm_law_any cd_law_any ct_law_any : Value} {od_law_table an_law_table : Option Addr} {sl_law_table : Array (Option Value)} {oc_law_table kV_law_table dc_law_table pm_law_table cd_law_table ct_law_table : Value} {od_law_turned an_law_turned : Option Addr} {sl_law_turned : Array (Option Value)} {oc_law_turned kV_law_turned dc_law_turned pm_law_turned cd_law_turned ct_law_turned : Value} {od_law_merged an_law_merged : Option Addr} {sl_law_merged : Array (Option Value)} {oc_law_merged kV_law_merged dc_law_merged pm_law_merged cd_law_merged ct_law_merged : Value} {od_law_word an_law_word : Option Addr} {sl_law_word : Array (Option Value)} {oc_law_word kV_law_word dc_law_word pm_law_word cd_law_word ct_law_word : Value} {od_law_no_table an_law_no_table : Option Addr} {sl_law_no_table : Array (Option Value)} {oc_law_no_table kV_law_no_table dc_law_no_table pm_law_no_table cd_law_no_table ct_law_no_table : Value} {od_law_unlike an_law_unlike : Option Addr} {sl_law_unlike : Array (Option Value)} {oc_law_unlike kV_law_unlike dc_law_unlike pm_law_unlike cd_law_unlike ct_law_unlike : Value} {od_law_led an_law_led : Option Addr} {sl_law_led : Array (Option Value)} {oc_law_led kV_law_led dc_law_led pm_law_led cd_law_led ct_law_led : Value} {od_law_part an_law_part : Option Addr} {sl_law_part : Array (Option Value)} {oc_law_part kV_law_part dc_law_part pm_law_part cd_law_part ct_law_part : Value} {od_law_are_right an_law_are_right : Option Addr} {sl_law_are_right : Array (Option Value)} {oc_law_are_right kV_law_are_right dc_law_are_right pm_law_are_right cd_law_are_right ct_law_are_right : Value} {od_law_bounds_right an_law_bounds_right : Option Addr} {sl_law_bounds_right : Array (Option Value)} {oc_law_bounds_right kV_law_bounds_right dc_law_bounds_right pm_law_bounds_right  ct_law_bounds_right : Value} {od_law_word_of an_law_word_of : Option Addr} {sl_law_word_of : Array (Option Value)} {oc_law_word_of kV_law_word_of dc_law_word_of pm_law_word_of  ct_law_word_of : Value} {od_law an_law : Option Addr} {sl_law : Array (Option Value)} {oc_law kV_law dc_law pm_law  ct_law : Value}
        (aC_NoTable : PySem.W.nsIn K mainGlobals "NoTable" = some (some (.ref C_NoTable)))
    (aC_TraceError : PySem.W.nsIn K mainGlobals "TraceError" = some (some (.ref C_TraceError)))
    (xq_NoTable : PySem.W.excIn K C_NoTable [.type "ValueError", .type "Exception", .type "BaseException", .type "object"] "ValueError.__new__" = true)
    (xk_NoTable : PySem.W.keepIn K (.ref C_NoTable) = true)
    (xb_NoTable : PySem.W.subIn K (.ref C_NoTable) (.type "BaseException") = some true)
    (xt_NoTable : PySem.W.typeIn K (.ref C_NoTable) = some (.type "type"))
    (xg_NoTable : PySem.W.findIn K (.ref C_NoTable) "__getattribute__" = some (some (.builtin "BaseException.__getattribute__")))
    (xh_NoTable : PySem.W.findIn K (.ref C_NoTable) "__getattr__" = some none)
    (xd_NoTable : PySem.W.hasDictIn K C_NoTable = true)
    (xa_NoTable : PySem.W.findIn K (.ref C_NoTable) "__class__" = some (some (.builtin "object.__class__")))
    (xm_NoTable : PySem.W.mroIn K C_NoTable (.type "object") = some true)
    (xn : PySem.W.specialIn K (.builtin "object.__class__") "__get__" = some (some (.builtin "getset_descriptor.__get__")))
    (xo : PySem.W.takesIn K (.builtin "object.__class__") = some true)
    (ex_NoTable_TraceError : PySem.W.exmOne K (.ref C_NoTable) (.ref C_TraceError) = some true)
    (ki_NoTable_NoTable : PySem.W.kitOne K (.ref C_NoTable) (.ref C_NoTable) = some true)
    (ki_NoTable_ValueError : PySem.W.kitOne K (.ref C_NoTable) (.type "ValueError") = some true)
    (a_is_integer : PySem.W.nsIn K mainGlobals "is_integer" = some (some (.ref f_is_integer)))
    (l_is_integer : K.lookup f_is_integer = some ⟨oc_is_integer, od_is_integer, .func (PySem.W.fnOf "is_integer" "is_integer" (defArgs s_is_integer) (defBody s_is_integer) (defScope s_is_integer) .none kV_is_integer dc_is_integer pm_is_integer an_is_integer cd_is_integer ct_is_integer), sl_is_integer⟩)
    (c_is_integer : PySem.W.codeIn K cd_is_integer "is_integer" = true)
    (k_is_integer : PySem.W.keepIn K (.ref f_is_integer) = true)
    (a_is_within : PySem.W.nsIn K mainGlobals "is_within" = some (some (.ref f_is_within)))
    (l_is_within : K.lookup f_is_within = some ⟨oc_is_within, od_is_within, .func (PySem.W.fnOf "is_within" "is_within" (defArgs s_is_within) (defBody s_is_within) (defScope s_is_within) .none kV_is_within dc_is_within pm_is_within an_is_within cd_is_within ct_is_within), sl_is_within⟩)
    (c_is_within : PySem.W.codeIn K cd_is_within "is_within" = true)
    (k_is_within : PySem.W.keepIn K (.ref f_is_within) = true)
    (a_is_name : PySem.W.nsIn K mainGlobals "is_name" = some (some (.ref f_is_name)))
    (l_is_name : K.lookup f_is_name = some ⟨oc_is_name, od_is_name, .func (PySem.W.fnOf "is_name" "is_name" (defArgs s_is_name) (defBody s_is_name) (defScope s_is_name) .none kV_is_name dc_is_name pm_is_name an_is_name cd_is_name ct_is_name), sl_is_name⟩)
    (c_is_name : PySem.W.codeIn K cd_is_name "is_name" = true)
    (k_is_name : PySem.W.keepIn K (.ref f_is_name) = true)
    (a_is_word : PySem.W.nsIn K mainGlobals "is_word" = some (some (.ref f_is_word)))
    (l_is_word : K.lookup f_is_word = some ⟨oc_is_word, od_is_word, .func (PySem.W.fnOf "is_word" "is_word" (defArgs s_is_word) (defBody s_is_word) (defScope s_is_word) .none kV_is_word dc_is_word pm_is_word an_is_word cd_is_word ct_is_word), sl_is_word⟩)
    (c_is_word : PySem.W.codeIn K cd_is_word "is_word" = true)
    (k_is_word : PySem.W.keepIn K (.ref f_is_word) = true)
    (a_is_value : PySem.W.nsIn K mainGlobals "is_value" = some (some (.ref f_is_value)))
    (l_is_value : K.lookup f_is_value = some ⟨oc_is_value, od_is_value, .func (PySem.W.fnOf "is_value" "is_value" (defArgs s_is_value) (defBody s_is_value) (defScope s_is_value) .none kV_is_value dc_is_value pm_is_value an_is_value cd_is_value ct_is_value), sl_is_value⟩)
    (c_is_value : PySem.W.codeIn K cd_is_value "is_value" = true)
    (k_is_value : PySem.W.keepIn K (.ref f_is_value) = true)
    (a_is_flat_table : PySem.W.nsIn K mainGlobals "is_flat_table" = some (some (.ref f_is_flat_table)))
    (l_is_flat_table : K.lookup f_is_flat_table = some ⟨oc_is_flat_table, od_is_flat_table, .func (PySem.W.fnOf "is_flat_table" "is_flat_table" (defArgs s_is_flat_table) (defBody s_is_flat_table) (defScope s_is_flat_table) .none kV_is_flat_table dc_is_flat_table pm_is_flat_table an_is_flat_table cd_is_flat_table ct_is_flat_table), sl_is_flat_table⟩)
    (c_is_flat_table : PySem.W.codeIn K cd_is_flat_table "is_flat_table" = true)
    (k_is_flat_table : PySem.W.keepIn K (.ref f_is_flat_table) = true)
    (a_check_flat : PySem.W.nsIn K mainGlobals "check_flat" = some (some (.ref f_check_flat)))
    (l_check_flat : K.lookup f_check_flat = some ⟨oc_check_flat, od_check_flat, .func (PySem.W.fnOf "check_flat" "check_flat" (defArgs s_check_flat) (defBody s_check_flat) (defScope s_check_flat) .none kV_check_flat dc_check_flat pm_check_flat an_check_flat cd_check_flat ct_check_flat), sl_check_flat⟩)
    (c_check_flat : PySem.W.codeIn K cd_check_flat "check_flat" = true)
    (k_check_flat : PySem.W.keepIn K (.ref f_check_flat) = true)
    (a_all_names : PySem.W.nsIn K mainGlobals "all_names" = some (some (.ref f_all_names)))
    (l_all_names : K.lookup f_all_names = some ⟨oc_all_names, od_all_names, .func (PySem.W.fnOf "all_names" "all_names" (defArgs s_all_names) (defBody s_all_names) (defScope s_all_names) .none kV_all_names dc_all_names pm_all_names an_all_names cd_all_names ct_all_names), sl_all_names⟩)
    (c_all_names : PySem.W.codeIn K cd_all_names "all_names" = true)
    (k_all_names : PySem.W.keepIn K (.ref f_all_names) = true)
    (a_difference : PySem.W.nsIn K mainGlobals "difference" = some (some (.ref f_difference)))
    (l_difference : K.lookup f_difference = some ⟨oc_difference, od_difference, .func (PySem.W.fnOf "difference" "difference" (defArgs s_difference) (defBody s_difference) (defScope s_difference) .none kV_difference dc_difference pm_difference an_difference cd_difference ct_difference), sl_difference⟩)
    (c_difference : PySem.W.codeIn K cd_difference "difference" = true)
    (k_difference : PySem.W.keepIn K (.ref f_difference) = true)
    (a_merged_value : PySem.W.nsIn K mainGlobals "merged_value" = some (some (.ref f_merged_value)))
    (l_merged_value : K.lookup f_merged_value = some ⟨oc_merged_value, od_merged_value, .func (PySem.W.fnOf "merged_value" "merged_value" (defArgs s_merged_value) (defBody s_merged_value) (defScope s_merged_value) .none kV_merged_value dc_merged_value pm_merged_value an_merged_value cd_merged_value ct_merged_value), sl_merged_value⟩)
    (c_merged_value : PySem.W.codeIn K cd_merged_value "merged_value" = true)
    (k_merged_value : PySem.W.keepIn K (.ref f_merged_value) = true)
    (a_raw_merged : PySem.W.nsIn K mainGlobals "raw_merged" = some (some (.ref f_raw_merged)))
    (l_raw_merged : K.lookup f_raw_merged = some ⟨oc_raw_merged, od_raw_merged, .func (PySem.W.fnOf "raw_merged" "raw_merged" (defArgs s_raw_merged) (defBody s_raw_merged) (defScope s_raw_merged) .none kV_raw_merged dc_raw_merged pm_raw_merged an_raw_merged cd_raw_merged ct_raw_merged), sl_raw_merged⟩)
    (c_raw_merged : PySem.W.codeIn K cd_raw_merged "raw_merged" = true)
    (k_raw_merged : PySem.W.keepIn K (.ref f_raw_merged) = true)
    (a_merged : PySem.W.nsIn K mainGlobals "merged" = some (some (.ref f_merged)))
    (l_merged : K.lookup f_merged = some ⟨oc_merged, od_merged, .func (PySem.W.fnOf "merged" "merged" (defArgs s_merged) (defBody s_merged) (defScope s_merged) .none kV_merged dc_merged pm_merged an_merged cd_merged ct_merged), sl_merged⟩)
    (c_merged : PySem.W.codeIn K cd_merged "merged" = true)
    (k_merged : PySem.W.keepIn K (.ref f_merged) = true)
    (a_law_tape : PySem.W.nsIn K mainGlobals "_law_tape" = some (some (.ref f_law_tape)))
    (l_law_tape : K.lookup f_law_tape = some ⟨oc_law_tape, od_law_tape, .func (PySem.W.fnOf "_law_tape" "_law_tape" (defArgs s_law_tape) (defBody s_law_tape) (defScope s_law_tape) .none kV_law_tape dc_law_tape pm_law_tape an_law_tape cd_law_tape ct_law_tape), sl_law_tape⟩)
    (c_law_tape : PySem.W.codeIn K cd_law_tape "_law_tape" = true)
    (k_law_tape : PySem.W.keepIn K (.ref f_law_tape) = true)
    (a_law_pick : PySem.W.nsIn K mainGlobals "_law_pick" = some (some (.ref f_law_pick)))
    (l_law_pick : K.lookup f_law_pick = some ⟨oc_law_pick, od_law_pick, .func (PySem.W.fnOf "_law_pick" "_law_pick" (defArgs s_law_pick) (defBody s_law_pick) (defScope s_law_pick) .none kV_law_pick dc_law_pick pm_law_pick an_law_pick cd_law_pick ct_law_pick), sl_law_pick⟩)
    (c_law_pick : PySem.W.codeIn K cd_law_pick "_law_pick" = true)
    (k_law_pick : PySem.W.keepIn K (.ref f_law_pick) = true)
    (a_law_any : PySem.W.nsIn K mainGlobals "_law_any" = some (some (.ref f_law_any)))
    (l_law_any : K.lookup f_law_any = some ⟨oc_law_any, od_law_any, .func (PySem.W.fnOf "_law_any" "_law_any" (defArgs s_law_any) (defBody s_law_any) (defScope s_law_any) .none kV_law_any dc_law_any pm_law_any an_law_any cd_law_any ct_law_any), sl_law_any⟩)
    (c_law_any : PySem.W.codeIn K cd_law_any "_law_any" = true)
    (k_law_any : PySem.W.keepIn K (.ref f_law_any) = true)
    (a_law_table : PySem.W.nsIn K mainGlobals "_law_table" = some (some (.ref f_law_table)))
    (l_law_table : K.lookup f_law_table = some ⟨oc_law_table, od_law_table, .func (PySem.W.fnOf "_law_table" "_law_table" (defArgs s_law_table) (defBody s_law_table) (defScope s_law_table) .none kV_law_table dc_law_table pm_law_table an_law_table cd_law_table ct_law_table), sl_law_table⟩)
    (c_law_table : PySem.W.codeIn K cd_law_table "_law_table" = true)
    (k_law_table : PySem.W.keepIn K (.ref f_law_table) = true)
    (a_law_turned : PySem.W.nsIn K mainGlobals "_law_turned" = some (some (.ref f_law_turned)))
    (l_law_turned : K.lookup f_law_turned = some ⟨oc_law_turned, od_law_turned, .func (PySem.W.fnOf "_law_turned" "_law_turned" (defArgs s_law_turned) (defBody s_law_turned) (defScope s_law_turned) .none kV_law_turned dc_law_turned pm_law_turned an_law_turned cd_law_turned ct_law_turned), sl_law_turned⟩)
    (c_law_turned : PySem.W.codeIn K cd_law_turned "_law_turned" = true)
    (k_law_turned : PySem.W.keepIn K (.ref f_law_turned) = true)
    (a_law_merged : PySem.W.nsIn K mainGlobals "_law_merged" = some (some (.ref f_law_merged)))
    (l_law_merged : K.lookup f_law_merged = some ⟨oc_law_merged, od_law_merged, .func (PySem.W.fnOf "_law_merged" "_law_merged" (defArgs s_law_merged) (defBody s_law_merged) (defScope s_law_merged) .none kV_law_merged dc_law_merged pm_law_merged an_law_merged cd_law_merged ct_law_merged), sl_law_merged⟩)
    (c_law_merged : PySem.W.codeIn K cd_law_merged "_law_merged" = true)
    (k_law_merged : PySem.W.keepIn K (.ref f_law_merged) = true)
    (a_law_word : PySem.W.nsIn K mainGlobals "_law_word" = some (some (.ref f_law_word)))
    (l_law_word : K.lookup f_law_word = some ⟨oc_law_word, od_law_word, .func (PySem.W.fnOf "_law_word" "_law_word" (defArgs s_law_word) (defBody s_law_word) (defScope s_law_word) .none kV_law_word dc_law_word pm_law_word an_law_word cd_law_word ct_law_word), sl_law_word⟩)
    (c_law_word : PySem.W.codeIn K cd_law_word "_law_word" = true)
    (k_law_word : PySem.W.keepIn K (.ref f_law_word) = true)
    (a_law_no_table : PySem.W.nsIn K mainGlobals "_law_no_table" = some (some (.ref f_law_no_table)))
    (l_law_no_table : K.lookup f_law_no_table = some ⟨oc_law_no_table, od_law_no_table, .func (PySem.W.fnOf "_law_no_table" "_law_no_table" (defArgs s_law_no_table) (defBody s_law_no_table) (defScope s_law_no_table) .none kV_law_no_table dc_law_no_table pm_law_no_table an_law_no_table cd_law_no_table ct_law_no_table), sl_law_no_table⟩)
    (c_law_no_table : PySem.W.codeIn K cd_law_no_table "_law_no_table" = true)
    (k_law_no_table : PySem.W.keepIn K (.ref f_law_no_table) = true)
    (a_law_unlike : PySem.W.nsIn K mainGlobals "_law_unlike" = some (some (.ref f_law_unlike)))
    (l_law_unlike : K.lookup f_law_unlike = some ⟨oc_law_unlike, od_law_unlike, .func (PySem.W.fnOf "_law_unlike" "_law_unlike" (defArgs s_law_unlike) (defBody s_law_unlike) (defScope s_law_unlike) .none kV_law_unlike dc_law_unlike pm_law_unlike an_law_unlike cd_law_unlike ct_law_unlike), sl_law_unlike⟩)
    (c_law_unlike : PySem.W.codeIn K cd_law_unlike "_law_unlike" = true)
    (k_law_unlike : PySem.W.keepIn K (.ref f_law_unlike) = true)
    (a_law_led : PySem.W.nsIn K mainGlobals "_law_led" = some (some (.ref f_law_led)))
    (l_law_led : K.lookup f_law_led = some ⟨oc_law_led, od_law_led, .func (PySem.W.fnOf "_law_led" "_law_led" (defArgs s_law_led) (defBody s_law_led) (defScope s_law_led) .none kV_law_led dc_law_led pm_law_led an_law_led cd_law_led ct_law_led), sl_law_led⟩)
    (c_law_led : PySem.W.codeIn K cd_law_led "_law_led" = true)
    (k_law_led : PySem.W.keepIn K (.ref f_law_led) = true)
    (a_law_part : PySem.W.nsIn K mainGlobals "_law_part" = some (some (.ref f_law_part)))
    (l_law_part : K.lookup f_law_part = some ⟨oc_law_part, od_law_part, .func (PySem.W.fnOf "_law_part" "_law_part" (defArgs s_law_part) (defBody s_law_part) (defScope s_law_part) .none kV_law_part dc_law_part pm_law_part an_law_part cd_law_part ct_law_part), sl_law_part⟩)
    (c_law_part : PySem.W.codeIn K cd_law_part "_law_part" = true)
    (k_law_part : PySem.W.keepIn K (.ref f_law_part) = true)
    (a_law_are_right : PySem.W.nsIn K mainGlobals "_law_are_right" = some (some (.ref f_law_are_right)))
    (l_law_are_right : K.lookup f_law_are_right = some ⟨oc_law_are_right, od_law_are_right, .func (PySem.W.fnOf "_law_are_right" "_law_are_right" (defArgs s_law_are_right) (defBody s_law_are_right) (defScope s_law_are_right) .none kV_law_are_right dc_law_are_right pm_law_are_right an_law_are_right cd_law_are_right ct_law_are_right), sl_law_are_right⟩)
    (c_law_are_right : PySem.W.codeIn K cd_law_are_right "_law_are_right" = true)
    (k_law_are_right : PySem.W.keepIn K (.ref f_law_are_right) = true)
    (a_law_bounds_right : PySem.W.nsIn K mainGlobals "_law_bounds_right" = some (some (.ref f_law_bounds_right)))
    (l_law_bounds_right : K.lookup f_law_bounds_right = some ⟨oc_law_bounds_right, od_law_bounds_right, .func (PySem.W.fnOf "_law_bounds_right" "_law_bounds_right" (defArgs s_law_bounds_right) (defBody s_law_bounds_right) (defScope s_law_bounds_right) .none kV_law_bounds_right dc_law_bounds_right pm_law_bounds_right an_law_bounds_right (.ref tc_law_bounds_right) ct_law_bounds_right), sl_law_bounds_right⟩)
    (c_law_bounds_right : PySem.W.codeIn K (.ref tc_law_bounds_right) "_law_bounds_right" = true)
    (k_law_bounds_right : PySem.W.keepIn K (.ref f_law_bounds_right) = true)
    (a_law_word_of : PySem.W.nsIn K mainGlobals "_law_word_of" = some (some (.ref f_law_word_of)))
    (l_law_word_of : K.lookup f_law_word_of = some ⟨oc_law_word_of, od_law_word_of, .func (PySem.W.fnOf "_law_word_of" "_law_word_of" (defArgs s_law_word_of) (defBody s_law_word_of) (defScope s_law_word_of) .none kV_law_word_of dc_law_word_of pm_law_word_of an_law_word_of (.ref tc_law_word_of) ct_law_word_of), sl_law_word_of⟩)
    (c_law_word_of : PySem.W.codeIn K (.ref tc_law_word_of) "_law_word_of" = true)
    (k_law_word_of : PySem.W.keepIn K (.ref f_law_word_of) = true)
    (a_law : PySem.W.nsIn K mainGlobals "law" = some (some (.ref f_law)))
    (l_law : K.lookup f_law = some ⟨oc_law, od_law, .func (PySem.W.fnOf "law" "law" (defArgs s_law) (defBody s_law) (defScope s_law) .none kV_law dc_law pm_law an_law (.ref tc_law) ct_law), sl_law⟩)
    (c_law : PySem.W.codeIn K (.ref tc_law) "law" = true)
    (k_law : PySem.W.keepIn K (.ref f_law) = true)
    (z_ValueError : PySem.W.nsIn K mainGlobals "ValueError" = some none)
    (z_abs : PySem.W.nsIn K mainGlobals "abs" = some none)
    (z_all : PySem.W.nsIn K mainGlobals "all" = some none)
    (z_bool : PySem.W.nsIn K mainGlobals "bool" = some none)
    (z_dict : PySem.W.nsIn K mainGlobals "dict" = some none)
    (z_int : PySem.W.nsIn K mainGlobals "int" = some none)
    (z_isinstance : PySem.W.nsIn K mainGlobals "isinstance" = some none)
    (z_len : PySem.W.nsIn K mainGlobals "len" = some none)
    (z_list : PySem.W.nsIn K mainGlobals "list" = some none)
    (z_range : PySem.W.nsIn K mainGlobals "range" = some none)
    (z_repr : PySem.W.nsIn K mainGlobals "repr" = some none)
    (z_sorted : PySem.W.nsIn K mainGlobals "sorted" = some none)
    (z_str : PySem.W.nsIn K mainGlobals "str" = some none)
    (z_tuple : PySem.W.nsIn K mainGlobals "tuple" = some none)
    (k_MOST_NAMES : PySem.W.nsIn K mainGlobals "MOST_NAMES" = some (some (.int 200 t_MOST_NAMES)))
    (k_MOST_SIGNS : PySem.W.nsIn K mainGlobals "MOST_SIGNS" = some (some (.int 8 t_MOST_SIGNS)))
    (tab_law_bounds_right : PySem.W.tabIn K "_law_bounds_right" = some (tc_law_bounds_right, tp_law_bounds_right))
    (tab_law_word_of : PySem.W.tabIn K "_law_word_of" = some (tc_law_word_of, tp_law_word_of))
    (tab_law : PySem.W.tabIn K "law" = some (tc_law, tp_law))
    (rec_law_bounds_right : ((recsOf q).find? fun e => e.name == ("_law_bounds_right" : Str)).isSome = true)
    (non_law_bounds_right : K.lookup tp_law_bounds_right = none)
    (rec_law_word_of : ((recsOf q).find? fun e => e.name == ("_law_word_of" : Str)).isSome = true)
    (non_law_word_of : K.lookup tp_law_word_of = none)
    (rec_law : ((recsOf q).find? fun e => e.name == ("law" : Str)).isSome = true)
    (non_law : K.lookup tp_law = none)
    (ne_law_bounds_right__law_word_of : tp_law_bounds_right ≠ tp_law_word_of)
    (ne_law_bounds_right__law : tp_law_bounds_right ≠ tp_law)
    (ne_law_word_of__law : tp_law_word_of ≠ tp_law) :
    ∃ (fd : FuncData) (cs : List (Str × Addr × Addr)), (∀ (s : Shared) (u : Value), BindsTo s fd ⟨[u], []⟩ [("script", u)]) ∧
        (∀ t ∈ cs, PySem.W.tabIn K t.1 = some t.2 ∧ ((recsOf q).find? fun e => e.name == t.1).isSome = true ∧ K.lookup t.2.2 = none) ∧ (∀ t ∈ cs, ∀ u ∈ cs, t.2.2 = u.2.2 → t.1 = u.1) ∧
        ∀ base : Heap, K.In base → base.Ns mainGlobals mg → (∀ t ∈ cs, LamX.TabB base mg t.2.1 t.2.2) → FnG l.prog w K mg base (L2.CX l.prog w) 10 fa fd ["script"] (spLaw K (cs.map fun t => (t.2.2, t.1 ++ ".<locals>." ++ "<lambda>"))) := by
  have e := hfa.symm.trans (PySem.W.mg_of X G a_law)
  cases e
  let T : TX K mg := {
    C_NoTable := C_NoTable,
    m_NoTable := PySem.W.mg_of X G aC_NoTable,
    C_TraceError := C_TraceError,
    m_TraceError := PySem.W.mg_of X G aC_TraceError,
    x_NoTable := ⟨PySem.W.mg_of X G aC_NoTable, xq_NoTable, xk_NoTable, xb_NoTable, xt_NoTable⟩,
    X_NoTable := ⟨xg_NoTable, xh_NoTable, xb_NoTable, xd_NoTable, xa_NoTable, xn, xo, xm_NoTable⟩,
    ex_NoTable_TraceError := ex_NoTable_TraceError,
    ki_NoTable_NoTable := ki_NoTable_NoTable,
    ki_NoTable_ValueError := ki_NoTable_ValueError,
    a_is_integer := f_is_integer,
    d_is_integer := PySem.W.fnOf "is_integer" "is_integer" (defArgs s_is_integer) (defBody s_is_integer) (defScope s_is_integer) .none kV_is_integer dc_is_integer pm_is_integer an_is_integer cd_is_integer ct_is_integer,
    F_is_integer := fun_mk (st := s_is_integer) l_is_integer c_is_integer k_is_integer,
    b_is_integer := (fun_mk (st := s_is_integer) l_is_integer c_is_integer k_is_integer).binds (ps := ["thing"]) fun _ _ _ _ _ _ us hl => match us, hl with | [_], _ => rfl,
    m_is_integer := PySem.W.mg_of X G a_is_integer,
    a_is_within := f_is_within,
    d_is_within := PySem.W.fnOf "is_within" "is_within" (defArgs s_is_within) (defBody s_is_within) (defScope s_is_within) .none kV_is_within dc_is_within pm_is_within an_is_within cd_is_within ct_is_within,
    F_is_within := fun_mk (st := s_is_within) l_is_within c_is_within k_is_within,
    b_is_within := (fun_mk (st := s_is_within) l_is_within c_is_within k_is_within).binds (ps := ["thing", "least", "most"]) fun _ _ _ _ _ _ us hl => match us, hl with | [_, _, _], _ => rfl,
    m_is_within := PySem.W.mg_of X G a_is_within,
    a_is_name := f_is_name,
    d_is_name := PySem.W.fnOf "is_name" "is_name" (defArgs s_is_name) (defBody s_is_name) (defScope s_is_name) .none kV_is_name dc_is_name pm_is_name an_is_name cd_is_name ct_is_name,
    F_is_name := fun_mk (st := s_is_name) l_is_name c_is_name k_is_name,
    b_is_name := (fun_mk (st := s_is_name) l_is_name c_is_name k_is_name).binds (ps := ["thing"]) fun _ _ _ _ _ _ us hl => match us, hl with | [_], _ => rfl,
    m_is_name := PySem.W.mg_of X G a_is_name,
    a_is_word := f_is_word,
    d_is_word := PySem.W.fnOf "is_word" "is_word" (defArgs s_is_word) (defBody s_is_word) (defScope s_is_word) .none kV_is_word dc_is_word pm_is_word an_is_word cd_is_word ct_is_word,
    F_is_word := fun_mk (st := s_is_word) l_is_word c_is_word k_is_word,
    b_is_word := (fun_mk (st := s_is_word) l_is_word c_is_word k_is_word).binds (ps := ["thing"]) fun _ _ _ _ _ _ us hl => match us, hl with | [_], _ => rfl,
    m_is_word := PySem.W.mg_of X G a_is_word,
    a_is_value := f_is_value,
    d_is_value := PySem.W.fnOf "is_value" "is_value" (defArgs s_is_value) (defBody s_is_value) (defScope s_is_value) .none kV_is_value dc_is_value pm_is_value an_is_value cd_is_value ct_is_value,
    F_is_value := fun_mk (st := s_is_value) l_is_value c_is_value k_is_value,
    b_is_value := (fun_mk (st := s_is_value) l_is_value c_is_value k_is_value).binds (ps := ["thing"]) fun _ _ _ _ _ _ us hl => match us, hl with | [_], _ => rfl,
    m_is_value := PySem.W.mg_of X G a_is_value,
    a_is_flat_table := f_is_flat_table,
    d_is_flat_table := PySem.W.fnOf "is_flat_table" "is_flat_table" (defArgs s_is_flat_table) (defBody s_is_flat_table) (defScope s_is_flat_table) .none kV_is_flat_table dc_is_flat_table pm_is_flat_table an_is_flat_table cd_is_flat_table ct_is_flat_table,
    F_is_flat_table := fun_mk (st := s_is_flat_table) l_is_flat_table c_is_flat_table k_is_flat_table,
    b_is_flat_table := (fun_mk (st := s_is_flat_table) l_is_flat_table c_is_flat_table k_is_flat_table).binds (ps := ["thing"]) fun _ _ _ _ _ _ us hl => match us, hl with | [_], _ => rfl,
    m_is_flat_table := PySem.W.mg_of X G a_is_flat_table,
    a_check_flat := f_check_flat,
    d_check_flat := PySem.W.fnOf "check_flat" "check_flat" (defArgs s_check_flat) (defBody s_check_flat) (defScope s_check_flat) .none kV_check_flat dc_check_flat pm_check_flat an_check_flat cd_check_flat ct_check_flat,
    F_check_flat := fun_mk (st := s_check_flat) l_check_flat c_check_flat k_check_flat,
    b_check_flat := (fun_mk (st := s_check_flat) l_check_flat c_check_flat k_check_flat).binds (ps := ["table"]) fun _ _ _ _ _ _ us hl => match us, hl with | [_], _ => rfl,
    m_check_flat := PySem.W.mg_of X G a_check_flat,
    a_all_names := f_all_names,
    d_all_names := PySem.W.fnOf "all_names" "all_names" (defArgs s_all_names) (defBody s_all_names) (defScope s_all_names) .none kV_all_names dc_all_names pm_all_names an_all_names cd_all_names ct_all_names,
    F_all_names := fun_mk (st := s_all_names) l_all_names c_all_names k_all_names,
    b_all_names := (fun_mk (st := s_all_names) l_all_names c_all_names k_all_names).binds (ps := ["tables"]) fun _ _ _ _ _ _ us hl => match us, hl with | [_], _ => rfl,
    m_all_names := PySem.W.mg_of X G a_all_names,
    a_difference := f_difference,
    d_difference := PySem.W.fnOf "difference" "difference" (defArgs s_difference) (defBody s_difference) (defScope s_difference) .none kV_difference dc_difference pm_difference an_difference cd_difference ct_difference,
    F_difference := fun_mk (st := s_difference) l_difference c_difference k_difference,
    b_difference := (fun_mk (st := s_difference) l_difference c_difference k_difference).binds (ps := ["one", "other"]) fun _ _ _ _ _ _ us hl => match us, hl with | [_, _], _ => rfl,
    m_difference := PySem.W.mg_of X G a_difference,
    a_merged_value := f_merged_value,
    d_merged_value := PySem.W.fnOf "merged_value" "merged_value" (defArgs s_merged_value) (defBody s_merged_value) (defScope s_merged_value) .none kV_merged_value dc_merged_value pm_merged_value an_merged_value cd_merged_value ct_merged_value,
    F_merged_value := fun_mk (st := s_merged_value) l_merged_value c_merged_value k_merged_value,
    b_merged_value := (fun_mk (st := s_merged_value) l_merged_value c_merged_value k_merged_value).binds (ps := ["old", "first", "second"]) fun _ _ _ _ _ _ us hl => match us, hl with | [_, _, _], _ => rfl,
    m_merged_value := PySem.W.mg_of X G a_merged_value,
    a_raw_merged := f_raw_merged,
    d_raw_merged := PySem.W.fnOf "raw_merged" "raw_merged" (defArgs s_raw_merged) (defBody s_raw_merged) (defScope s_raw_merged) .none kV_raw_merged dc_raw_merged pm_raw_merged an_raw_merged cd_raw_merged ct_raw_merged,
    F_raw_merged := fun_mk (st := s_raw_merged) l_raw_merged c_raw_merged k_raw_merged,
    b_raw_merged := (fun_mk (st := s_raw_merged) l_raw_merged c_raw_merged k_raw_merged).binds (ps := ["base", "one", "other"]) fun _ _ _ _ _ _ us hl => match us, hl with | [_, _, _], _ => rfl,
    m_raw_merged := PySem.W.mg_of X G a_raw_merged,
    a_merged := f_merged,
    d_merged := PySem.W.fnOf "merged" "merged" (defArgs s_merged) (defBody s_merged) (defScope s_merged) .none kV_merged dc_merged pm_merged an_merged cd_merged ct_merged,
    F_merged := fun_mk (st := s_merged) l_merged c_merged k_merged,
    b_merged := (fun_mk (st := s_merged) l_merged c_merged k_merged).binds (ps := ["base", "one", "other"]) fun _ _ _ _ _ _ us hl => match us, hl with | [_, _, _], _ => rfl,
    m_merged := PySem.W.mg_of X G a_merged,
    a_law_tape := f_law_tape,
    d_law_tape := PySem.W.fnOf "_law_tape" "_law_tape" (defArgs s_law_tape) (defBody s_law_tape) (defScope s_law_tape) .none kV_law_tape dc_law_tape pm_law_tape an_law_tape cd_law_tape ct_law_tape,
    F_law_tape := fun_mk (st := s_law_tape) l_law_tape c_law_tape k_law_tape,
    b_law_tape := (fun_mk (st := s_law_tape) l_law_tape c_law_tape k_law_tape).binds (ps := ["script"]) fun _ _ _ _ _ _ us hl => match us, hl with | [_], _ => rfl,
    m_law_tape := PySem.W.mg_of X G a_law_tape,
    a_law_pick := f_law_pick,
    d_law_pick := PySem.W.fnOf "_law_pick" "_law_pick" (defArgs s_law_pick) (defBody s_law_pick) (defScope s_law_pick) .none kV_law_pick dc_law_pick pm_law_pick an_law_pick cd_law_pick ct_law_pick,
    F_law_pick := fun_mk (st := s_law_pick) l_law_pick c_law_pick k_law_pick,
    b_law_pick := (fun_mk (st := s_law_pick) l_law_pick c_law_pick k_law_pick).binds (ps := ["tape", "many"]) fun _ _ _ _ _ _ us hl => match us, hl with | [_, _], _ => rfl,
    m_law_pick := PySem.W.mg_of X G a_law_pick,
    a_law_any := f_law_any,
    d_law_any := PySem.W.fnOf "_law_any" "_law_any" (defArgs s_law_any) (defBody s_law_any) (defScope s_law_any) .none kV_law_any dc_law_any pm_law_any an_law_any cd_law_any ct_law_any,
    F_law_any := fun_mk (st := s_law_any) l_law_any c_law_any k_law_any,
    b_law_any := (fun_mk (st := s_law_any) l_law_any c_law_any k_law_any).binds (ps := ["tape", "things"]) fun _ _ _ _ _ _ us hl => match us, hl with | [_, _], _ => rfl,
    m_law_any := PySem.W.mg_of X G a_law_any,
    a_law_table := f_law_table,
    d_law_table := PySem.W.fnOf "_law_table" "_law_table" (defArgs s_law_table) (defBody s_law_table) (defScope s_law_table) .none kV_law_table dc_law_table pm_law_table an_law_table cd_law_table ct_law_table,
    F_law_table := fun_mk (st := s_law_table) l_law_table c_law_table k_law_table,
    b_law_table := (fun_mk (st := s_law_table) l_law_table c_law_table k_law_table).binds (ps := ["tape", "names"]) fun _ _ _ _ _ _ us hl => match us, hl with | [_, _], _ => rfl,
    m_law_table := PySem.W.mg_of X G a_law_table,
    a_law_turned := f_law_turned,
    d_law_turned := PySem.W.fnOf "_law_turned" "_law_turned" (defArgs s_law_turned) (defBody s_law_turned) (defScope s_law_turned) .none kV_law_turned dc_law_turned pm_law_turned an_law_turned cd_law_turned ct_law_turned,
    F_law_turned := fun_mk (st := s_law_turned) l_law_turned c_law_turned k_law_turned,
    b_law_turned := (fun_mk (st := s_law_turned) l_law_turned c_law_turned k_law_turned).binds (ps := ["tape", "names", "table"]) fun _ _ _ _ _ _ us hl => match us, hl with | [_, _, _], _ => rfl,
    m_law_turned := PySem.W.mg_of X G a_law_turned,
    a_law_merged := f_law_merged,
    d_law_merged := PySem.W.fnOf "_law_merged" "_law_merged" (defArgs s_law_merged) (defBody s_law_merged) (defScope s_law_merged) .none kV_law_merged dc_law_merged pm_law_merged an_law_merged cd_law_merged ct_law_merged,
    F_law_merged := fun_mk (st := s_law_merged) l_law_merged c_law_merged k_law_merged,
    b_law_merged := (fun_mk (st := s_law_merged) l_law_merged c_law_merged k_law_merged).binds (ps := ["base", "one", "other"]) fun _ _ _ _ _ _ us hl => match us, hl with | [_, _, _], _ => rfl,
    m_law_merged := PySem.W.mg_of X G a_law_merged,
    a_law_word := f_law_word,
    d_law_word := PySem.W.fnOf "_law_word" "_law_word" (defArgs s_law_word) (defBody s_law_word) (defScope s_law_word) .none kV_law_word dc_law_word pm_law_word an_law_word cd_law_word ct_law_word,
    F_law_word := fun_mk (st := s_law_word) l_law_word c_law_word k_law_word,
    b_law_word := (fun_mk (st := s_law_word) l_law_word c_law_word k_law_word).binds (ps := ["call"]) fun _ _ _ _ _ _ us hl => match us, hl with | [_], _ => rfl,
    m_law_word := PySem.W.mg_of X G a_law_word,
    a_law_no_table := f_law_no_table,
    d_law_no_table := PySem.W.fnOf "_law_no_table" "_law_no_table" (defArgs s_law_no_table) (defBody s_law_no_table) (defScope s_law_no_table) .none kV_law_no_table dc_law_no_table pm_law_no_table an_law_no_table cd_law_no_table ct_law_no_table,
    F_law_no_table := fun_mk (st := s_law_no_table) l_law_no_table c_law_no_table k_law_no_table,
    b_law_no_table := (fun_mk (st := s_law_no_table) l_law_no_table c_law_no_table k_law_no_table).binds (ps := ["tape"]) fun _ _ _ _ _ _ us hl => match us, hl with | [_], _ => rfl,
    m_law_no_table := PySem.W.mg_of X G a_law_no_table,
    a_law_unlike := f_law_unlike,
    d_law_unlike := PySem.W.fnOf "_law_unlike" "_law_unlike" (defArgs s_law_unlike) (defBody s_law_unlike) (defScope s_law_unlike) .none kV_law_unlike dc_law_unlike pm_law_unlike an_law_unlike cd_law_unlike ct_law_unlike,
    F_law_unlike := fun_mk (st := s_law_unlike) l_law_unlike c_law_unlike k_law_unlike,
    b_law_unlike := (fun_mk (st := s_law_unlike) l_law_unlike c_law_unlike k_law_unlike).binds (ps := ["one", "other"]) fun _ _ _ _ _ _ us hl => match us, hl with | [_, _], _ => rfl,
    m_law_unlike := PySem.W.mg_of X G a_law_unlike,
    a_law_led := f_law_led,
    d_law_led := PySem.W.fnOf "_law_led" "_law_led" (defArgs s_law_led) (defBody s_law_led) (defScope s_law_led) .none kV_law_led dc_law_led pm_law_led an_law_led cd_law_led ct_law_led,
    F_law_led := fun_mk (st := s_law_led) l_law_led c_law_led k_law_led,
    b_law_led := (fun_mk (st := s_law_led) l_law_led c_law_led k_law_led).binds (ps := ["one", "told"]) fun _ _ _ _ _ _ us hl => match us, hl with | [_, _], _ => rfl,
    m_law_led := PySem.W.mg_of X G a_law_led,
    a_law_part := f_law_part,
    d_law_part := PySem.W.fnOf "_law_part" "_law_part" (defArgs s_law_part) (defBody s_law_part) (defScope s_law_part) .none kV_law_part dc_law_part pm_law_part an_law_part cd_law_part ct_law_part,
    F_law_part := fun_mk (st := s_law_part) l_law_part c_law_part k_law_part,
    b_law_part := (fun_mk (st := s_law_part) l_law_part c_law_part k_law_part).binds (ps := ["table", "names"]) fun _ _ _ _ _ _ us hl => match us, hl with | [_, _], _ => rfl,
    m_law_part := PySem.W.mg_of X G a_law_part,
    a_law_are_right := f_law_are_right,
    d_law_are_right := PySem.W.fnOf "_law_are_right" "_law_are_right" (defArgs s_law_are_right) (defBody s_law_are_right) (defScope s_law_are_right) .none kV_law_are_right dc_law_are_right pm_law_are_right an_law_are_right cd_law_are_right ct_law_are_right,
    F_law_are_right := fun_mk (st := s_law_are_right) l_law_are_right c_law_are_right k_law_are_right,
    b_law_are_right := (fun_mk (st := s_law_are_right) l_law_are_right c_law_are_right k_law_are_right).binds (ps := ["tape", "names", "base", "one", "other"]) fun _ _ _ _ _ _ us hl => match us, hl with | [_, _, _, _, _], _ => rfl,
    m_law_are_right := PySem.W.mg_of X G a_law_are_right,
    a_law_bounds_right := f_law_bounds_right,
    d_law_bounds_right := PySem.W.fnOf "_law_bounds_right" "_law_bounds_right" (defArgs s_law_bounds_right) (defBody s_law_bounds_right) (defScope s_law_bounds_right) .none kV_law_bounds_right dc_law_bounds_right pm_law_bounds_right an_law_bounds_right (.ref tc_law_bounds_right) ct_law_bounds_right,
    F_law_bounds_right := fun_mk (st := s_law_bounds_right) l_law_bounds_right c_law_bounds_right k_law_bounds_right,
    b_law_bounds_right := (fun_mk (st := s_law_bounds_right) l_law_bounds_right c_law_bounds_right k_law_bounds_right).binds (ps := []) fun _ _ _ _ _ _ us hl => match us, hl with | [], _ => rfl,
    m_law_bounds_right := PySem.W.mg_of X G a_law_bounds_right,
    tc_law_bounds_right := tc_law_bounds_right,
    tp_law_bounds_right := tp_law_bounds_right,
    co_law_bounds_right := rfl,
    a_law_word_of := f_law_word_of,
    d_law_word_of := PySem.W.fnOf "_law_word_of" "_law_word_of" (defArgs s_law_word_of) (defBody s_law_word_of) (defScope s_law_word_of) .none kV_law_word_of dc_law_word_of pm_law_word_of an_law_word_of (.ref tc_law_word_of) ct_law_word_of,
    F_law_word_of := fun_mk (st := s_law_word_of) l_law_word_of c_law_word_of k_law_word_of,
    b_law_word_of := (fun_mk (st := s_law_word_of) l_law_word_of c_law_word_of k_law_word_of).binds (ps := ["one", "other"]) fun _ _ _ _ _ _ us hl => match us, hl with | [_, _], _ => rfl,
    m_law_word_of := PySem.W.mg_of X G a_law_word_of,
    tc_law_word_of := tc_law_word_of,
    tp_law_word_of := tp_law_word_of,
    co_law_word_of := rfl,
    a_law := fa,
    d_law := PySem.W.fnOf "law" "law" (defArgs s_law) (defBody s_law) (defScope s_law) .none kV_law dc_law pm_law an_law (.ref tc_law) ct_law,
    F_law := fun_mk (st := s_law) l_law c_law k_law,
    b_law := (fun_mk (st := s_law) l_law c_law k_law).binds (ps := ["script"]) fun _ _ _ _ _ _ us hl => match us, hl with | [_], _ => rfl,
    m_law := PySem.W.mg_of X G a_law,
    tc_law := tc_law,
    tp_law := tp_law,
    co_law := rfl,
    z_ValueError := PySem.W.mg_none_of X G z_ValueError,
    z_abs := PySem.W.mg_none_of X G z_abs,
    z_all := PySem.W.mg_none_of X G z_all,
    z_bool := PySem.W.mg_none_of X G z_bool,
    z_dict := PySem.W.mg_none_of X G z_dict,
    z_int := PySem.W.mg_none_of X G z_int,
    z_isinstance := PySem.W.mg_none_of X G z_isinstance,
    z_len := PySem.W.mg_none_of X G z_len,
    z_list := PySem.W.mg_none_of X G z_list,
    z_range := PySem.W.mg_none_of X G z_range,
    z_repr := PySem.W.mg_none_of X G z_repr,
    z_sorted := PySem.W.mg_none_of X G z_sorted,
    z_str := PySem.W.mg_none_of X G z_str,
    z_tuple := PySem.W.mg_none_of X G z_tuple,
    k_MOST_NAMES := ⟨_, PySem.W.mg_of X G k_MOST_NAMES⟩,
    k_MOST_SIGNS := ⟨_, PySem.W.mg_of X G k_MOST_SIGNS⟩,
    k_MOST_VALUE := lo_MOST_VALUE }
  refine ⟨PySem.W.fnOf "law" "law" (defArgs s_law) (defBody s_law) (defScope s_law) .none kV_law dc_law pm_law an_law (.ref tc_law) ct_law, [("_law_bounds_right", tc_law_bounds_right, tp_law_bounds_right), ("_law_word_of", tc_law_word_of, tp_law_word_of), ("law", tc_law, tp_law)], fun s v => .of_eq rfl, fun t ht => by
    simp only [List.mem_cons, List.not_mem_nil, or_false] at ht
    rcases ht with rfl | rfl | rfl
    · exact ⟨tab_law_bounds_right, rec_law_bounds_right, non_law_bounds_right⟩
    · exact ⟨tab_law_word_of, rec_law_word_of, non_law_word_of⟩
    · exact ⟨tab_law, rec_law, non_law⟩, fun t ht u hu e => by
    simp only [List.mem_cons, List.not_mem_nil, or_false] at ht hu
    rcases ht with rfl | rfl | rfl <;> rcases hu with rfl | rfl | rfl <;> first | rfl | exact absurd e (by assumption) | exact absurd e.symm (by assumption), fun base _ _ hB => ?_⟩
  have B : TBs T base := ⟨trivial, hB _ (.head _), hB _ (.tail _ (.head _)), hB _ (.tail _ (.tail _ (.head _)))⟩
  exact ok_law T B run
end KM

open PySem PySem.W PyProof.Rows in
set_option Elab.async false in
set_option maxRecDepth 100000 in
set_option maxHeartbeats 0 in
theorem PySem.Challenge.cw_keptviews_k64_whole_tables_merged_holds : PySem.Challenge.rw_keptviews_k64_whole_tables_merged.Holds := by
  w_on; o_law; k_head; (case hw => w_witness2)
  k_fill
  refine VD.walkV (l := PySem.Challenge.rw_keptviews_k64_whole_tables_merged) (k := 10) (x := "script") rfl rfl ⟨⟨rfl, by decide, by decide⟩, rfl⟩ (fun w h Y => by first | exact PySem.W.km_in_of Y | exact PySem.W.kIn_of Y) ?F
  case F =>
    intro w mg fa h KX G hmg xp
    refine' KM.all_mk KX G hmg (KM.loose_of xp (by repeat (first | exact List.mem_cons_self | apply List.mem_cons_of_mem))) ?aC_NoTable ?aC_TraceError ?xq_NoTable ?xk_NoTable ?xb_NoTable ?xt_NoTable ?xg_NoTable ?xh_NoTable ?xd_NoTable ?xa_NoTable ?xm_NoTable ?xn ?xo ?ex_NoTable_TraceError ?ki_NoTable_NoTable ?ki_NoTable_ValueError ?a_is_integer ?l_is_integer ?c_is_integer ?k_is_integer ?a_is_within ?l_is_within ?c_is_within ?k_is_within ?a_is_name ?l_is_name ?c_is_name ?k_is_name ?a_is_word ?l_is_word ?c_is_word ?k_is_word ?a_is_value ?l_is_value ?c_is_value ?k_is_value ?a_is_flat_table ?l_is_flat_table ?c_is_flat_table ?k_is_flat_table ?a_check_flat ?l_check_flat ?c_check_flat ?k_check_flat ?a_all_names ?l_all_names ?c_all_names ?k_all_names ?a_difference ?l_difference ?c_difference ?k_difference ?a_merged_value ?l_merged_value ?c_merged_value ?k_merged_value ?a_raw_merged ?l_raw_merged ?c_raw_merged ?k_raw_merged ?a_merged ?l_merged ?c_merged ?k_merged ?a_law_tape ?l_law_tape ?c_law_tape ?k_law_tape ?a_law_pick ?l_law_pick ?c_law_pick ?k_law_pick ?a_law_any ?l_law_any ?c_law_any ?k_law_any ?a_law_table ?l_law_table ?c_law_table ?k_law_table ?a_law_turned ?l_law_turned ?c_law_turned ?k_law_turned ?a_law_merged ?l_law_merged ?c_law_merged ?k_law_merged ?a_law_word ?l_law_word ?c_law_word ?k_law_word ?a_law_no_table ?l_law_no_table ?c_law_no_table ?k_law_no_table ?a_law_unlike ?l_law_unlike ?c_law_unlike ?k_law_unlike ?a_law_led ?l_law_led ?c_law_led ?k_law_led ?a_law_part ?l_law_part ?c_law_part ?k_law_part ?a_law_are_right ?l_law_are_right ?c_law_are_right ?k_law_are_right ?a_law_bounds_right ?l_law_bounds_right ?c_law_bounds_right ?k_law_bounds_right ?a_law_word_of ?l_law_word_of ?c_law_word_of ?k_law_word_of ?a_law ?l_law ?c_law ?k_law ?z_ValueError ?z_abs ?z_all ?z_bool ?z_dict ?z_int ?z_isinstance ?z_len ?z_list ?z_range ?z_repr ?z_sorted ?z_str ?z_tuple ?k_MOST_NAMES ?k_MOST_SIGNS ?tab_law_bounds_right ?tab_law_word_of ?tab_law ?rec_law_bounds_right ?non_law_bounds_right ?rec_law_word_of ?non_law_word_of ?rec_law ?non_law ?ne_law_bounds_right__law_word_of ?ne_law_bounds_right__law ?ne_law_word_of__law
    (case aC_NoTable => k_is)
    (case aC_TraceError => k_is)
    (case xq_NoTable => k_exc)
    (case xk_NoTable => k_is)
    (case xb_NoTable => k_is)
    (case xt_NoTable => k_is)
    (case xg_NoTable => k_is)
    (case xh_NoTable => k_is)
    (case xd_NoTable => k_is)
    (case xa_NoTable => k_is)
    (case xm_NoTable => k_is)
    (case xn => k_is)
    (case xo => k_is)
    (case ex_NoTable_TraceError => first | k_is | rfl | decide +kernel)
    (case ki_NoTable_NoTable => first | k_is | rfl | decide +kernel)
    (case ki_NoTable_ValueError => first | k_is | rfl | decide +kernel)
    (case a_is_integer => k_is)
    (case l_is_integer => k_is)
    (case c_is_integer => k_is)
    (case k_is_integer => k_is)
    (case a_is_within => k_is)
    (case l_is_within => k_is)
    (case c_is_within => k_is)
    (case k_is_within => k_is)
    (case a_is_name => k_is)
    (case l_is_name => k_is)
    (case c_is_name => k_is)
    (case k_is_name => k_is)
    (case a_is_word => k_is)
    (case l_is_word => k_is)
    (case c_is_word => k_is)
    (case k_is_word => k_is)
    (case a_is_value => k_is)
    (case l_is_value => k_is)
    (case c_is_value => k_is)
    (case k_is_value => k_is)
    (case a_is_flat_table => k_is)
    (case l_is_flat_table => k_is)
    (case c_is_flat_table => k_is)
    (case k_is_flat_table => k_is)
    (case a_check_flat => k_is)
    (case l_check_flat => k_is)
    (case c_check_flat => k_is)
    (case k_check_flat => k_is)
    (case a_all_names => k_is)
    (case l_all_names => k_is)
    (case c_all_names => k_is)
    (case k_all_names => k_is)
    (case a_difference => k_is)
    (case l_difference => k_is)
    (case c_difference => k_is)
    (case k_difference => k_is)
    (case a_merged_value => k_is)
    (case l_merged_value => k_is)
    (case c_merged_value => k_is)
    (case k_merged_value => k_is)
    (case a_raw_merged => k_is)
    (case l_raw_merged => k_is)
    (case c_raw_merged => k_is)
    (case k_raw_merged => k_is)
    (case a_merged => k_is)
    (case l_merged => k_is)
    (case c_merged => k_is)
    (case k_merged => k_is)
    (case a_law_tape => k_is)
    (case l_law_tape => k_is)
    (case c_law_tape => k_is)
    (case k_law_tape => k_is)
    (case a_law_pick => k_is)
    (case l_law_pick => k_is)
    (case c_law_pick => k_is)
    (case k_law_pick => k_is)
    (case a_law_any => k_is)
    (case l_law_any => k_is)
    (case c_law_any => k_is)
    (case k_law_any => k_is)
    (case a_law_table => k_is)
    (case l_law_table => k_is)
    (case c_law_table => k_is)
    (case k_law_table => k_is)
    (case a_law_turned => k_is)
    (case l_law_turned => k_is)
    (case c_law_turned => k_is)
    (case k_law_turned => k_is)
    (case a_law_merged => k_is)
    (case l_law_merged => k_is)
    (case c_law_merged => k_is)
    (case k_law_merged => k_is)
    (case a_law_word => k_is)
    (case l_law_word => k_is)
    (case c_law_word => k_is)
    (case k_law_word => k_is)
    (case a_law_no_table => k_is)
    (case l_law_no_table => k_is)
    (case c_law_no_table => k_is)
    (case k_law_no_table => k_is)
    (case a_law_unlike => k_is)
    (case l_law_unlike => k_is)
    (case c_law_unlike => k_is)
    (case k_law_unlike => k_is)
    (case a_law_led => k_is)
    (case l_law_led => k_is)
    (case c_law_led => k_is)
    (case k_law_led => k_is)
    (case a_law_part => k_is)
    (case l_law_part => k_is)
    (case c_law_part => k_is)
    (case k_law_part => k_is)
    (case a_law_are_right => k_is)
    (case l_law_are_right => k_is)
    (case c_law_are_right => k_is)
    (case k_law_are_right => k_is)
    (case a_law_bounds_right => k_is)
    (case l_law_bounds_right => k_is)
    (case c_law_bounds_right => k_is)
    (case k_law_bounds_right => k_is)
    (case a_law_word_of => k_is)
    (case l_law_word_of => k_is)
    (case c_law_word_of => k_is)
    (case k_law_word_of => k_is)
    (case a_law => k_is)
    (case l_law => k_is)
    (case c_law => k_is)
    (case k_law => k_is)
    (case z_ValueError => k_is)
    (case z_abs => k_is)
    (case z_all => k_is)
    (case z_bool => k_is)
    (case z_dict => k_is)
    (case z_int => k_is)
    (case z_isinstance => k_is)
    (case z_len => k_is)
    (case z_list => k_is)
    (case z_range => k_is)
    (case z_repr => k_is)
    (case z_sorted => k_is)
    (case z_str => k_is)
    (case z_tuple => k_is)
    (case k_MOST_NAMES => k_is)
    (case k_MOST_SIGNS => k_is)
    (case tab_law_bounds_right => first | k_is | rfl | decide +kernel)
    (case tab_law_word_of => first | k_is | rfl | decide +kernel)
    (case tab_law => first | k_is | rfl | decide +kernel)
    (case rec_law_bounds_right => first | rfl | decide +kernel)
    (case non_law_bounds_right => first | rfl | k_is | decide +kernel)
    (case rec_law_word_of => first | rfl | decide +kernel)
    (case non_law_word_of => first | rfl | k_is | decide +kernel)
    (case rec_law => first | rfl | decide +kernel)
    (case non_law => first | rfl | k_is | decide +kernel)
    (case ne_law_bounds_right__law_word_of => decide)
    (case ne_law_bounds_right__law => decide)
    (case ne_law_word_of__law => decide)

