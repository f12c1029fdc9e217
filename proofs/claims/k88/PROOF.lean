import PyProof.Rows.All
import Wide.All
import OpenK.AllK
import Wide.FinOn
import KE.KStateDown
import Lean
import HandS.ForMost
import HandS.ForExc
import KE.SortData
import KE.DataEq
import KE.DataCmp
import HandS.Conv
import HandS.More
import HandS.SetKeys
import HandS.Zip
import HandS.Exc
import HandS.ExcOwn
import HandS.ExcInit
import HandS.ExcField
import HandS.ExcIs
import HandS.Defaults
import HandS.Ends
import HandS.HeadEnd
import HandS.Text
import HandS.Style
import HandS.IsInst
import KE.KRevSl
import HandS.HeadHook1
import HandS.HeadHook2
import HandS.Head0
import HandS.Head1
import HandS.Head2
import PySem.Challenge.RW_suffixhouse_k88_words_that_tell_houses
set_option Elab.async false
set_option linter.all false
set_option maxRecDepth 100000
set_option maxHeartbeats 0
/-! ## GA: data over the heap, the frozen zone, the cells of a def -/
namespace G
open PySem PySem.Spec PyProof.Rows L2

/-- data: the dicts by the kind of their keys -/
inductive D where
  | none
  | bool (b : Bool)
  | int (i : Int)
  | str (x : Str)
  | list (xs : List D)
  | tuple (xs : List D)
  | dK (m : List (Key × D))
  | dT (m : List (List Key × D))
/-- a key as data -/
def kD : Key → D
  | .inl i => .int i
  | .inr x => .str x
def kP : Key → PyData
  | .inl i => .int i
  | .inr x => .str x
mutual
/-- as the library's data -/
def D.py : D → PyData
  | .none => .none
  | .bool b => .bool b
  | .int i => .int i
  | .str x => .str x
  | .list xs => .list (pyL xs)
  | .tuple xs => .tuple (pyL xs)
  | .dK m => .dict (pyK m)
  | .dT m => .dict (pyT m)
def pyL : List D → List PyData
  | [] => []
  | d :: ds => d.py :: pyL ds
def pyK : List (Key × D) → List (PyData × PyData)
  | [] => []
  | (k, d) :: m => (kP k, d.py) :: pyK m
def pyT : List (List Key × D) → List (PyData × PyData)
  | [] => []
  | (k, d) :: m => (.tuple (k.map kP), d.py) :: pyT m
end
theorem pyL_map : ∀ ds : List D, pyL ds = ds.map D.py
  | [] => by simp [pyL]
  | d :: ds => by simp [pyL, pyL_map ds]
theorem kD_py (k : Key) : (kD k).py = kP k := by cases k <;> simp [kD, kP, D.py]

mutual
/-- the value v is the data d in the zone H -/
inductive Rp (H : Hp) : V → D → Prop
  | non : Rp H .non .none
  | bl (b : Bool) : Rp H (.bl b) (.bool b)
  | int (i : Int) : Rp H (.int i) (.int i)
  | str (x : Str) : Rp H (.str x) (.str x)
  | lst {a : Addr} {xs : List V} {ds : List D} : Rd H a (.lst xs) → RpL H xs ds → Rp H (.ref a) (.list ds)
  | tup {a : Addr} {xs : List V} {ds : List D} : H a = some (.tup xs) → RpL H xs ds → Rp H (.ref a) (.tuple ds)
  | dK {a : Addr} {kvs : List (Key × V)} {m : List (Key × D)} : Rd H a (.dK kvs) → RpM H kvs m → Rp H (.ref a) (.dK m)
  | dT {a : Addr} {kvs : List (List Key × V)} {m : List (List Key × D)} : Rd H a (.dT kvs) → RpM H kvs m → Rp H (.ref a) (.dT m)
inductive RpL (H : Hp) : List V → List D → Prop
  | nil : RpL H [] []
  | cons {v : V} {vs : List V} {d : D} {ds : List D} : Rp H v d → RpL H vs ds → RpL H (v :: vs) (d :: ds)
inductive RpM (H : Hp) : {κ : Type} → List (κ × V) → List (κ × D) → Prop
  | nil {κ : Type} : RpM H (κ := κ) [] []
  | cons {κ : Type} {k : κ} {v : V} {vs : List (κ × V)} {d : D} {ds : List (κ × D)} : Rp H v d → RpM H vs ds → RpM H ((k, v) :: vs) ((k, d) :: ds)
end

def isDic : HO → Prop
  | .dK _ => True
  | .dT _ => True
  | _ => False
/-- what was known stays known; a dict may be locked -/
def SameL (H H' : Hp) : Prop := ∀ a o, H a = some o → H' a = some o ∨ (isDic o ∧ ∃ od, H' a = some (.frz od o))
theorem SameL.refl (H : Hp) : SameL H H := fun _ _ h => .inl h
theorem SameL.of {H H' : Hp} (h : Same H H') : SameL H H' := fun a o e => .inl (h a o e)
theorem SameL.trans {H H1 H2 : Hp} (x : SameL H H1) (y : SameL H1 H2) : SameL H H2 := fun a o e => by
  rcases x a o e with h | ⟨d, od, h⟩
  · exact y a o h
  · rcases y a _ h with h | ⟨d', _⟩
    · exact .inr ⟨d, od, h⟩
    · exact absurd d' (by intro z; cases z)
theorem SameL.rd {H H' : Hp} {a : Addr} {u : HO} (x : SameL H H') (h : Rd H a u) : Rd H' a u := by
  rcases h with h | ⟨o, h⟩
  · rcases x a u h with h | ⟨_, od, h⟩
    · exact .inl h
    · exact .inr ⟨od, h⟩
  · rcases x a _ h with h | ⟨d', _⟩
    · exact .inr ⟨o, h⟩
    · exact absurd d' (by intro z; cases z)
theorem SameL.tup {H H' : Hp} {a : Addr} {xs : List V} (x : SameL H H') (h : H a = some (.tup xs)) : H' a = some (.tup xs) := by
  rcases x a _ h with h | ⟨d', _⟩
  · exact h
  · exact absurd d' (by intro z; cases z)
theorem SameL.none {H H' : Hp} {a : Addr} (x : SameL H H') (h : H' a = none) : H a = none := by
  cases e : H a with
  | none => rfl
  | some o =>
    rcases x a o e with q | ⟨_, od, q⟩
    · rw [h] at q; cases q
    · rw [h] at q; cases q
mutual
theorem Rp.mono {H H' : Hp} (x : SameL H H') : ∀ {v : V} {d : D}, Rp H v d → Rp H' v d
  | _, _, .non => .non
  | _, _, .bl b => .bl b
  | _, _, .int i => .int i
  | _, _, .str z => .str z
  | _, _, .lst h l => .lst (x.rd h) (RpL.mono x l)
  | _, _, .tup h l => .tup (x.tup h) (RpL.mono x l)
  | _, _, .dK h l => .dK (x.rd h) (RpM.mono x l)
  | _, _, .dT h l => .dT (x.rd h) (RpM.mono x l)
theorem RpL.mono {H H' : Hp} (x : SameL H H') : ∀ {v : List V} {d : List D}, RpL H v d → RpL H' v d
  | _, _, .nil => .nil
  | _, _, .cons h l => .cons (Rp.mono x h) (RpL.mono x l)
theorem RpM.mono {H H' : Hp} (x : SameL H H') : ∀ {κ : Type} {v : List (κ × V)} {d : List (κ × D)}, RpM H v d → RpM H' v d
  | _, _, _, .nil => .nil
  | _, _, _, .cons h l => .cons (Rp.mono x h) (RpM.mono x l)
end
theorem RpL.length {H : Hp} : ∀ {vs : List V} {ds : List D}, RpL H vs ds → vs.length = ds.length
  | _, _, .nil => rfl
  | _, _, .cons _ l => by rw [List.length_cons, List.length_cons, RpL.length l]
theorem RpM.length {H : Hp} : ∀ {κ : Type} {vs : List (κ × V)} {ds : List (κ × D)}, RpM H vs ds → vs.length = ds.length
  | _, _, _, .nil => rfl
  | _, _, _, .cons _ l => by rw [List.length_cons, List.length_cons, RpM.length l]
theorem RpL.get {H : Hp} : ∀ {vs : List V} {ds : List D} {i : Nat} {d : D}, RpL H vs ds → ds[i]? = some d → ∃ v, vs[i]? = some v ∧ Rp H v d
  | _, _, _, _, .nil, e => by simp at e
  | _, _, 0, _, .cons h _, e => by simp at e; subst e; exact ⟨_, rfl, h⟩
  | _, _, i + 1, _, .cons _ l, e => by
    obtain ⟨v, h1, h2⟩ := RpL.get (i := i) l (by simpa using e)
    exact ⟨v, by simpa using h1, h2⟩
theorem RpL.getV {H : Hp} : ∀ {vs : List V} {ds : List D} {i : Nat} {v : V}, RpL H vs ds → vs[i]? = some v → ∃ d, ds[i]? = some d ∧ Rp H v d
  | _, _, _, _, .nil, e => by simp at e
  | _, _, 0, _, .cons h _, e => by simp at e; subst e; exact ⟨_, rfl, h⟩
  | _, _, i + 1, _, .cons _ l, e => by
    obtain ⟨v, h1, h2⟩ := RpL.getV (i := i) l (by simpa using e)
    exact ⟨v, by simpa using h1, h2⟩
theorem RpL.append {H : Hp} : ∀ {vs ws : List V} {ds es : List D}, RpL H vs ds → RpL H ws es → RpL H (vs ++ ws) (ds ++ es)
  | _, _, _, _, .nil, s => s
  | _, _, _, _, .cons h l, s => .cons h (RpL.append l s)
theorem RpL.take {H : Hp} : ∀ {vs : List V} {ds : List D} (n : Nat), RpL H vs ds → RpL H (vs.take n) (ds.take n)
  | _, _, 0, _ => .nil
  | _, _, _ + 1, .nil => .nil
  | _, _, n + 1, .cons h l => .cons h (RpL.take n l)
theorem RpL.drop {H : Hp} : ∀ {vs : List V} {ds : List D} (n : Nat), RpL H vs ds → RpL H (vs.drop n) (ds.drop n)
  | _, _, 0, l => l
  | _, _, _ + 1, .nil => .nil
  | _, _, n + 1, .cons _ l => RpL.drop n l
theorem RpL.set {H : Hp} {v : V} {d : D} (r : Rp H v d) : ∀ {vs : List V} {ds : List D} (n : Nat), RpL H vs ds → RpL H (vs.set n v) (ds.set n d)
  | _, _, _, .nil => .nil
  | _, _, 0, .cons _ l => .cons r l
  | _, _, n + 1, .cons h l => .cons h (RpL.set r n l)
theorem RpL.reverse {H : Hp} : ∀ {vs : List V} {ds : List D}, RpL H vs ds → RpL H vs.reverse ds.reverse
  | _, _, .nil => .nil
  | _, _, .cons h l => by rw [List.reverse_cons, List.reverse_cons]; exact (RpL.reverse l).append (.cons h .nil)
theorem RpL.dropLast {H : Hp} {vs : List V} {ds : List D} (h : RpL H vs ds) : RpL H vs.dropLast ds.dropLast := by
  rw [List.dropLast_eq_take, List.dropLast_eq_take, h.length]
  exact h.take _
theorem RpL.mapInt {H : Hp} : ∀ (ns : List Int), RpL H (ns.map V.int) (ns.map D.int)
  | [] => .nil
  | n :: r => .cons (.int n) (RpL.mapInt r)
theorem RpL.ints {H : Hp} : ∀ {ns : List Int} {vs : List V}, RpL H vs (ns.map D.int) → vs = ns.map V.int
  | [], _, .nil => rfl
  | n :: r, _, .cons h l => by
    cases h
    rw [RpL.ints l]
    rfl
theorem RpL.bools {H : Hp} : ∀ {ns : List Bool} {vs : List V}, RpL H vs (ns.map D.bool) → vs = ns.map V.bl
  | [], _, .nil => rfl
  | n :: r, _, .cons h l => by
    cases h
    rw [RpL.bools l]
    rfl
theorem RpL.strs {H : Hp} : ∀ {ns : List Str} {vs : List V}, RpL H vs (ns.map D.str) → vs = ns.map V.str
  | [], _, .nil => rfl
  | n :: r, _, .cons h l => by
    cases h
    rw [RpL.strs l]
    rfl
/-- an atom -/
def atom : D → Bool
  | .none => true
  | .bool _ => true
  | .int _ => true
  | .str _ => true
  | _ => false
theorem Rp.atom {H H' : Hp} {v : V} {d : D} (r : Rp H v d) (a : atom d = true) : Rp H' v d := by
  cases r <;> first | exact .non | exact .bl _ | exact .int _ | exact .str _ | cases a

/-! ### the zone and the heap grow -/
/-- from the zone F within the heap H to the zone F' within H': what is outside of the zone is left as it is (a tuple may be taken in) -/
structure Ext (F H F' H' : Hp) : Prop where
  fwd : SameL F F'
  sub : Same F' H'
  keep : ∀ a o, H a = some o → F a = none → H' a = some o ∧ (F' a = none ∨ ∃ xs, o = .tup xs)
theorem Ext.refl {F H : Hp} (s : Same F H) : Ext F H F H := ⟨SameL.refl F, s, fun _ _ h n => ⟨h, .inl n⟩⟩
theorem Ext.trans {F H F1 H1 F2 H2 : Hp} (a : Ext F H F1 H1) (b : Ext F1 H1 F2 H2) : Ext F H F2 H2 :=
  ⟨a.fwd.trans b.fwd, b.sub, fun c o h n => by
    obtain ⟨h1, n1⟩ := a.keep c o h n
    rcases n1 with n1 | ⟨xs, rfl⟩
    · exact b.keep c o h1 n1
    · cases e : F1 c with
      | none => exact b.keep c _ h1 e
      | some u =>
        have z := a.sub c u e
        rw [h1] at z
        cases z
        exact ⟨b.sub c _ (b.fwd.tup e), .inr ⟨xs, rfl⟩⟩⟩
theorem Ext.sameL {F H F' H' : Hp} (s : Same F H) (x : Ext F H F' H') : SameL H H' := fun a o e => by
  cases q : F a with
  | none => exact .inl (x.keep a o e q).1
  | some u =>
    have e' := s a u q
    rw [e] at e'
    cases e'
    rcases x.fwd a o q with h | ⟨d, od, h⟩
    · exact .inl (x.sub a _ h)
    · exact .inr ⟨d, od, x.sub a _ h⟩
theorem Ext.free {F H F' H' : Hp} (s : Same F H) (x : Ext F H F' H') {a : Addr} (h : H' a = none) : H a = none := (x.sameL s).none h
/-- a new object beside the zone | in the zone -/
theorem Ext.new {F H : Hp} {p : Addr} {o : HO} (s : Same F H) (h : H p = none) : Ext F H F (upd H p o) :=
  ⟨SameL.refl F, fun a u e => by rw [upd_ne (ne_of_none (s a u e) h)]; exact s a u e, fun a u e n => ⟨by rw [upd_ne (ne_of_none e h)]; exact e, .inl n⟩⟩
theorem Ext.newF {F H : Hp} {p : Addr} {o : HO} (s : Same F H) (h : H p = none) : Ext F H (upd F p o) (upd H p o) := by
  have hF : F p = none := by
    cases e : F p with
    | none => rfl
    | some u => rw [s p u e] at h; cases h
  refine ⟨fun a u e => .inl (by rw [upd_ne (ne_of_none e hF)]; exact e), fun a u e => ?_, fun a u e n => ⟨by rw [upd_ne (ne_of_none e h)]; exact e, .inl (by rw [upd_ne (ne_of_none e h)]; exact n)⟩⟩
  by_cases q : a = p
  · subst q; rw [upd_same] at e ⊢; exact e
  · rw [upd_ne q] at e ⊢; exact s a u e
/-- a tuple of the heap is taken into the zone -/
theorem Ext.tup {F H : Hp} {p : Addr} {xs : List V} (s : Same F H) (h : H p = some (.tup xs)) : ∃ F', Ext F H F' H ∧ F' p = some (.tup xs) := by
  cases e : F p with
  | some u =>
    have z := s p u e
    rw [h] at z
    cases z
    exact ⟨F, .refl s, e⟩
  | none =>
    refine ⟨upd F p (.tup xs), ⟨fun a u e1 => .inl (by rw [upd_ne (ne_of_none e1 e)]; exact e1), fun a u e1 => ?_, fun a u e1 n => ⟨e1, ?_⟩⟩, upd_same⟩
    · by_cases q : a = p
      · subst q; rw [upd_same] at e1; rw [h]; exact e1
      · rw [upd_ne q] at e1; exact s a u e1
    · by_cases q : a = p
      · subst q
        rw [h] at e1
        exact .inr ⟨xs, (Option.some.inj e1).symm⟩
      · exact .inl (by rw [upd_ne q]; exact n)
/-- a dict of the zone is locked -/
theorem Ext.lock {F H : Hp} {p : Addr} {o : HO} {od : Obj} (s : Same F H) (h : F p = some o) (d : isDic o) : Ext F H (upd F p (.frz od o)) (upd H p (.frz od o)) := by
  refine ⟨fun a u e => ?_, fun a u e => ?_, fun a u e n => ?_⟩
  · by_cases q : a = p
    · subst q
      rw [h] at e
      cases e
      exact .inr ⟨d, od, upd_same⟩
    · exact .inl (by rw [upd_ne q]; exact e)
  · by_cases q : a = p
    · subst q; rw [upd_same] at e ⊢; exact e
    · rw [upd_ne q] at e ⊢; exact s a u e
  · have q : a ≠ p := fun z => by rw [z, h] at n; cases n
    exact ⟨by rw [upd_ne q]; exact e, .inl (by rw [upd_ne q]; exact n)⟩
/-- an object of the heap is taken into the zone -/
theorem Ext.take {F H : Hp} {p : Addr} {o : HO} (s : Same F H) (h : H p = some o) (n : F p = none) : Same (upd F p o) H ∧ SameL F (upd F p o) :=
  ⟨fun a u e => by
    by_cases q : a = p
    · subst q; rw [upd_same] at e; rw [h]; exact e
    · rw [upd_ne q] at e; exact s a u e, fun a u e => .inl (by rw [upd_ne (ne_of_none e n)]; exact e)⟩

/-! ### the cells of a def -/
inductive Cl where
  /-- not bound, or not asked for -/
  | no
  /-- frozen data -/
  | fr (d : D)
  /-- the def's own list or dict, held by nobody else -/
  | ow (d : D)
  /-- a caught exception, its dict, its number -/
  | xc (a d : Addr) (n : Int)
/-- the content of an own object -/
inductive Own (F H : Hp) (p : Addr) : D → Prop
  | lst {xs : List V} {ds : List D} : H p = some (.lst xs) → RpL F xs ds → Own F H p (.list ds)
  | dK {kvs : List (Key × V)} {m : List (Key × D)} : H p = some (.dK kvs) → RpM F kvs m → Own F H p (.dK m)
  | dT {kvs : List (List Key × V)} {m : List (List Key × D)} : H p = some (.dT kvs) → RpM F kvs m → Own F H p (.dT m)
theorem Own.there {F H : Hp} {p : Addr} {d : D} : Own F H p d → ∃ o, H p = some o
  | .lst h _ => ⟨_, h⟩
  | .dK h _ => ⟨_, h⟩
  | .dT h _ => ⟨_, h⟩
theorem Own.notTup {F H : Hp} {p : Addr} {d : D} {o : HO} (x : Own F H p d) (h : H p = some o) : ¬ ∃ xs, o = .tup xs := by
  rintro ⟨xs, rfl⟩
  cases x with
  | lst g _ => rw [h] at g; cases g
  | dK g _ => rw [h] at g; cases g
  | dT g _ => rw [h] at g; cases g
theorem Own.ext {F H F' H' : Hp} {p : Addr} {d : D} (q : Own F H p d) (n : F p = none) (x : Ext F H F' H') : F' p = none ∧ ∀ o, H p = some o → H' p = some o := by
  obtain ⟨o, ho⟩ := q.there
  refine ⟨?_, fun o' ho' => (x.keep p o' ho' n).1⟩
  rcases (x.keep p o ho n).2 with h | h
  · exact h
  · exact absurd h (q.notTup ho)
theorem Own.mono {F H F' H' : Hp} {p : Addr} {d : D} (x : SameL F F') (k : ∀ o, H p = some o → H' p = some o) : Own F H p d → Own F' H' p d
  | .lst h l => .lst (k _ h) (l.mono x)
  | .dK h l => .dK (k _ h) (l.mono x)
  | .dT h l => .dT (k _ h) (l.mono x)
/-- as it stands now -/
theorem Own.rp {F H : Hp} {p : Addr} {d : D} (s : Same F H) : Own F H p d → Rp H (.ref p) d
  | .lst h l => .lst (.inl h) (l.mono (.of s))
  | .dK h l => .dK (.inl h) (l.mono (.of s))
  | .dT h l => .dT (.inl h) (l.mono (.of s))
/-- taken into the zone -/
theorem Own.freeze {F H : Hp} {p : Addr} {d : D} (s : Same F H) (n : F p = none) (h : Own F H p d) : ∃ F', SameL F F' ∧ Same F' H ∧ (∀ q, q ≠ p → F' q = F q) ∧ Rp F' (.ref p) d := by
  cases h with
  | lst h l => exact ⟨_, (Ext.take s h n).2, (Ext.take s h n).1, fun q hq => upd_ne hq, .lst (.inl upd_same) (l.mono (Ext.take s h n).2)⟩
  | dK h l => exact ⟨_, (Ext.take s h n).2, (Ext.take s h n).1, fun q hq => upd_ne hq, .dK (.inl upd_same) (l.mono (Ext.take s h n).2)⟩
  | dT h l => exact ⟨_, (Ext.take s h n).2, (Ext.take s h n).1, fun q hq => upd_ne hq, .dT (.inl upd_same) (l.mono (Ext.take s h n).2)⟩

/-- what may be read: frozen data, or an own object whose items are frozen -/
def Rb (F H : Hp) (v : V) (d : D) : Prop := Rp F v d ∨ ∃ p, v = .ref p ∧ F p = none ∧ Own F H p d
theorem Rb.rp {F H : Hp} {v : V} {d : D} (s : Same F H) : Rb F H v d → Rp H v d
  | .inl h => h.mono (.of s)
  | .inr ⟨p, e, _, o⟩ => e ▸ o.rp s
theorem Rb.ext {F H F' H' : Hp} {v : V} {d : D} (x : Ext F H F' H') : Rb F H v d → Rb F' H' v d
  | .inl h => .inl (h.mono x.fwd)
  | .inr ⟨p, e, n, o⟩ => .inr ⟨p, e, (o.ext n x).1, o.mono x.fwd (o.ext n x).2⟩
theorem Rb.atom {F H F' : Hp} {v : V} {d : D} (a : atom d = true) : Rb F H v d → Rp F' v d
  | .inl h => h.atom a
  | .inr ⟨p, e, n, o⟩ => by cases o <;> cases a
theorem Rb.int {F H : Hp} {v : V} {i : Int} (h : Rb F H v (.int i)) : v = .int i := by
  have q := h.atom (F' := F) rfl
  cases q; rfl
theorem Rb.str {F H : Hp} {v : V} {i : Str} (h : Rb F H v (.str i)) : v = .str i := by
  have q := h.atom (F' := F) rfl
  cases q; rfl
theorem Rb.bool {F H : Hp} {v : V} {i : Bool} (h : Rb F H v (.bool i)) : v = .bl i := by
  have q := h.atom (F' := F) rfl
  cases q; rfl
theorem Rb.list {F H : Hp} {v : V} {ds : List D} (s : Same F H) : Rb F H v (.list ds) → ∃ a xs, v = .ref a ∧ Rd H a (.lst xs) ∧ RpL F xs ds
  | .inl h => by
    cases h with
    | lst g l => exact ⟨_, _, rfl, (SameL.of s).rd g, l⟩
  | .inr ⟨p, e, _, o⟩ => by
    cases o with
    | lst g l => exact ⟨_, _, e, .inl g, l⟩
theorem Rb.tuple {F H : Hp} {v : V} {ds : List D} (s : Same F H) : Rb F H v (.tuple ds) → ∃ a xs, v = .ref a ∧ F a = some (.tup xs) ∧ H a = some (.tup xs) ∧ RpL F xs ds
  | .inl h => by
    cases h with
    | tup g l => exact ⟨_, _, rfl, g, s _ _ g, l⟩
  | .inr ⟨p, e, _, o⟩ => by cases o
theorem Rb.dK {F H : Hp} {v : V} {m : List (Key × D)} (s : Same F H) : Rb F H v (.dK m) → ∃ a kvs, v = .ref a ∧ Rd H a (.dK kvs) ∧ RpM F kvs m
  | .inl h => by
    cases h with
    | dK g l => exact ⟨_, _, rfl, (SameL.of s).rd g, l⟩
  | .inr ⟨p, e, _, o⟩ => by
    cases o with
    | dK g l => exact ⟨_, _, e, .inl g, l⟩
theorem Rb.dT {F H : Hp} {v : V} {m : List (List Key × D)} (s : Same F H) : Rb F H v (.dT m) → ∃ a kvs, v = .ref a ∧ Rd H a (.dT kvs) ∧ RpM F kvs m
  | .inl h => by
    cases h with
    | dT g l => exact ⟨_, _, rfl, (SameL.of s).rd g, l⟩
  | .inr ⟨p, e, _, o⟩ => by
    cases o with
    | dT g l => exact ⟨_, _, e, .inl g, l⟩
inductive RbL (F H : Hp) : List V → List D → Prop
  | nil : RbL F H [] []
  | cons {v : V} {vs : List V} {d : D} {ds : List D} : Rb F H v d → RbL F H vs ds → RbL F H (v :: vs) (d :: ds)
theorem RbL.ext {F H F' H' : Hp} (x : Ext F H F' H') : ∀ {vs : List V} {ds : List D}, RbL F H vs ds → RbL F' H' vs ds
  | _, _, .nil => .nil
  | _, _, .cons h l => .cons (h.ext x) (RbL.ext x l)
theorem RpL.rb {F H : Hp} : ∀ {vs : List V} {ds : List D}, RpL F vs ds → RbL F H vs ds
  | _, _, .nil => .nil
  | _, _, .cons h l => .cons (.inl h) (RpL.rb l)
theorem RbL.rp {F H : Hp} (s : Same F H) : ∀ {vs : List V} {ds : List D}, RbL F H vs ds → RpL H vs ds
  | _, _, .nil => .nil
  | _, _, .cons h l => .cons (h.rp s) (RbL.rp s l)
theorem RbL.one {F H : Hp} {vs : List V} {d : D} (h : RbL F H vs [d]) : ∃ v, vs = [v] ∧ Rb F H v d := by
  cases h with
  | cons h l => cases l; exact ⟨_, rfl, h⟩
theorem RbL.two {F H : Hp} {vs : List V} {d e : D} (h : RbL F H vs [d, e]) : ∃ v w, vs = [v, w] ∧ Rb F H v d ∧ Rb F H w e := by
  cases h with
  | cons h l =>
    obtain ⟨w, rfl, g⟩ := l.one
    exact ⟨_, _, rfl, h, g⟩

/-- the entry of a def: its zone, its heap; what the later zones keep -/
structure Bs where
  F : Hp
  H : Hp
  sub : Same F H
  Z : Hp → Prop
  mono : ∀ F F', Z F → SameL F F' → Z F'
def bs (F H : Hp) (s : Same F H) : Bs := ⟨F, H, s, fun _ => True, fun _ _ _ _ => True.intro⟩
abbrev Gm := List Cl
def SlR (B : Bs) (F H : Hp) (o : Option (Option V)) : Cl → Prop
  | .no => True
  | .fr d => ∃ v, o = some (some v) ∧ Rp F v d
  | .ow d => ∃ p, o = some (some (.ref p)) ∧ B.H p = none ∧ F p = none ∧ Own F H p d
  | .xc a d n => o = some (some (.ref a)) ∧ H d = some (.xd [("at", .int n)])
theorem Ext.xd {F H F' H' : Hp} {d : Addr} {fs : List (Str × V)} (s : Same F H) (x : Ext F H F' H') (h : H d = some (.xd fs)) : H' d = some (.xd fs) := by
  rcases x.sameL s d _ h with q | ⟨z, _⟩
  · exact q
  · exact z.elim
structure StR (B : Bs) (F : Hp) (σ : L2.St) (H : Hp) (Γ : Gm) : Prop where
  ex : Ext B.F B.H F H
  zn : B.Z F
  len : σ.length = Γ.length
  sl : ∀ (i : Nat) (c : Cl), Γ[i]? = some c → SlR B F H (σ[i]?) c
  inj : ∀ (i j : Nat) (p : Addr) (d e : D), Γ[i]? = some (.ow d) → Γ[j]? = some (.ow e) → σ[i]? = some (some (.ref p)) → σ[j]? = some (some (.ref p)) → i = j
theorem StR.fresh {B : Bs} {F H : Hp} {σ : L2.St} {Γ : Gm} (r : StR B F σ H Γ) {p : Addr} (n : H p = none) : B.H p = none := (r.ex.sameL B.sub).none n
theorem StR.sub {B : Bs} {F H : Hp} {σ : L2.St} {Γ : Gm} (r : StR B F σ H Γ) : Same F H := r.ex.sub
theorem StR.ext {B : Bs} {F H F' H' : Hp} {σ : L2.St} {Γ : Gm} (r : StR B F σ H Γ) (x : Ext F H F' H') : StR B F' σ H' Γ := by
  refine ⟨r.ex.trans x, B.mono _ _ r.zn x.fwd, r.len, fun i c e => ?_, r.inj⟩
  have h := r.sl i c e
  cases c with
  | no => trivial
  | fr d =>
    obtain ⟨v, e, q⟩ := h
    exact ⟨v, e, q.mono x.fwd⟩
  | ow d =>
    obtain ⟨p, e, b, n, q⟩ := h
    exact ⟨p, e, b, (q.ext n x).1, q.mono x.fwd (q.ext n x).2⟩
  | xc a d n => exact ⟨h.1, x.xd r.sub h.2⟩
/-- a slot is stored: frozen data -/
theorem StR.set {B : Bs} {F H : Hp} {σ : L2.St} {Γ : Gm} (r : StR B F σ H Γ) (i : Nat) {v : V} {d : D} (h : Rp F v d) : StR B F (σ.set i (some v)) H (Γ.set i (.fr d)) := by
  refine ⟨r.ex, r.zn, by rw [List.length_set, List.length_set, r.len], fun j c e => ?_, fun j k p d1 d2 e1 e2 e3 e4 => ?_⟩
  · by_cases hj : i = j
    · subst hj
      by_cases hi : i < Γ.length
      · rw [List.getElem?_set_self hi] at e
        cases e
        exact ⟨v, List.getElem?_set_self (by rw [r.len]; exact hi), h⟩
      · rw [List.getElem?_eq_none (by rw [List.length_set]; omega)] at e
        cases e
    · rw [List.getElem?_set_ne hj] at e ⊢
      exact r.sl j c e
  · have ne : ∀ (k : Nat) (d0 : D), (Γ.set i (.fr d))[k]? = some (.ow d0) → i ≠ k := fun k d0 e z => by
      subst z
      by_cases hi : i < Γ.length
      · rw [List.getElem?_set_self hi] at e; cases e
      · rw [List.getElem?_eq_none (by rw [List.length_set]; omega)] at e; cases e
    have n1 := ne j d1 e1
    have n2 := ne k d2 e2
    rw [List.getElem?_set_ne n1] at e1 e3
    rw [List.getElem?_set_ne n2] at e2 e4
    exact r.inj j k p d1 d2 e1 e2 e3 e4
/-- forget a slot -/
theorem StR.setNo {B : Bs} {F H : Hp} {σ : L2.St} {Γ : Gm} (r : StR B F σ H Γ) (i : Nat) (o : Option V) : StR B F (σ.set i o) H (Γ.set i .no) := by
  refine ⟨r.ex, r.zn, by rw [List.length_set, List.length_set, r.len], fun j c e => ?_, fun j k p d1 d2 e1 e2 e3 e4 => ?_⟩
  · by_cases hj : i = j
    · subst hj
      by_cases hi : i < Γ.length
      · rw [List.getElem?_set_self hi] at e
        cases e
        trivial
      · rw [List.getElem?_eq_none (by rw [List.length_set]; omega)] at e
        cases e
    · rw [List.getElem?_set_ne hj] at e ⊢
      exact r.sl j c e
  · have ne : ∀ (k : Nat) (d0 : D), (Γ.set i Cl.no)[k]? = some (.ow d0) → i ≠ k := fun k d0 e z => by
      subst z
      by_cases hi : i < Γ.length
      · rw [List.getElem?_set_self hi] at e; cases e
      · rw [List.getElem?_eq_none (by rw [List.length_set]; omega)] at e; cases e
    have n1 := ne j d1 e1
    have n2 := ne k d2 e2
    rw [List.getElem?_set_ne n1] at e1 e3
    rw [List.getElem?_set_ne n2] at e2 e4
    exact r.inj j k p d1 d2 e1 e2 e3 e4
/-- a slot is stored: an own object that no slot holds -/
theorem StR.setOw {B : Bs} {F H : Hp} {σ : L2.St} {Γ : Gm} (r : StR B F σ H Γ) (i : Nat) {p : Addr} {d : D} (b : B.H p = none) (n : F p = none) (h : Own F H p d)
    (fresh : ∀ (j : Nat) (e : D), Γ[j]? = some (.ow e) → σ[j]? ≠ some (some (.ref p))) : StR B F (σ.set i (some (.ref p))) H (Γ.set i (.ow d)) := by
  refine ⟨r.ex, r.zn, by rw [List.length_set, List.length_set, r.len], fun j c e => ?_, fun j k q d1 d2 e1 e2 e3 e4 => ?_⟩
  · by_cases hj : i = j
    · subst hj
      by_cases hi : i < Γ.length
      · rw [List.getElem?_set_self hi] at e
        cases e
        exact ⟨p, List.getElem?_set_self (by rw [r.len]; exact hi), b, n, h⟩
      · rw [List.getElem?_eq_none (by rw [List.length_set]; omega)] at e
        cases e
    · rw [List.getElem?_set_ne hj] at e ⊢
      exact r.sl j c e
  · by_cases hj : i = j
    · by_cases hk : i = k
      · rw [← hj, ← hk]
      · subst hj
        rw [List.getElem?_set_ne hk] at e2 e4
        by_cases hi : i < σ.length
        · rw [List.getElem?_set_self hi] at e3
          cases e3
          exact absurd e4 (fresh k d2 e2)
        · rw [List.getElem?_eq_none (by rw [List.length_set]; omega)] at e3; cases e3
    · rw [List.getElem?_set_ne hj] at e1 e3
      by_cases hk : i = k
      · subst hk
        by_cases hi : i < σ.length
        · rw [List.getElem?_set_self hi] at e4
          cases e4
          exact absurd e3 (fresh j d1 e1)
        · rw [List.getElem?_eq_none (by rw [List.length_set]; omega)] at e4; cases e4
      · rw [List.getElem?_set_ne hk] at e2 e4
        exact r.inj j k q d1 d2 e1 e2 e3 e4
/-- an own object changes its content -/
theorem StR.write {B : Bs} {F H : Hp} {σ : L2.St} {Γ : Gm} (r : StR B F σ H Γ) {i : Nat} {p : Addr} {d d' : D} {o : HO} (e : Γ[i]? = some (.ow d)) (ep : σ[i]? = some (some (.ref p))) (h : ∀ H', H' p = some o → Own F H' p d') :
    StR B F σ (upd H p o) (Γ.set i (.ow d')) := by
  have h0 := r.sl i _ e
  obtain ⟨p', e1, b, n, q⟩ := h0
  rw [ep] at e1
  obtain rfl : p = p' := by cases e1; rfl
  have hi : i < Γ.length := (List.getElem?_eq_some_iff.mp e).1
  have nF : ∀ a u, F a = some u → a ≠ p := fun a u e1 => ne_of_none e1 n
  refine ⟨⟨r.ex.fwd, fun a u e1 => by rw [upd_ne (nF a u e1)]; exact r.ex.sub a u e1, fun a u e1 n1 => ?_⟩, r.zn, by rw [List.length_set]; exact r.len, fun j c e1 => ?_, fun j k q d1 d2 e1 e2 e3 e4 => ?_⟩
  · have ne : a ≠ p := ne_of_none e1 b
    rw [upd_ne ne]
    exact r.ex.keep a u e1 n1
  · by_cases hj : i = j
    · subst hj
      rw [List.getElem?_set_self hi] at e1
      cases e1
      exact ⟨p, ep, b, n, h _ upd_same⟩
    · rw [List.getElem?_set_ne hj] at e1
      have g := r.sl j c e1
      cases c with
      | no => trivial
      | fr d => exact g
      | ow dj =>
        obtain ⟨pj, ej, bj, nj, qj⟩ := g
        refine ⟨pj, ej, bj, nj, qj.mono (SameL.refl F) fun u hu => ?_⟩
        have ne : pj ≠ p := fun z => hj (r.inj i j p d dj e e1 ep (z ▸ ej))
        rw [upd_ne ne]
        exact hu
      | xc a dd n =>
        refine ⟨g.1, ?_⟩
        rw [upd_ne (fun z => by
          have g2 := g.2
          rw [z] at g2
          cases q with
          | lst y _ => rw [y] at g2; cases g2
          | dK y _ => rw [y] at g2; cases g2
          | dT y _ => rw [y] at g2; cases g2)]
        exact g.2
  · have back : ∀ (j : Nat) (dj : D), (Γ.set i (.ow d'))[j]? = some (.ow dj) → ∃ d0, Γ[j]? = some (.ow d0) := fun j dj ej => by
      by_cases hj : i = j
      · subst hj; exact ⟨d, e⟩
      · rw [List.getElem?_set_ne hj] at ej; exact ⟨_, ej⟩
    obtain ⟨d1', e1'⟩ := back j d1 e1
    obtain ⟨d2', e2'⟩ := back k d2 e2
    exact r.inj j k q _ _ e1' e2' e3 e4
/-- an own object is frozen -/
theorem StR.freeze {B : Bs} {F H : Hp} {σ : L2.St} {Γ : Gm} (r : StR B F σ H Γ) {i : Nat} {d : D} (e : Γ[i]? = some (.ow d)) : ∃ F', StR B F' σ H (Γ.set i (.fr d)) ∧ SameL F F' := by
  obtain ⟨p, ep, b, n, q⟩ := r.sl i _ e
  obtain ⟨o, ho⟩ := q.there
  obtain ⟨F', s1, s2, s3, q'⟩ := q.freeze r.sub n
  have hi : i < Γ.length := (List.getElem?_eq_some_iff.mp e).1
  refine ⟨F', ⟨⟨r.ex.fwd.trans s1, s2, fun a u e1 n1 => ?_⟩, B.mono _ _ r.zn s1, by rw [List.length_set]; exact r.len, fun j c e1 => ?_, fun j k q d1 d2 e1 e2 e3 e4 => ?_⟩, s1⟩
  · have ne : a ≠ p := ne_of_none e1 b
    obtain ⟨h1, h2⟩ := r.ex.keep a u e1 n1
    refine ⟨h1, ?_⟩
    rw [s3 a ne]
    exact h2
  · by_cases hj : i = j
    · subst hj
      rw [List.getElem?_set_self hi] at e1
      cases e1
      exact ⟨.ref p, ep, q'⟩
    · rw [List.getElem?_set_ne hj] at e1
      have g := r.sl j c e1
      cases c with
      | no => trivial
      | fr d =>
        obtain ⟨v, h1, h2⟩ := g
        exact ⟨v, h1, h2.mono s1⟩
      | ow dj =>
        obtain ⟨pj, ej, bj, nj, qj⟩ := g
        have ne : pj ≠ p := fun z => hj (r.inj i j p d dj e e1 ep (z ▸ ej))
        exact ⟨pj, ej, bj, by rw [s3 pj ne]; exact nj, qj.mono s1 fun u hu => hu⟩
      | xc a dd n => exact g
  · have back : ∀ (j : Nat) (dj : D), (Γ.set i (.fr d))[j]? = some (.ow dj) → Γ[j]? = some (.ow dj) := fun j dj ej => by
      by_cases hj : i = j
      · subst hj
        rw [List.getElem?_set_self hi] at ej
        cases ej
      · rw [List.getElem?_set_ne hj] at ej; exact ej
    exact r.inj j k q _ _ (back j d1 e1) (back k d2 e2) e3 e4
end G

/-! ## GB: what an expression is worth over the cells -/
namespace G
open PySem PySem.Spec PyProof.Rows L2

/-! ### readings by meaning -/
def sE (X : Cx) (e : Expr) : TE := fun σ H Q => ∀ (pins : List (Addr × Obj)) (s : Shared), Inv X pins σ H s → wpAny (model X.prog X.w) X.A (eval e X.env) (EP X pins σ Q) X.xe s
def sT (X : Cx) (e : Expr) : TT := fun σ H Q => ∀ (pins : List (Addr × Obj)) (s : Shared), Inv X pins σ H s → wpAny (model X.prog X.w) X.A (isTrue e X.env (eval e X.env)) (TP X pins σ Q) X.xe s
def sA (X : Cx) (es : List Expr) : TA := fun σ H Q => ∀ (pos : Pos) (pins : List (Addr × Obj)) (s : Shared), Inv X pins σ H s → wpAny (model X.prog X.w) X.A (spliced (backTo pos (starEach es X.env))) (AP X pins σ Q) X.xe s
def sSs (X : Cx) (st : List Stmt) : TS := fun D σ H => ∀ (pins : List (Addr × Obj)) (s : Shared), Inv X pins σ H s → wpAny (model X.prog X.w) X.A (execs st X.env) (SP X pins D) X.xe s
def sG (X : Cx) (tg : Expr) : TG := fun v σ H Q => ∀ (pins : List (Addr × Obj)) (s : Shared) (u : Value), Inv X pins σ H s → RelV v u → wpAny (model X.prog X.w) X.A (assign tg X.env u) (fun _ s' => ∃ σ' H', Inv X pins σ' H' s' ∧ Q σ' H') X.xe s
theorem pe_s {X : Cx} {e : Expr} : PE X e (sE X e) := ⟨fun pins s σ H Q I h => h pins s I⟩
theorem pt_s {X : Cx} {e : Expr} : PT X e (sT X e) := ⟨fun pins s σ H Q I h => h pins s I⟩
theorem pa_s {X : Cx} {es : List Expr} : PA X es (sA X es) := ⟨fun pos pins s σ H Q I h => h pos pins s I⟩
theorem pss_s {X : Cx} {st : List Stmt} : PSs X st (sSs X st) := ⟨fun pins s σ H D I h => h pins s I⟩
theorem pg_s {X : Cx} {tg : Expr} : PG X tg (sG X tg) := ⟨fun pins s σ H v u Q I r h => h pins s u I r⟩

/-! ### what a reading is worth -/
section
variable (B : Bs)
/-- frozen data | as it stands now | a new object that nobody holds | a test -/
def EvF (t : TE) (Γ : Gm) (d : D) : Prop := ∀ F σ H, StR B F σ H Γ → ∀ Q : VK, (∀ v F' H', Ext F H F' H' → Rp F' v d → Q v H') → t σ H Q
def EvB (t : TE) (Γ : Gm) (d : D) : Prop := ∀ F σ H, StR B F σ H Γ → ∀ Q : VK, (∀ v F' H', Ext F H F' H' → Rb F' H' v d → Q v H') → t σ H Q
def EvO (t : TE) (Γ : Gm) (d : D) : Prop := ∀ F σ H, StR B F σ H Γ → ∀ Q : VK, (∀ p F' H', Ext F H F' H' → H p = none → F' p = none → Own F' H' p d → Q (.ref p) H') → t σ H Q
def EvT (t : TT) (Γ : Gm) (b : Bool) : Prop := ∀ F σ H, StR B F σ H Γ → ∀ Q : Bool → Hp → Prop, (∀ F' H', Ext F H F' H' → Q b H') → t σ H Q
def EvA (t : TA) (Γ : Gm) (ds : List D) : Prop := ∀ F σ H, StR B F σ H Γ → ∀ Q : List V → Hp → Prop, (∀ vs F' H', Ext F H F' H' → RbL F' H' vs ds → Q vs H') → t σ H Q
def EvL (t : TA) (Γ : Gm) (ds : List D) : Prop := ∀ F σ H, StR B F σ H Γ → ∀ Q : List V → Hp → Prop, (∀ vs F' H', Ext F H F' H' → RpL F' vs ds → Q vs H') → t σ H Q
variable (X : Cx)
def XF (e : Expr) (Γ : Gm) (d : D) : Prop := EvF B (sE X e) Γ d
def XB (e : Expr) (Γ : Gm) (d : D) : Prop := EvB B (sE X e) Γ d
def XO (e : Expr) (Γ : Gm) (d : D) : Prop := EvO B (sE X e) Γ d
def XT (e : Expr) (Γ : Gm) (b : Bool) : Prop := EvT B (sT X e) Γ b
def XA (es : List Expr) (Γ : Gm) (ds : List D) : Prop := EvA B (sA X es) Γ ds
def XL (es : List Expr) (Γ : Gm) (ds : List D) : Prop := EvL B (sA X es) Γ ds
end
section
variable {B : Bs} {X : Cx} {e e1 e2 e3 : Expr} {es : List Expr} {Γ : Gm} {d da db dc : D} {ds : List D} {t ta tb tc : TE} {tt : TT} {k l : Bool} {pos : Pos}
theorem EvF.b (h : EvF B t Γ d) : EvB B t Γ d := fun F σ H r Q q => h F σ H r Q fun v F' H' x p => q v F' H' x (.inl p)
theorem EvO.f (h : EvO B t Γ d) : EvF B t Γ d := fun F σ H r Q q => h F σ H r Q fun p F' H' x n n' o => by
  obtain ⟨F2, s1, s2, s3, q'⟩ := o.freeze x.sub n'
  refine q _ F2 H' ⟨x.fwd.trans s1, s2, fun a o' h1 h2 => ?_⟩ q'
  have ne : a ≠ p := ne_of_none h1 n
  obtain ⟨k1, k2⟩ := x.keep a o' h1 h2
  refine ⟨k1, ?_⟩
  rw [s3 a ne]
  exact k2
theorem EvO.b (h : EvO B t Γ d) : EvB B t Γ d := fun F σ H r Q q => h F σ H r Q fun p F' H' x n n' o => q _ F' H' x (.inr ⟨p, rfl, n', o⟩)
/-- an atom that stands now is frozen data -/
theorem EvB.f (h : EvB B t Γ d) (at_ : atom d = true) : EvF B t Γ d := fun F σ H r Q q => h F σ H r Q fun v F' H' x p => q v F' H' x (p.atom at_)
theorem EvL.a {t : TA} (h : EvL B t Γ ds) : EvA B t Γ ds := fun F σ H r Q q => h F σ H r Q fun v F' H' x p => q v F' H' x p.rb
theorem XF.b (h : XF B X e Γ d) : XB B X e Γ d := EvF.b h
theorem XO.f (h : XO B X e Γ d) : XF B X e Γ d := EvO.f h
theorem XO.b (h : XO B X e Γ d) : XB B X e Γ d := EvO.b h
theorem XB.f (h : XB B X e Γ d) (at_ : atom d = true) : XF B X e Γ d := EvB.f h at_
theorem XL.a (h : XL B X es Γ ds) : XA B X es Γ ds := EvL.a h
theorem xf_of (p : PE X e t) (h : EvF B t Γ d) : XF B X e Γ d := fun F σ H r Q q pins s I => p.run pins s σ H Q I (h F σ H r Q q)
theorem xb_of (p : PE X e t) (h : EvB B t Γ d) : XB B X e Γ d := fun F σ H r Q q pins s I => p.run pins s σ H Q I (h F σ H r Q q)
theorem xo_of (p : PE X e t) (h : EvO B t Γ d) : XO B X e Γ d := fun F σ H r Q q pins s I => p.run pins s σ H Q I (h F σ H r Q q)
theorem xt_of (p : PT X e tt) (h : EvT B tt Γ k) : XT B X e Γ k := fun F σ H r Q q pins s I => p.run pins s σ H Q I (h F σ H r Q q)
theorem xa_of {t : TA} (p : PA X es t) (h : EvA B t Γ ds) : XA B X es Γ ds := fun F σ H r Q q pos pins s I => p.run pos pins s σ H Q I (h F σ H r Q q)
theorem xl_of {t : TA} (p : PA X es t) (h : EvL B t Γ ds) : XL B X es Γ ds := fun F σ H r Q q pos pins s I => p.run pos pins s σ H Q I (h F σ H r Q q)
/-- equal data -/
theorem XF.to {d' : D} (h : XF B X e Γ d) (q : d = d') : XF B X e Γ d' := q ▸ h
theorem XB.to {d' : D} (h : XB B X e Γ d) (q : d = d') : XB B X e Γ d' := q ▸ h
theorem XO.to {d' : D} (h : XO B X e Γ d) (q : d = d') : XO B X e Γ d' := q ▸ h
theorem XT.to (h : XT B X e Γ k) (q : k = l) : XT B X e Γ l := q ▸ h

/-! ### names and constants -/
theorem evf_var {i : Nat} (h : Γ[i]? = some (.fr d)) : EvF B (tVar i) Γ d := fun F σ H r Q q => by
  obtain ⟨v, e, p⟩ := r.sl i _ h
  exact ⟨v, e, q v F H (.refl r.sub) p⟩
theorem evb_own {i : Nat} (h : Γ[i]? = some (.ow d)) : EvB B (tVar i) Γ d := fun F σ H r Q q => by
  obtain ⟨p, e, _, n, o⟩ := r.sl i _ h
  exact ⟨_, e, q _ F H (.refl r.sub) (.inr ⟨p, rfl, n, o⟩)⟩
theorem evf_c {v : V} (h : ∀ F, Rp F v d) : EvF B (tC v) Γ d := fun F σ H r Q q => q v F H (.refl r.sub) (h F)
theorem xf_var (i : Nat) {x : Str} (h : Γ[i]? = some (.fr d) := by rfl) (hN : X.N[i]? = some x := by rfl) (hv : Vis X.env.scope x := by first | exact Or.inl rfl | exact Or.inr (Or.inl rfl) | exact Or.inr (Or.inr rfl))
    (h1 : (x == ("__debug__" : Str)) = false := by decide) (h2 : (x == ("__classdict__" : Str)) = false := by decide) : XF B X (.Name x pos) Γ d := xf_of (pe_var hN hv h1 h2) (evf_var h)
theorem xb_own (i : Nat) {x : Str} (h : Γ[i]? = some (.ow d) := by rfl) (hN : X.N[i]? = some x := by rfl) (hv : Vis X.env.scope x := by first | exact Or.inl rfl | exact Or.inr (Or.inl rfl) | exact Or.inr (Or.inr rfl))
    (h1 : (x == ("__debug__" : Str)) = false := by decide) (h2 : (x == ("__classdict__" : Str)) = false := by decide) : XB B X (.Name x pos) Γ d := xb_of (pe_var hN hv h1 h2) (evb_own h)
theorem xf_int {i : Int} {j} : XF B X (.Constant (.int i) j pos) Γ (.int i) := xf_of pe_int (evf_c fun _ => .int i)
theorem xf_bool {i : Bool} {j} : XF B X (.Constant (.bool i) j pos) Γ (.bool i) := xf_of pe_bl (evf_c fun _ => .bl i)
theorem xf_none {j} : XF B X (.Constant .none j pos) Γ .none := xf_of pe_non (evf_c fun _ => .non)
theorem xf_str {x : Str} {j} : XF B X (.Constant (.str x) j pos) Γ (.str x) := xf_of pe_str (evf_c fun _ => .str x)
theorem xf_globI {x : Str} {n : Int} {u : Tok} (hg : Gl X x) (hm : X.mg x = some (.int n u)) (hd : (x == ("__debug__" : Str)) = false := by decide) : XF B X (.Name x pos) Γ (.int n) := xf_of (pe_glob (v := .int n) hg hm ⟨u, rfl⟩ hd) (evf_c fun _ => .int n)
theorem xf_globS {x z : Str} {u : Tok} (hg : Gl X x) (hm : X.mg x = some (.str z u)) (hd : (x == ("__debug__" : Str)) = false := by decide) : XF B X (.Name x pos) Γ (.str z) := xf_of (pe_glob (v := .str z) hg hm ⟨u, rfl⟩ hd) (evf_c fun _ => .str z)

/-! ### operators by data -/
/-- what an operator on values makes of data: frozen data | a new object -/
def OpF (r : R2) (x y z : D) : Prop := ∀ F H v w, Same F H → Rb F H v x → Rb F H w y → ∀ Q : VK, (∀ u F' H', Ext F H F' H' → Rp F' u z → Q u H') → r v w H Q
def OpO (r : R2) (x y z : D) : Prop := ∀ F H v w, Same F H → Rb F H v x → Rb F H w y → ∀ Q : VK, (∀ p F' H', Ext F H F' H' → H p = none → F' p = none → Own F' H' p z → Q (.ref p) H') → r v w H Q
theorem evf_op {r : R2} (h1 : EvB B ta Γ da) (h2 : EvB B tb Γ db) (o : OpF r da db d) : EvF B (tOp r ta tb) Γ d := fun F σ H hr Q q =>
  h1 F σ H hr _ fun v F1 H1 x1 p1 => h2 F1 σ H1 (hr.ext x1) _ fun w F2 H2 x2 p2 => o F2 H2 v w x2.sub (p1.ext x2) p2 Q fun u F3 H3 x3 p3 => q u F3 H3 ((x1.trans x2).trans x3) p3
theorem evo_op {r : R2} (h1 : EvB B ta Γ da) (h2 : EvB B tb Γ db) (o : OpO r da db d) : EvO B (tOp r ta tb) Γ d := fun F σ H hr Q q =>
  h1 F σ H hr _ fun v F1 H1 x1 p1 => h2 F1 σ H1 (hr.ext x1) _ fun w F2 H2 x2 p2 => o F2 H2 v w x2.sub (p1.ext x2) p2 Q fun p F3 H3 x3 n n' p3 =>
    q p F3 H3 ((x1.trans x2).trans x3) ((x1.trans x2).free hr.sub n) n' p3
theorem xf_bin {op : Operator} {r : R2} (ho : OpR X (binaryOp op) r) (h1 : XB B X e1 Γ da) (h2 : XB B X e2 Γ db) (o : OpF r da db d) : XF B X (.BinOp e1 op e2 pos) Γ d := xf_of (pe_op ho pe_s pe_s) (evf_op h1 h2 o)
theorem xo_bin {op : Operator} {r : R2} (ho : OpR X (binaryOp op) r) (h1 : XB B X e1 Γ da) (h2 : XB B X e2 Γ db) (o : OpO r da db d) : XO B X (.BinOp e1 op e2 pos) Γ d := xo_of (pe_op ho pe_s pe_s) (evo_op h1 h2 o)
theorem opf_int {g : Int → Int → V} {i j : Int} (h : ∀ F, Rp F (g i j) d) : OpF (rI0 g) (.int i) (.int j) d := fun F H v w s p1 p2 Q q => by
  rw [p1.int, p2.int]
  exact ⟨i, j, rfl, rfl, q _ F H (.refl s) (h F)⟩
theorem opf_intC {C : Int → Int → Prop} {g : Int → Int → V} {i j : Int} (hc : C i j) (h : ∀ F, Rp F (g i j) d) : OpF (rI C g) (.int i) (.int j) d := fun F H v w s p1 p2 Q q => by
  rw [p1.int, p2.int]
  exact ⟨i, j, rfl, rfl, hc, q _ F H (.refl s) (h F)⟩
section
variable {i j : Int} {x y : Str}
theorem xf_add (h1 : XB B X e1 Γ (.int i)) (h2 : XB B X e2 Γ (.int j)) : XF B X (.BinOp e1 .Add e2 pos) Γ (.int (i + j)) := xf_bin op_add h1 h2 (opf_int fun _ => .int _)
theorem xf_sub (h1 : XB B X e1 Γ (.int i)) (h2 : XB B X e2 Γ (.int j)) : XF B X (.BinOp e1 .Sub e2 pos) Γ (.int (i - j)) := xf_bin op_sub h1 h2 (opf_int fun _ => .int _)
theorem xf_mul (h1 : XB B X e1 Γ (.int i)) (h2 : XB B X e2 Γ (.int j)) (hc : CMul i j) : XF B X (.BinOp e1 .Mult e2 pos) Γ (.int (i * j)) := xf_bin op_mul h1 h2 (opf_intC hc fun _ => .int _)
theorem xf_mod (h1 : XB B X e1 Γ (.int i)) (h2 : XB B X e2 Γ (.int j)) (hc : 0 < j) : XF B X (.BinOp e1 .Mod e2 pos) Γ (.int (i % j)) := xf_bin op_mod h1 h2 (opf_intC hc fun _ => .int _)
theorem xf_div (h1 : XB B X e1 Γ (.int i)) (h2 : XB B X e2 Γ (.int j)) (hc : CDiv i j) : XF B X (.BinOp e1 .FloorDiv e2 pos) Γ (.int (i / j)) := xf_bin op_fdiv h1 h2 (opf_intC hc fun _ => .int _)
theorem xf_pow (h1 : XB B X e1 Γ (.int i)) (h2 : XB B X e2 Γ (.int j)) (hc : CPow i j) : XF B X (.BinOp e1 .Pow e2 pos) Γ (.int (i ^ j.toNat)) := xf_bin op_pow h1 h2 (opf_intC hc fun _ => .int _)
theorem xf_cat (h1 : XB B X e1 Γ (.str x)) (h2 : XB B X e2 Γ (.str y)) (hc : x.length + y.length ≤ sizeLine) : XF B X (.BinOp e1 .Add e2 pos) Γ (.str (x ++ y)) := xf_bin op_add_str h1 h2 fun F H v w s p1 p2 Q q => by
  rw [p1.str, p2.str]
  exact ⟨x, y, rfl, rfl, hc, q _ F H (.refl s) (.str _)⟩
theorem xf_neg (h1 : XB B X e1 Γ (.int i)) : XF B X (.UnaryOp .USub e1 pos) Γ (.int (-i)) := xf_of (pe_un un_neg pe_s) fun F σ H r Q q => h1 F σ H r _ fun v F' H' x p => by
  rw [p.int]
  exact ⟨i, rfl, q _ F' H' x (.int _)⟩
end

/-! ### comparisons, tests -/
theorem xf_cmp {op : CmpOp} {r : R2} (ho : OpR X (compareOp op) r) (h1 : XB B X e1 Γ da) (h2 : XB B X e2 Γ db) (o : OpF r da db d) (hm : behindInMarks op e2 = false := by first | exact nomark _ | rfl) : XF B X (.Compare e1 [op] [e2] pos) Γ d := xf_of (pe_cmpR ho pe_s pe_s hm) (evf_op h1 h2 o)
theorem evt_test (h : EvF B t Γ (.bool k)) : EvT B (tTest t) Γ k := fun F σ H r Q q => h F σ H r _ fun v F' H' x p => by
  cases p
  exact ⟨k, rfl, q F' H' x⟩
theorem xt_cmp {op : CmpOp} {r : R2} (ho : OpR X (compareOp op) r) (h1 : XB B X e1 Γ da) (h2 : XB B X e2 Γ db) (o : OpF r da db (.bool k)) (hm : behindInMarks op e2 = false := by first | exact nomark _ | rfl) : XT B X (.Compare e1 [op] [e2] pos) Γ k :=
  xt_of (pt_cmpR ho pe_s pe_s hm) (evt_test (evf_op h1 h2 o))
section
variable {i j : Int}
theorem opf_lt : OpF (rI0 fun i j => .bl (decide (i < j))) (.int i) (.int j) (.bool (decide (i < j))) := opf_int fun _ => .bl _
theorem opf_le : OpF (rI0 fun i j => .bl (decide (i ≤ j))) (.int i) (.int j) (.bool (decide (i ≤ j))) := opf_int fun _ => .bl _
theorem opf_gt : OpF (rI0 fun i j => .bl (decide (j < i))) (.int i) (.int j) (.bool (decide (j < i))) := opf_int fun _ => .bl _
theorem opf_ge : OpF (rI0 fun i j => .bl (decide (j ≤ i))) (.int i) (.int j) (.bool (decide (j ≤ i))) := opf_int fun _ => .bl _
end
end
end G

/-! ## GC: data read off the heap; ==, order, in; and, or; subscripts, slices; displays; arguments -/
namespace G
open PySem PySem.Spec PyProof.Rows L2

section
variable {P : Program} {w : World} {H : Hp} {h : Heap}
theorem key_reads {k : Key} {u : Value} (e : RelV (kV k) u) : Reads h u (kP k) [] := by
  cases k with
  | inl i =>
    obtain ⟨t, rfl⟩ := e
    exact .int i t
  | inr x =>
    obtain ⟨t, rfl⟩ := e
    exact .str x t
theorem keys_reads : ∀ {ks : List Key} {us : List Value}, Vals (ks.map kV) us → ReadsAll h us (ks.map kP) []
  | [], _, .nil => .nil
  | k :: ks, _, .cons e l => ReadsAll.cons (key_reads e) (keys_reads l)
mutual
/-- what the zone says can be read off the heap -/
theorem Rp.reads (hk : HOk P w H h) : ∀ {v : V} {d : D} {u : Value}, Rp H v d → RelV v u → ∃ as, Reads h u d.py as
  | _, _, _, .non, r => by cases r; simp only [D.py]; exact ⟨_, .none⟩
  | _, _, _, .bl b, r => by cases r; simp only [D.py]; exact ⟨_, .bool b⟩
  | _, _, _, .int i, r => by obtain ⟨t, rfl⟩ := r; simp only [D.py]; exact ⟨_, .int i t⟩
  | _, _, _, .str x, r => by obtain ⟨t, rfl⟩ := r; simp only [D.py]; exact ⟨_, .str x t⟩
  | _, _, _, .lst g l, r => by
    cases r
    obtain ⟨_, its, n, rv, e⟩ := g.ok hk
    obtain ⟨as, q⟩ := RpL.reads hk l rv
    simp only [D.py]
    exact ⟨_, .list e rfl rfl q⟩
  | _, _, _, .tup g l, r => by
    cases r
    obtain ⟨_, its, rv, o, e, hc, n, hd⟩ := hk _ _ g
    obtain ⟨as, q⟩ := RpL.reads hk l rv
    simp only [D.py]
    exact ⟨_, .tuple e hc hd q⟩
  | _, _, _, .dK g l, r => by
    cases r
    obtain ⟨_, _, vs, kv, o, es, ep, e, hx, hd, _, pr, _⟩ := g.ok hk
    obtain ⟨as, bs, q1, q2⟩ := RpM.readsK hk l kv pr
    simp only [D.py]
    exact ⟨_, .dict e hx.1 hd q1 q2⟩
  | _, _, _, .dT g l, r => by
    cases r
    obtain ⟨_, _, xs, pr, o, es, ep, e, hx, hd, he, _⟩ := g.ok hk
    obtain ⟨as, bs, q1, q2⟩ := RpM.readsT hk l pr
    simp only [D.py]
    refine ⟨_, .dict e hx.1 hd (as := as) (bs := bs) ?_ ?_⟩
    · rw [he, List.map_map]; exact q1
    · rw [he, List.map_map]; exact q2
theorem RpL.reads (hk : HOk P w H h) : ∀ {vs : List V} {ds : List D} {us : List Value}, RpL H vs ds → Vals vs us → ∃ as, ReadsAll h us (pyL ds) as
  | _, _, _, .nil, r => by cases r; simp only [pyL]; exact ⟨_, .nil⟩
  | _, _, _, .cons g l, r => by
    cases r with
    | cons r1 r2 =>
      obtain ⟨as, q1⟩ := Rp.reads hk g r1
      obtain ⟨bs, q2⟩ := RpL.reads hk l r2
      simp only [pyL]
      exact ⟨_, .cons q1 q2⟩
theorem RpM.readsK (hk : HOk P w H h) : ∀ {kvs : List (Key × V)} {ds : List (Key × D)} {vs : List (Key × Value)} {es : List DictEntry}, RpM H kvs ds → KV kvs vs → Pairs (mixKind P w) es vs →
    ∃ as bs, ReadsAll h (es.map (·.key)) ((pyK ds).map (·.1)) as ∧ ReadsAll h (es.map (·.val)) ((pyK ds).map (·.2)) bs
  | _, _, _, _, .nil, r, p => by cases r; cases p; simp only [pyK]; exact ⟨_, _, .nil, .nil⟩
  | _, _, _, _, .cons g l, r, p => by
    cases r with
    | cons r1 r2 =>
      cases p with
      | cons p1 p2 p3 =>
        obtain ⟨as, q1⟩ := Rp.reads hk g r1.2
        obtain ⟨cs, bs, q2, q3⟩ := RpM.readsK hk l r2 p3
        have q4 := relV_key p1
        rw [← r1.1] at q4
        rw [← p2] at q1
        simp only [pyK]
        exact ⟨_, _, .cons (key_reads q4) q2, .cons q1 q3⟩
theorem RpM.readsT (hk : HOk P w H h) : ∀ {kvs : List (List Key × V)} {ds : List (List Key × D)} {xs : List (List Key × Addr × Value)}, RpM H kvs ds →
    Paired (fun (p : List Key × V) (q : List Key × Addr × Value) => p.1 = q.1 ∧ H q.2.1 = some (.tup (p.1.map kV)) ∧ RelV p.2 q.2.2) kvs xs →
    ∃ as bs, ReadsAll h (xs.map (fun x => (entryOfKey (tupleKind (mixKind P w)) x).key)) ((pyT ds).map (·.1)) as ∧ ReadsAll h (xs.map (fun x => (entryOfKey (tupleKind (mixKind P w)) x).val)) ((pyT ds).map (·.2)) bs
  | _, _, _, .nil, r => by cases r; simp only [pyT]; exact ⟨_, _, .nil, .nil⟩
  | _, _, _, .cons (k := k) g l, r => by
    cases r with
    | @cons _ q _ _ r1 r2 =>
      obtain ⟨e1, e2, e3⟩ := r1
      obtain ⟨as, q1⟩ := Rp.reads hk g e3
      obtain ⟨cs, bs, q2, q3⟩ := RpM.readsT hk l r2
      obtain ⟨_, its, rv, o, e, hc, n, hd⟩ := hk _ _ e2
      simp only [pyT]
      exact ⟨_, _, .cons (.tuple e hc hd (keys_reads rv)) q2, .cons q1 q3⟩
end
end

section
variable {B : Bs} {X : Cx} {e e1 e2 e3 : Expr} {es : List Expr} {Γ : Gm} {d da db dc : D} {ds : List D} {t ta tb tc : TE} {tt : TT} {k l : Bool} {pos : Pos}

/-- an operator by what it does to values that read as data -/
def OpX (X : Cx) (f : Value → Value → Sem Value) (x y z : D) : Prop :=
  ∀ (u v : Value) (s : Shared) (as bs : List Addr) (Q : Value → Shared → Prop), Reads s.heap u x.py as → Reads s.heap v y.py bs → (∀ (u' : Value) (tk : Nat), (∀ F : Hp, ∃ w, Rp F w z ∧ RelV w u') → Q u' { s with toks := tk }) → wpAny (model X.prog X.w) X.A (f u v) Q X.xe s
theorem xf_opx {f : Value → Value → Sem Value} {mk : (TE → TE → TE)} (o : OpX X f da db d) : OpR X f (fun x y H Q => (∃ F, Same F H ∧ Rp H x da ∧ Rp H y db) ∧ ∀ v, (∀ F : Hp, Rp F v d) → Q v H) := by
  intro pins s σ H x y v u Q I rx ry ⟨⟨F, _, px, py⟩, q⟩
  obtain ⟨as, r1⟩ := px.reads I.hok rx
  obtain ⟨bs, r2⟩ := py.reads I.hok ry
  refine o v u s as bs _ r1 r2 fun u' tk h => ?_
  obtain ⟨w0, p0, rw0⟩ := h H
  refine ⟨w0, H, I.tok tk, rw0, q w0 fun F' => ?_⟩
  obtain ⟨w1, p1, rw1⟩ := h F'
  rw [rw0.inj rw1]
  exact p1
theorem opx_f : OpF (fun x y H Q => (∃ F, Same F H ∧ Rp H x da ∧ Rp H y db) ∧ ∀ v, (∀ F : Hp, Rp F v d) → Q v H) da db d := fun F H v w s p1 p2 Q q =>
  ⟨⟨F, s, p1.rp s, p2.rp s⟩, fun u h => q u F H (.refl s) (h F)⟩
theorem opx_bool {b : Bool} : ∀ F : Hp, ∃ w, Rp F w (.bool b) ∧ RelV w (Value.bool b) := fun F => ⟨.bl b, .bl b, rfl⟩
theorem opx_eq (hu : X.A.units + min da.py.depth db.py.depth < cLine) (pa : da.py.plain = true) (pb : db.py.plain = true) : OpX X (compareOp .Eq) da db (.bool (PyData.eqv da.py db.py)) := fun u v s as bs Q r1 r2 h =>
  SeqAt.eq_plain r1 r2 pa pb hu (h _ s.toks opx_bool)
theorem opx_ne (hu : X.A.units + min da.py.depth db.py.depth < cLine) (pa : da.py.plain = true) (pb : db.py.plain = true) : OpX X (compareOp .NotEq) da db (.bool (!PyData.eqv da.py db.py)) := fun u v s as bs Q r1 r2 h =>
  SeqAt.ne_plain r1 r2 pa pb hu (h _ s.toks opx_bool)
theorem opx_lt (hu : X.A.units + min da.py.depth db.py.depth < cLine) (al : PySem.W.alike da.py db.py = true) (n : da.py ≠ .none) : OpX X (compareOp .Lt) da db (.bool (PySem.W.dataLt da.py db.py)) := fun u v s as bs Q r1 r2 h =>
  PySem.W.lt_data r1 r2 al n hu (h _ s.toks opx_bool)
theorem opx_gt (hu : X.A.units + min da.py.depth db.py.depth < cLine) (al : PySem.W.alike da.py db.py = true) (n : da.py ≠ .none) : OpX X (compareOp .Gt) da db (.bool (PySem.W.dataLt db.py da.py)) := fun u v s as bs Q r1 r2 h =>
  PySem.W.gt_data r1 r2 al n hu (h _ s.toks opx_bool)
theorem opx_le (hu : X.A.units + min da.py.depth db.py.depth < cLine) (al : PySem.W.alike da.py db.py = true) (n : da.py ≠ .none) : OpX X (compareOp .LtE) da db (.bool (!PySem.W.dataLt db.py da.py)) := fun u v s as bs Q r1 r2 h =>
  PySem.W.le_data r1 r2 al n hu (h _ s.toks opx_bool)
theorem opx_ge (hu : X.A.units + min da.py.depth db.py.depth < cLine) (al : PySem.W.alike da.py db.py = true) (n : da.py ≠ .none) : OpX X (compareOp .GtE) da db (.bool (!PySem.W.dataLt da.py db.py)) := fun u v s as bs Q r1 r2 h =>
  PySem.W.ge_data r1 r2 al n hu (h _ s.toks opx_bool)
theorem opx_inL (hu : X.A.units + 1 + min (PyData.depthAll (pyL ds)) da.py.depth < cLine) (pa : da.py.plain = true) (pb : PyData.plainAll (pyL ds) = true) : OpX X (compareOp .In) da (.list ds) (.bool ((pyL ds).any fun y => PyData.eqv y da.py)) := fun u v s as bs Q r1 r2 h =>
  SeqAt.in_list_data (by simpa only [D.py] using r2) r1 pb pa hu (h _ s.toks opx_bool)
theorem opx_ninL (hu : X.A.units + 1 + min (PyData.depthAll (pyL ds)) da.py.depth < cLine) (pa : da.py.plain = true) (pb : PyData.plainAll (pyL ds) = true) : OpX X (compareOp .NotIn) da (.list ds) (.bool (!(pyL ds).any fun y => PyData.eqv y da.py)) := fun u v s as bs Q r1 r2 h =>
  SeqAt.notIn_list_data (by simpa only [D.py] using r2) r1 pb pa hu (h _ s.toks opx_bool)
theorem opx_inT (hu : X.A.units + 1 + min (PyData.depthAll (pyL ds)) da.py.depth < cLine) (pa : da.py.plain = true) (pb : PyData.plainAll (pyL ds) = true) : OpX X (compareOp .In) da (.tuple ds) (.bool ((pyL ds).any fun y => PyData.eqv y da.py)) := fun u v s as bs Q r1 r2 h =>
  SeqAt.in_tuple_data (by simpa only [D.py] using r2) r1 pb pa hu (h _ s.toks opx_bool)
theorem opx_ninT (hu : X.A.units + 1 + min (PyData.depthAll (pyL ds)) da.py.depth < cLine) (pa : da.py.plain = true) (pb : PyData.plainAll (pyL ds) = true) : OpX X (compareOp .NotIn) da (.tuple ds) (.bool (!(pyL ds).any fun y => PyData.eqv y da.py)) := fun u v s as bs Q r1 r2 h =>
  SeqAt.notIn_tuple_data (by simpa only [D.py] using r2) r1 pb pa hu (h _ s.toks opx_bool)
/-- a comparison by what it does to data, as a value, as a test -/
theorem xf_cx {op : CmpOp} (o : OpX X (compareOp op) da db d) (h1 : XB B X e1 Γ da) (h2 : XB B X e2 Γ db) (hm : behindInMarks op e2 = false := by first | exact nomark _ | rfl) : XF B X (.Compare e1 [op] [e2] pos) Γ d :=
  xf_cmp (xf_opx (mk := fun a _ => a) o) h1 h2 opx_f hm
theorem xt_cx {op : CmpOp} (o : OpX X (compareOp op) da db (.bool k)) (h1 : XB B X e1 Γ da) (h2 : XB B X e2 Γ db) (hm : behindInMarks op e2 = false := by first | exact nomark _ | rfl) : XT B X (.Compare e1 [op] [e2] pos) Γ k :=
  xt_cmp (xf_opx (mk := fun a _ => a) o) h1 h2 opx_f hm
section
variable {i j : Int}
theorem xt_lt (h1 : XB B X e1 Γ (.int i)) (h2 : XB B X e2 Γ (.int j)) : XT B X (.Compare e1 [.Lt] [e2] pos) Γ (decide (i < j)) := xt_cmp op_lt h1 h2 opf_lt
theorem xt_le (h1 : XB B X e1 Γ (.int i)) (h2 : XB B X e2 Γ (.int j)) : XT B X (.Compare e1 [.LtE] [e2] pos) Γ (decide (i ≤ j)) := xt_cmp op_le h1 h2 opf_le
theorem xt_gt (h1 : XB B X e1 Γ (.int i)) (h2 : XB B X e2 Γ (.int j)) : XT B X (.Compare e1 [.Gt] [e2] pos) Γ (decide (j < i)) := xt_cmp op_gt h1 h2 opf_gt
theorem xt_ge (h1 : XB B X e1 Γ (.int i)) (h2 : XB B X e2 Γ (.int j)) : XT B X (.Compare e1 [.GtE] [e2] pos) Γ (decide (j ≤ i)) := xt_cmp op_ge h1 h2 opf_ge
theorem xf_lt (h1 : XB B X e1 Γ (.int i)) (h2 : XB B X e2 Γ (.int j)) : XF B X (.Compare e1 [.Lt] [e2] pos) Γ (.bool (decide (i < j))) := xf_cmp op_lt h1 h2 opf_lt
theorem xf_le (h1 : XB B X e1 Γ (.int i)) (h2 : XB B X e2 Γ (.int j)) : XF B X (.Compare e1 [.LtE] [e2] pos) Γ (.bool (decide (i ≤ j))) := xf_cmp op_le h1 h2 opf_le
theorem xf_gt (h1 : XB B X e1 Γ (.int i)) (h2 : XB B X e2 Γ (.int j)) : XF B X (.Compare e1 [.Gt] [e2] pos) Γ (.bool (decide (j < i))) := xf_cmp op_gt h1 h2 opf_gt
theorem xf_ge (h1 : XB B X e1 Γ (.int i)) (h2 : XB B X e2 Γ (.int j)) : XF B X (.Compare e1 [.GtE] [e2] pos) Γ (.bool (decide (j ≤ i))) := xf_cmp op_ge h1 h2 opf_ge
end
end
end G

/-! ## GD: and, or, not; subscripts, slices; displays; arguments; dicts -/
namespace G
open PySem PySem.Spec PyProof.Rows L2

def sW (X : Cx) (e : Expr) : TT := fun σ H Q => ∀ (whole : Sem Value) (pins : List (Addr × Obj)) (s : Shared), Inv X pins σ H s → wpAny (model X.prog X.w) X.A (isTrue e X.env whole) (TP X pins σ Q) X.xe s
theorem pw_s {X : Cx} {e : Expr} : PW X e (sW X e) := ⟨fun wh pins s σ H Q I h => h wh pins s I⟩
def XW (B : Bs) (X : Cx) (e : Expr) (Γ : Gm) (b : Bool) : Prop := EvT B (sW X e) Γ b

section
variable {B : Bs} {X : Cx} {e e1 e2 e3 : Expr} {es rest : List Expr} {Γ : Gm} {d d' da db dc : D} {ds : List D} {t ta tb tc : TE} {tt t1 t2 : TT} {k l : Bool} {pos : Pos}
theorem xw_of (p : PW X e tt) (h : EvT B tt Γ k) : XW B X e Γ k := fun F σ H r Q q wh pins s I => p.run wh pins s σ H Q I (h F σ H r Q q)
theorem XW.test (h : XW B X e Γ k) : XT B X e Γ k := xt_of pw_s.pt h
theorem evt_and (h1 : EvT B t1 Γ k) (h2 : k = true → EvT B t2 Γ l) : EvT B (tAnd t1 t2) Γ (k && l) := fun F σ H r Q q => h1 F σ H r _ fun F1 H1 x1 => by
  cases k with
  | false => exact iteF (q F1 H1 x1)
  | true => exact iteT (h2 rfl F1 σ H1 (r.ext x1) _ fun F2 H2 x2 => q F2 H2 (x1.trans x2))
theorem evt_or (h1 : EvT B t1 Γ k) (h2 : k = false → EvT B t2 Γ l) : EvT B (tOr t1 t2) Γ (k || l) := fun F σ H r Q q => h1 F σ H r _ fun F1 H1 x1 => by
  cases k with
  | true => exact iteT (q F1 H1 x1)
  | false => exact iteF (h2 rfl F1 σ H1 (r.ext x1) _ fun F2 H2 x2 => q F2 H2 (x1.trans x2))
theorem xw_and1 (h : XT B X e1 Γ k) : XW B X (.BoolOp .And [e1] pos) Γ k := xw_of (pw_and1 pt_s) h
theorem xw_or1 (h : XT B X e1 Γ k) : XW B X (.BoolOp .Or [e1] pos) Γ k := xw_of (pw_or1 pt_s) h
theorem xw_and (h1 : XT B X e1 Γ k) (h2 : k = true → XW B X (.BoolOp .And (e2 :: rest) pos) Γ l) : XW B X (.BoolOp .And (e1 :: e2 :: rest) pos) Γ (k && l) := xw_of (pw_and pt_s pw_s) (evt_and h1 h2)
theorem xw_or (h1 : XT B X e1 Γ k) (h2 : k = false → XW B X (.BoolOp .Or (e2 :: rest) pos) Γ l) : XW B X (.BoolOp .Or (e1 :: e2 :: rest) pos) Γ (k || l) := xw_of (pw_or pt_s pw_s) (evt_or h1 h2)
theorem xt_not (h : XT B X e1 Γ k) : XT B X (.UnaryOp .Not e1 pos) Γ (!k) := xt_of (pt_not pt_s) fun F σ H r Q q => h F σ H r _ fun F1 H1 x1 => q F1 H1 x1
/-- as values, all of them True or False -/
theorem xf_one {op} (h : XF B X e1 Γ d) : XF B X (.BoolOp op [e1] pos) Γ d := xf_of (pe_one pe_s) h
theorem xf_and (h1 : XF B X e1 Γ (.bool k)) (h2 : k = true → XF B X (.BoolOp .And (e2 :: rest) pos) Γ (.bool l)) : XF B X (.BoolOp .And (e1 :: e2 :: rest) pos) Γ (.bool (k && l)) := xf_of (pe_and pe_s pe_s) fun F σ H r Q q => h1 F σ H r _ fun v F1 H1 x1 p => by
  cases p
  refine ⟨k, rfl, ?_⟩
  cases k with
  | true => exact iteT (h2 rfl F1 σ H1 (r.ext x1) _ fun v F2 H2 x2 p => q v F2 H2 (x1.trans x2) p)
  | false => exact iteF (q _ F1 H1 x1 (.bl _))
theorem xf_or (h1 : XF B X e1 Γ (.bool k)) (h2 : k = false → XF B X (.BoolOp .Or (e2 :: rest) pos) Γ (.bool l)) : XF B X (.BoolOp .Or (e1 :: e2 :: rest) pos) Γ (.bool (k || l)) := xf_of (pe_or pe_s pe_s) fun F σ H r Q q => h1 F σ H r _ fun v F1 H1 x1 p => by
  cases p
  refine ⟨k, rfl, ?_⟩
  cases k with
  | true => exact iteT (q _ F1 H1 x1 (.bl _))
  | false => exact iteF (h2 rfl F1 σ H1 (r.ext x1) _ fun v F2 H2 x2 p => q v F2 H2 (x1.trans x2) p)
theorem xf_not (h1 : XF B X e1 Γ (.bool k)) : XF B X (.UnaryOp .Not e1 pos) Γ (.bool (!k)) := xf_of (pe_not pe_s) fun F σ H r Q q => h1 F σ H r _ fun v F1 H1 x1 p => by
  cases p
  exact ⟨k, rfl, q _ F1 H1 x1 (.bl _)⟩
/-- an expression that gives True or False, as a test -/
theorem xt_val (h : XF B X e Γ (.bool k)) (he : ∀ whole, isTrue e X.env whole = (do let v ← whole; standAt e.pos; holding [v] (truthy v)) := by intro _; rfl) : XT B X e Γ k := xt_of (pt_val pe_s he) fun F σ H r Q q => h F σ H r _ fun v F1 H1 x1 p => by
  cases p
  exact ⟨k, rfl, q F1 H1 x1⟩
theorem xf_ife (hc : XT B X e1 Γ k) (h1 : k = true → XF B X e2 Γ d) (h2 : k = false → XF B X e3 Γ d) : XF B X (.IfExp e1 e2 e3 pos) Γ d := xf_of (pe_ifExp pt_s pe_s pe_s) fun F σ H r Q q => hc F σ H r _ fun F1 H1 x1 => by
  cases k with
  | true => exact iteT (h1 rfl F1 σ H1 (r.ext x1) _ fun v F2 H2 x2 p => q v F2 H2 (x1.trans x2) p)
  | false => exact iteF (h2 rfl F1 σ H1 (r.ext x1) _ fun v F2 H2 x2 p => q v F2 H2 (x1.trans x2) p)
/-- a <= b < c -/
theorem xf_chain {op op' : CmpOp} {r r' : R2} (ho : OpR X (compareOp op) r) (ho' : OpR X (compareOp op') r') (h1 : XB B X e1 Γ da) (h2 : XB B X e2 Γ db) (o : OpF r da db (.bool k)) (h3 : k = true → XB B X e3 Γ dc) (o' : k = true → OpF r' db dc (.bool l)) (hm : lastMarks [op, op'] [e2, e3] = false := by rfl)
    : XF B X (.Compare e1 [op, op'] [e2, e3] pos) Γ (.bool (k && l)) := xf_of (pe_chain ho ho' pe_s pe_s pe_s hm) fun F σ H hr Q q => h1 F σ H hr _ fun v F1 H1 x1 p1 => h2 F1 σ H1 (hr.ext x1) _ fun w F2 H2 x2 p2 =>
  o F2 H2 v w x2.sub (p1.ext x2) p2 _ fun z F3 H3 x3 p3 => by
    cases p3
    refine ⟨k, rfl, ?_⟩
    have x123 := (x1.trans x2).trans x3
    cases k with
    | true => exact iteT (h3 rfl F3 σ H3 (hr.ext x123) _ fun u F4 H4 x4 p4 => o' rfl F4 H4 w u x4.sub (p2.ext (x3.trans x4)) p4 Q fun z F5 H5 x5 p5 => q z F5 H5 ((x123.trans x4).trans x5) p5)
    | false => exact iteF (q _ F3 H3 x123 (.bl _))

/-! ### is None -/
theorem xf_isN {j pos'} (h : XB B X e1 Γ d) : XF B X (.Compare e1 [.Is] [.Constant .none j pos'] pos) Γ (.bool (match d with | .none => true | _ => false)) := xf_of (pe_cmp (pc_isN pe_s)) fun F σ H r Q q => h F σ H r _ fun v F1 H1 x1 p => by
  have p0 := p.rp x1.sub
  cases p0 <;> exact q _ F1 H1 x1 (.bl _)
theorem xf_notN {j pos'} (h : XB B X e1 Γ d) : XF B X (.Compare e1 [.IsNot] [.Constant .none j pos'] pos) Γ (.bool (match d with | .none => false | _ => true)) := xf_of (pe_cmp (pc_notN pe_s)) fun F σ H r Q q => h F σ H r _ fun v F1 H1 x1 p => by
  have p0 := p.rp x1.sub
  cases p0 <;> exact q _ F1 H1 x1 (.bl _)

/-! ### subscripts -/
theorem opf_ixL {K : PySem.W.Frag} {i : Int} (h : atI ds i = some d) : OpF (rIxL K) (.list ds) (.int i) d := fun F H v w s p1 p2 Q q => by
  obtain ⟨a, xs, rfl, g, l⟩ := p1.list s
  rw [p2.int]
  have hl := l.length
  unfold atI at h
  cases e : ixN ds.length i with
  | none => rw [e] at h; cases h
  | some j =>
    rw [e] at h
    obtain ⟨x, hx, px⟩ := l.get (i := j) h
    refine ⟨a, xs, i, x, rfl, rfl, .inl g, ?_, q x F H (.refl s) px⟩
    unfold atI
    rw [hl, e]
    exact hx
theorem opf_ixT {K : PySem.W.Frag} {i : Int} (h : atI ds i = some d) : OpF (rIxT K) (.tuple ds) (.int i) d := fun F H v w s p1 p2 Q q => by
  obtain ⟨a, xs, rfl, _, g, l⟩ := p1.tuple s
  rw [p2.int]
  have hl := l.length
  unfold atI at h
  cases e : ixN ds.length i with
  | none => rw [e] at h; cases h
  | some j =>
    rw [e] at h
    obtain ⟨x, hx, px⟩ := l.get (i := j) h
    refine ⟨a, xs, i, x, rfl, rfl, .inl (.inl g), ?_, q x F H (.refl s) px⟩
    unfold atI
    rw [hl, e]
    exact hx
theorem opf_ixS {z : Str} {i : Int} {c : Nat} (hz : z.length ≤ sizeLine) (h : atI z.cps.toList i = some c) : OpF rIxS (.str z) (.int i) (.str ⟨#[c]⟩) := fun F H v w s p1 p2 Q q => by
  rw [p1.str, p2.int]
  exact ⟨z, i, c, rfl, rfl, hz, h, q _ F H (.refl s) (.str _)⟩
section
variable {i : Int}
theorem xf_ixL (h1 : XB B X e1 Γ (.list ds)) (h2 : XB B X e2 Γ (.int i)) (h : atI ds i = some d) (hs : PlainIx e2 := by intro _ _; rfl) : XF B X (.Subscript e1 e2 pos) Γ d := xf_of (pe_ix ix_list pe_s pe_s hs) (evf_op h1 h2 (opf_ixL h))
theorem xf_ixT (h1 : XB B X e1 Γ (.tuple ds)) (h2 : XB B X e2 Γ (.int i)) (h : atI ds i = some d) (hs : PlainIx e2 := by intro _ _; rfl) : XF B X (.Subscript e1 e2 pos) Γ d := xf_of (pe_ix ix_tup pe_s pe_s hs) (evf_op h1 h2 (opf_ixT h))
theorem xf_ixS {z : Str} {c : Nat} (h1 : XB B X e1 Γ (.str z)) (h2 : XB B X e2 Γ (.int i)) (hz : z.length ≤ sizeLine) (h : atI z.cps.toList i = some c) (hs : PlainIx e2 := by intro _ _; rfl) : XF B X (.Subscript e1 e2 pos) Γ (.str ⟨#[c]⟩) := xf_of (pe_ix ix_str pe_s pe_s hs) (evf_op h1 h2 (opf_ixS hz h))
end

/-! ### slices -/
/-- what a part of a slice is worth -/
def XP (B : Bs) (X : Cx) (e : Option Expr) (Γ : Gm) (o : Option Int) : Prop := ∀ F σ H, StR B F σ H Γ → ∀ Q : Option Int → Hp → Prop, (∀ F' H', Ext F H F' H' → Q o H') → ∃ t, PO X e t ∧ t σ H Q
def sP (X : Cx) : Option Expr → TO
  | none => tNoPart
  | some e => tPart (sE X e)
theorem po_s : ∀ {e : Option Expr}, PO X e (sP X e)
  | none => po_none
  | some e => po_some pe_s
def EvP (B : Bs) (t : TO) (Γ : Gm) (o : Option Int) : Prop := ∀ F σ H, StR B F σ H Γ → ∀ Q : Option Int → Hp → Prop, (∀ F' H', Ext F H F' H' → Q o H') → t σ H Q
theorem xp_none : EvP B (sP X none) Γ none := fun F σ H r Q q => q F H (.refl r.sub)
theorem xp_some {i : Int} (h : XB B X e Γ (.int i)) : EvP B (sP X (some e)) Γ (some i) := fun F σ H r Q q => h F σ H r _ fun v F1 H1 x1 p => by
  rw [p.int]
  exact ⟨i, rfl, q F1 H1 x1⟩
/-- the part of a list -/
def cutD {α : Type} (xs : List α) (lo hi : Option Int) : List α := (xs.drop (HT.sIx xs.length 0 lo)).take (HT.sIx xs.length xs.length hi - HT.sIx xs.length 0 lo)
theorem cut_rp {F : Hp} {xs : List V} (lo hi : Option Int) (l : RpL F xs ds) : RpL F (cutV xs lo hi) (cutD ds lo hi) := by
  unfold cutV cutD
  rw [l.length]
  exact (l.drop _).take _
section
variable {lo hi : Option Expr} {a b : Option Int} {p2 : Pos}
theorem xo_slL (h : XB B X e Γ (.list ds)) (h1 : EvP B (sP X lo) Γ a) (h2 : EvP B (sP X hi) Γ b) : XO B X (.Subscript e (.Slice lo hi none p2) pos) Γ (.list (cutD ds a b)) := xo_of (pe_slice sl_list pe_s po_s po_s) fun F σ H r Q q =>
  h F σ H r _ fun v F1 H1 x1 p1 => h1 F1 σ H1 (r.ext x1) _ fun F2 H2 x2 => h2 F2 σ H2 (r.ext (x1.trans x2)) _ fun F3 H3 x3 => by
    have x := (x1.trans x2).trans x3
    obtain ⟨c, xs, rfl, g, l⟩ := (p1.ext (x2.trans x3)).list x3.sub
    exact ⟨c, xs, rfl, .inl g, fun p np => q p F3 _ (x.trans (.new x3.sub np)) (x.free r.sub np) (by
      cases e : F3 p with
      | none => rfl
      | some u => rw [x3.sub p u e] at np; cases np) (.lst upd_same (cut_rp a b l))⟩
theorem xf_slS {z : Str} (h : XB B X e Γ (.str z)) (h1 : EvP B (sP X lo) Γ a) (h2 : EvP B (sP X hi) Γ b) (hz : z.length ≤ sizeLine) : XF B X (.Subscript e (.Slice lo hi none p2) pos) Γ (.str (cutS z a b)) := xf_of (pe_slice sl_str pe_s po_s po_s) fun F σ H r Q q =>
  h F σ H r _ fun v F1 H1 x1 p1 => h1 F1 σ H1 (r.ext x1) _ fun F2 H2 x2 => h2 F2 σ H2 (r.ext (x1.trans x2)) _ fun F3 H3 x3 => by
    rw [p1.str]
    exact ⟨z, rfl, hz, q _ F3 H3 ((x1.trans x2).trans x3) (.str _)⟩
end

/-! ### arguments, displays -/
theorem xa_nil : XA B X [] Γ [] := xa_of pa_nil fun F σ H r Q q => q [] F H (.refl r.sub) .nil
theorem xl_nil : XL B X [] Γ [] := xl_of pa_nil fun F σ H r Q q => q [] F H (.refl r.sub) .nil
theorem xa_cons (h1 : XB B X e Γ d) (h2 : XA B X es Γ ds) (hs : starEach (e :: es) X.env = (false, eval e X.env) :: starEach es X.env := by rfl) : XA B X (e :: es) Γ (d :: ds) := xa_of (pa_cons pe_s pa_s hs) fun F σ H r Q q =>
  h1 F σ H r _ fun v F1 H1 x1 p1 => h2 F1 σ H1 (r.ext x1) _ fun vs F2 H2 x2 p2 => q (v :: vs) F2 H2 (x1.trans x2) (.cons (p1.ext x2) p2)
theorem xl_cons (h1 : XF B X e Γ d) (h2 : XL B X es Γ ds) (hs : starEach (e :: es) X.env = (false, eval e X.env) :: starEach es X.env := by rfl) : XL B X (e :: es) Γ (d :: ds) := xl_of (pa_cons pe_s pa_s hs) fun F σ H r Q q =>
  h1 F σ H r _ fun v F1 H1 x1 p1 => h2 F1 σ H1 (r.ext x1) _ fun vs F2 H2 x2 p2 => q (v :: vs) F2 H2 (x1.trans x2) (.cons (p1.mono x2.fwd) p2)
theorem notIn {F H : Hp} {p : Addr} (s : Same F H) (n : H p = none) : F p = none := by
  cases e : F p with
  | none => rfl
  | some u => rw [s p u e] at n; cases n
theorem xo_lst (h : XL B X es Γ ds) (hz : ds.length ≤ sizeLine := by first | decide | (rw [sizeLine_eq]; simp)) : XO B X (.List es pos) Γ (.list ds) := xo_of (pe_lst pa_s) fun F σ H r Q q =>
  h F σ H r _ fun vs F1 H1 x1 p1 => ⟨by rw [p1.length]; exact hz, fun p np => q p F1 _ (x1.trans (.new x1.sub np)) (x1.free r.sub np) (notIn x1.sub np) (.lst upd_same p1)⟩
theorem xf_tup {x1} (h : XL B X es Γ ds) (hz : ds.length ≤ sizeLine := by first | decide | (rw [sizeLine_eq]; simp)) : XF B X (.Tuple es x1 pos) Γ (.tuple ds) := xf_of (pe_tup pa_s) fun F σ H r Q q =>
  h F σ H r _ fun vs F1 H1 x1 p1 => ⟨by rw [p1.length]; exact hz, fun p np => by
    have y : Ext F1 H1 (upd F1 p (.tup vs)) (upd H1 p (.tup vs)) := .newF x1.sub np
    exact q _ _ _ (x1.trans y) (.tup upd_same (p1.mono y.fwd))⟩
theorem xo_dnew : XO B X (.Dict [] [] pos) Γ (.dK []) := xo_of pe_dnewK fun F σ H r Q q p np => q p F _ (.new r.sub np) np (notIn r.sub np) (.dK upd_same .nil)
theorem xo_dnewT : XO B X (.Dict [] [] pos) Γ (.dT []) := xo_of pe_dnewT fun F σ H r Q q p np => q p F _ (.new r.sub np) np (notIn r.sub np) (.dT upd_same .nil)
end
end G

/-! ## GE: what is walked; targets; statements -/
namespace G
open PySem PySem.Spec PyProof.Rows L2

/-! ### what is walked -/
/-- J gives the data ds, in any later zone -/
def Wk (J : It) (F0 : Hp) (ds : List D) : Prop := ∀ (i : Nat) (F H : Hp), SameL F0 F → Same F H →
  (∀ d, ds[i]? = some d → J.go i H ∧ ∀ x H', J.yld i H x H' → ∃ F', Ext F H F' H' ∧ Rp F' x d) ∧ (ds.length ≤ i → J.stop i H)
def EvI (B : Bs) (wi : TI) (Γ : Gm) (ds : List D) : Prop := ∀ F σ H, StR B F σ H Γ → ∀ R : It → Hp → Prop, (∀ J F' H', Ext F H F' H' → Wk J F' ds → R J H') → wi σ H R
def sI (X : Cx) (tg iter : Expr) : TI := fun σ H R => ∀ (pins : List (Addr × Obj)) (s : Shared), Inv X pins σ H s →
  wpAny (model X.prog X.w) X.A (eval iter X.env) (fun v s1 => wpAny (model X.prog X.w) X.A (pyIter v) (PIE X pins σ tg R) X.xe s1) X.xe s
theorem pi_s {X : Cx} {tg iter : Expr} : PI X tg iter (sI X tg iter) := ⟨fun pins s σ H R I h => h pins s I⟩
def XI (B : Bs) (X : Cx) (tg iter : Expr) (Γ : Gm) (ds : List D) : Prop := EvI B (sI X tg iter) Γ ds
section
variable {B : Bs} {X : Cx} {tg e e1 e2 e3 : Expr} {es rest : List Expr} {Γ : Gm} {d : D} {ds : List D} {wi : TI} {p pos : Pos}
theorem xi_of (q : PI X tg e wi) (h : EvI B wi Γ ds) : XI B X tg e Γ ds := fun F σ H r R k pins s I => q.run pins s σ H R I (h F σ H r R k)
theorem wk_list {K : PySem.W.Frag} {a : Addr} {xs : List V} {F : Hp} (g : Rd F a (.lst xs)) (l : RpL F xs ds) : Wk (Itl K a) F ds := fun i F1 H1 s1 s2 => by
  have g1 : Rd H1 a (.lst xs) := (SameL.of s2).rd (s1.rd g)
  refine ⟨fun d hd => ?_, fun hi => ⟨xs, .inl g1, by rw [l.length]; exact hi⟩⟩
  obtain ⟨x, hx, px⟩ := l.get hd
  refine ⟨⟨xs, x, .inl g1, hx⟩, fun y H' ⟨e, q⟩ => ?_⟩
  subst e
  have q2 := q xs (.inl g1)
  rw [hx] at q2
  cases q2
  exact ⟨F1, .refl s2, px.mono s1⟩
theorem xi_list (h : XF B X e Γ (.list ds)) : XI B X tg e Γ ds := xi_of (pi_list pe_s) fun F σ H r R k => h F σ H r _ fun v F1 H1 x1 p1 => by
  cases p1 with
  | lst g l => exact ⟨_, rfl, ⟨_, .inl ((SameL.of x1.sub).rd g)⟩, k _ F1 H1 x1 (wk_list g l)⟩
theorem wk_tup {K : PySem.W.Frag} {a : Addr} {xs : List V} {F : Hp} (g : F a = some (.tup xs)) (l : RpL F xs ds) : Wk (Itt K a) F ds := fun i F1 H1 s1 s2 => by
  have g1 : H1 a = some (.tup xs) := s2 _ _ (s1.tup g)
  refine ⟨fun d hd => ?_, fun hi => ⟨xs, .inl (.inl g1), by rw [l.length]; exact hi⟩⟩
  obtain ⟨x, hx, px⟩ := l.get hd
  refine ⟨⟨xs, x, .inl (.inl g1), hx⟩, fun y H' ⟨e, q⟩ => ?_⟩
  subst e
  have q2 := q xs (.inl (.inl g1))
  rw [hx] at q2
  cases q2
  exact ⟨F1, .refl s2, px.mono s1⟩
theorem xi_tup (h : XF B X e Γ (.tuple ds)) : XI B X tg e Γ ds := xi_of (pi_tup pe_s) fun F σ H r R k => h F σ H r _ fun v F1 H1 x1 p1 => by
  cases p1 with
  | tup g l => exact ⟨_, rfl, ⟨_, .inl (.inl (x1.sub _ _ g))⟩, k _ F1 H1 x1 (wk_tup g l)⟩
/-- a text, sign by sign -/
theorem xi_str {x : Str} (h : XB B X e Γ (.str x)) : XI B X tg e Γ (x.cps.toList.map fun c => .str ⟨#[c]⟩) := xi_of (pi_str pe_s) fun F σ H r R k => h F σ H r _ fun v F1 H1 x1 p1 => by
  rw [p1.str]
  refine ⟨x, rfl, k _ F1 H1 x1 fun i F2 H2 s1 s2 => ⟨fun d hd => ?_, fun hi => ?_⟩⟩
  · rw [List.getElem?_map] at hd
    cases e : x.cps.toList[i]? with
    | none => rw [e] at hd; cases hd
    | some c =>
      rw [e] at hd
      cases hd
      rw [Array.getElem?_toList] at e
      refine ⟨?_, fun y H' ⟨eh, c', ec, ey⟩ => ?_⟩
      · show i < x.cps.size
        rw [Array.getElem?_eq_some_iff] at e
        exact e.1
      · subst eh
        rw [e] at ec
        cases ec
        subst ey
        exact ⟨F2, .refl s2, .str _⟩
  · show x.cps.size ≤ i
    rw [List.length_map, Array.length_toList] at hi
    exact hi
/-- lo, lo + 1, .. -/
def rgD (lo : Int) (n : Nat) : List D := (List.range n).map fun i => .int (lo + (i : Nat))
theorem wk_rng {lo : Int} {n : Nat} {F : Hp} : Wk (Itr lo n) F (rgD lo n) := fun i F1 H1 s1 s2 => by
  refine ⟨fun d hd => ?_, fun hi => ?_⟩
  · unfold rgD at hd
    rw [List.getElem?_map] at hd
    by_cases hi : i < n
    · rw [List.getElem?_range hi] at hd
      cases hd
      exact ⟨hi, fun x H' ⟨e1, e2⟩ => by subst e1; subst e2; exact ⟨F1, .refl s2, .int _⟩⟩
    · rw [List.getElem?_eq_none (by simpa using hi)] at hd
      cases hd
  · unfold rgD at hi
    rw [List.length_map, List.length_range] at hi
    exact hi
theorem xi_rng1 {j : Int} (h : XB B X e Γ (.int j)) (hj : -(2 ^ 62) ≤ j ∧ j < 2 ^ 62) (hg : Gl X "range") (hm : X.mg "range" = none) (hs : starEach [e] X.env = (false, eval e X.env) :: starEach [] X.env := by rfl) : XI B X tg (.Call (.Name "range" p) [e] [] pos) Γ (rgD 0 j.toNat) :=
  xi_of (pi_range1 hg hm pa_s (hs.trans rfl)) fun F σ H r R k => (xa_cons h xa_nil hs) F σ H r _ fun vs F1 H1 x1 p1 => by
    obtain ⟨v, rfl, q⟩ := p1.one
    rw [q.int]
    exact ⟨j, rfl, hj.1, hj.2, k _ F1 H1 x1 wk_rng⟩
theorem xi_rng2 {i j : Int} (h1 : XB B X e1 Γ (.int i)) (h2 : XB B X e2 Γ (.int j)) (hi : -(2 ^ 62) ≤ i ∧ i < 2 ^ 62 ∧ -(2 ^ 62) ≤ j ∧ j < 2 ^ 62) (hg : Gl X "range") (hm : X.mg "range" = none) (hs : starEach [e1, e2] X.env = (false, eval e1 X.env) :: starEach [e2] X.env := by rfl)
    (hs2 : starEach [e2] X.env = (false, eval e2 X.env) :: starEach [] X.env := by rfl) : XI B X tg (.Call (.Name "range" p) [e1, e2] [] pos) Γ (rgD i (j - i).toNat) :=
  xi_of (pi_range2 hg hm pa_s (by rw [hs, hs2]; rfl) (by rw [hs2]; rfl)) fun F σ H r R k => (xa_cons h1 (xa_cons h2 xa_nil hs2) hs) F σ H r _ fun vs F1 H1 x1 p1 => by
    obtain ⟨v, w, rfl, q1, q2⟩ := p1.two
    rw [q1.int, q2.int]
    exact ⟨i, j, rfl, hi, k _ F1 H1 x1 wk_rng⟩
/-- a dict is locked where it is walked -/
def tLk (td : TE) : TE := fun σ H Q => td σ H fun x H1 => (∃ d u, x = .ref d ∧ H1 d = some u ∧ Mut (some u) ∧ ∀ od, Q x (upd H1 d (.frz od u))) ∨ Q x H1
theorem pe_lk {td : TE} (h : PE X e td) : PE X e (tLk td) := ⟨fun pins s σ H Q I hq => thn (h.run pins s σ H _ I hq) fun v s1 ⟨x, H1, I1, rx, q⟩ => by
  rcases q with ⟨d, u, ex, hd, mu, q⟩ | q
  · obtain ⟨od, I2⟩ := I1.lock hd mu
    exact ⟨x, _, I2, rx, q od⟩
  · exact ⟨x, H1, I1, rx, q⟩⟩
theorem rpm_at {F : Hp} : ∀ {κ : Type} {kvs : List (κ × V)} {es : List (κ × D)} {i : Nat} {k : κ} {v : V}, RpM F kvs es → kvs[i]? = some (k, v) → ∃ d, es[i]? = some (k, d) ∧ Rp F v d
  | _, _, _, _, _, _, .nil, e => by simp at e
  | _, _, _, 0, _, _, .cons h _, e => by simp at e; obtain ⟨rfl, rfl⟩ := e; exact ⟨_, rfl, h⟩
  | _, _, _, i + 1, _, _, .cons _ l, e => by
    obtain ⟨d, h1, h2⟩ := rpm_at (i := i) l (by simpa using e)
    exact ⟨d, by simpa using h1, h2⟩
theorem frzL {F F' : Hp} {a : Addr} {o : Obj} {u : HO} (s : SameL F F') (h : F a = some (.frz o u)) : F' a = some (.frz o u) := by
  rcases s a _ h with h | ⟨d, _⟩
  · exact h
  · exact absurd d (by intro z; cases z)
theorem kv_rp {F : Hp} : ∀ k : Key, Rp F (kV k) (kD k)
  | .inl i => .int i
  | .inr x => .str x
theorem kvs_rp {F : Hp} : ∀ ks : List Key, RpL F (ks.map kV) (ks.map kD)
  | [] => .nil
  | k :: ks => .cons (kv_rp k) (kvs_rp ks)
theorem wk_keys {a : Addr} {o : Obj} {kvs : List (Key × V)} {es : List (Key × D)} {F : Hp} (g : F a = some (.frz o (.dK kvs))) (l : RpM F kvs es) : Wk (Itk a o kvs) F (es.map fun p => kD p.1) := fun i F1 H1 s1 s2 => by
  have g1 := s2 _ _ (frzL s1 g)
  have hl := l.length
  refine ⟨fun d hd => ?_, fun hi => ⟨g1, by rw [List.length_map] at hi; omega⟩⟩
  have hi : i < kvs.length := by
    have := (List.getElem?_eq_some_iff.mp hd).1
    rw [List.length_map] at this
    omega
  refine ⟨⟨g1, hi⟩, fun x H' ⟨e, k, v, ek, ex⟩ => ?_⟩
  subst e; subst ex
  obtain ⟨d', e1, _⟩ := rpm_at l ek
  rw [List.getElem?_map, e1] at hd
  cases hd
  exact ⟨F1, .refl s2, kv_rp k⟩
theorem wk_keysT {a : Addr} {o : Obj} {kvs : List (List Key × V)} {es : List (List Key × D)} {F : Hp} (g : F a = some (.frz o (.dT kvs))) (l : RpM F kvs es) : Wk (Itkt a o kvs) F (es.map fun p => .tuple (p.1.map kD)) := fun i F1 H1 s1 s2 => by
  have g1 := s2 _ _ (frzL s1 g)
  have hl := l.length
  refine ⟨fun d hd => ?_, fun hi => ⟨g1, by rw [List.length_map] at hi; omega⟩⟩
  have hi : i < kvs.length := by
    have := (List.getElem?_eq_some_iff.mp hd).1
    rw [List.length_map] at this
    omega
  refine ⟨⟨g1, hi⟩, fun x H' ⟨e, k, v, q, ek, ex, eq⟩ => ?_⟩
  subst e; subst ex
  obtain ⟨d', e1, _⟩ := rpm_at l ek
  rw [List.getElem?_map, e1] at hd
  cases hd
  obtain ⟨F2, x2, h2⟩ := Ext.tup s2 eq
  exact ⟨F2, x2, .tup h2 (kvs_rp k)⟩
/-- the keys of a dict -/
theorem xi_keys {m : List (Key × D)} (h : XF B X e Γ (.dK m)) : XI B X tg e Γ (m.map fun p => kD p.1) := xi_of (pi_keys (pe_lk pe_s)) fun F σ H r R k => h F σ H r _ fun v F1 H1 x1 p1 => by
  cases p1 with
  | @dK a kvs _ g l =>
    rcases g with g | ⟨o, g⟩
    · refine .inl ⟨a, _, rfl, x1.sub _ _ g, trivial, fun od => ⟨a, od, rfl, .inl ⟨kvs, upd_same, ?_⟩⟩⟩
      have y := Ext.lock (od := od) x1.sub g trivial
      exact k _ _ _ (x1.trans y) (wk_keys upd_same (l.mono y.fwd))
    · exact .inr ⟨a, o, rfl, .inl ⟨kvs, x1.sub _ _ g, k _ F1 H1 x1 (wk_keys g l)⟩⟩
theorem xi_keysT {m : List (List Key × D)} (h : XF B X e Γ (.dT m)) : XI B X tg e Γ (m.map fun p => .tuple (p.1.map kD)) := xi_of (pi_keys (pe_lk pe_s)) fun F σ H r R k => h F σ H r _ fun v F1 H1 x1 p1 => by
  cases p1 with
  | @dT a kvs _ g l =>
    rcases g with g | ⟨o, g⟩
    · refine .inl ⟨a, _, rfl, x1.sub _ _ g, trivial, fun od => ⟨a, od, rfl, .inr ⟨kvs, upd_same, ?_⟩⟩⟩
      have y := Ext.lock (od := od) x1.sub g trivial
      exact k _ _ _ (x1.trans y) (wk_keysT upd_same (l.mono y.fwd))
    · exact .inr ⟨a, o, rfl, .inr ⟨kvs, x1.sub _ _ g, k _ F1 H1 x1 (wk_keysT g l)⟩⟩
end

/-! ### what a comprehension walks: nothing is written meanwhile -/
def Wj (J : It) (F0 H0 : Hp) (ds : List D) : Prop := ∀ (i : Nat) (F H : Hp), Ext F0 H0 F H →
  (∀ d, ds[i]? = some d → J.go i H ∧ ∀ x H', J.yld i H x H' → ∃ F', Ext F H F' H' ∧ Rp F' x d) ∧ (ds.length ≤ i → J.stop i H)
def EvJ (B : Bs) (wi : TI) (Γ : Gm) (ds : List D) : Prop := ∀ F σ H, StR B F σ H Γ → ∀ R : It → Hp → Prop, (∀ J F' H', Ext F H F' H' → Wj J F' H' ds → R J H') → wi σ H R
def XJ (B : Bs) (X : Cx) (tg iter : Expr) (Γ : Gm) (ds : List D) : Prop := EvJ B (sI X tg iter) Γ ds
section
variable {B : Bs} {X : Cx} {tg e : Expr} {Γ : Gm} {ds : List D} {wi : TI}
theorem XI.j (h : XI B X tg e Γ ds) : XJ B X tg e Γ ds := fun F σ H r R k => h F σ H r R fun J F' H' x wk => k J F' H' x fun i F2 H2 x2 => wk i F2 H2 x2.fwd x2.sub
theorem xj_of (q : PI X tg e wi) (h : EvJ B wi Γ ds) : XJ B X tg e Γ ds := fun F σ H r R k pins s I => q.run pins s σ H R I (h F σ H r R k)
theorem xj_list (h : XB B X e Γ (.list ds)) : XJ B X tg e Γ ds := xj_of (pi_list pe_s) fun F σ H r R k => h F σ H r _ fun v F1 H1 x1 p1 => by
  obtain ⟨a, xs, rfl, g, l⟩ := p1.list x1.sub
  refine ⟨a, rfl, ⟨xs, .inl g⟩, k _ F1 H1 x1 ?_⟩
  intro i F2 H2 x2
  obtain ⟨a', ys, ea, g2, l2⟩ := (p1.ext x2).list x2.sub
  cases ea
  refine ⟨fun d hd => ?_, fun hi => ⟨ys, .inl g2, by rw [l2.length]; exact hi⟩⟩
  obtain ⟨x, hx, px⟩ := l2.get hd
  refine ⟨⟨ys, x, .inl g2, hx⟩, fun y H' ⟨e, q⟩ => ?_⟩
  subst e
  have q2 := q ys (.inl g2)
  rw [hx] at q2
  cases q2
  exact ⟨F2, .refl x2.sub, px⟩
end

/-! ### targets -/
/-- only the slots js are stored -/
def Off (js : List Nat) (σ σ' : L2.St) : Prop := σ'.length = σ.length ∧ ∀ i, i ∉ js → σ'[i]? = σ[i]?
theorem Off.refl {js : List Nat} {σ : L2.St} : Off js σ σ := ⟨rfl, fun _ _ => rfl⟩
theorem Off.trans {js : List Nat} {σ σ1 σ2 : L2.St} (a : Off js σ σ1) (b : Off js σ1 σ2) : Off js σ σ2 := ⟨b.1.trans a.1, fun i h => (b.2 i h).trans (a.2 i h)⟩
theorem Off.mono {js ks : List Nat} {σ σ' : L2.St} (a : Off js σ σ') (h : ∀ j ∈ js, j ∈ ks) : Off ks σ σ' := ⟨a.1, fun i hi => a.2 i fun z => hi (h i z)⟩
theorem Off.set {js : List Nat} {σ : L2.St} {i : Nat} {o : Option V} (h : i ∈ js) : Off js σ (σ.set i o) := ⟨List.length_set, fun j hj => List.getElem?_set_ne (fun e : i = j => hj (e ▸ h))⟩
theorem off_wipe {vs : List Nat} : ∀ {σ σ' : L2.St}, Off vs σ σ' → wipe σ' vs = wipe σ vs := by
  intro σ σ' h
  have key : ∀ (vs : List Nat) (σ : L2.St) (i : Nat), (wipe σ vs)[i]? = if i ∈ vs ∧ i < σ.length then some none else σ[i]? := by
    intro vs
    induction vs with
    | nil => intro σ i; simp [wipe]
    | cons v vs ih =>
      intro σ i
      unfold wipe
      by_cases hv : v = i
      · subst hv
        by_cases hl : v < σ.length
        · rw [List.getElem?_set_self (by rw [wipe_length]; exact hl), if_pos ⟨List.mem_cons_self, hl⟩]
        · rw [List.getElem?_eq_none (by rw [List.length_set, wipe_length]; omega), if_neg (fun z => hl z.2), List.getElem?_eq_none (by omega)]
      · rw [List.getElem?_set_ne hv, ih σ i]
        by_cases hm : i ∈ vs ∧ i < σ.length
        · rw [if_pos hm, if_pos ⟨List.mem_cons_of_mem _ hm.1, hm.2⟩]
        · rw [if_neg hm, if_neg]
          rintro ⟨h1, h2⟩
          rcases List.mem_cons.mp h1 with e | e
          · exact hv e.symm
          · exact hm ⟨e, h2⟩
  refine List.ext_getElem? fun i => ?_
  rw [key, key, h.1]
  by_cases hm : i ∈ vs ∧ i < σ.length
  · rw [if_pos hm, if_pos hm]
  · rw [if_neg hm, if_neg hm]
    by_cases hi : i ∈ vs
    · have h5 : ¬ i < σ.length := fun z => hm ⟨hi, z⟩
      rw [List.getElem?_eq_none (by rw [h.1]; omega), List.getElem?_eq_none (by omega)]
    · exact h.2 i hi
/-- the target takes the data d: the cells are then Γ' -/
def Gv (B : Bs) (g : TG) (d : D) (Γ : Gm) (js : List Nat) (Γ' : Gm) : Prop := ∀ F σ H v, StR B F σ H Γ → Rp F v d → ∀ Q : L2.St → Hp → Prop, (∀ F' H' σ', Ext F H F' H' → StR B F' σ' H' Γ' → Off js σ σ' → Q σ' H') → g v σ H Q
def Gvs (B : Bs) (g : TGs) (ds : List D) (Γ : Gm) (js : List Nat) (Γ' : Gm) : Prop := ∀ F σ H vs, StR B F σ H Γ → RpL F vs ds → ∀ Q : L2.St → Hp → Prop, (∀ F' H' σ', Ext F H F' H' → StR B F' σ' H' Γ' → Off js σ σ' → Q σ' H') → g vs σ H Q
def sGs (X : Cx) (ts : List Expr) : TGs := fun vs σ H Q => ∀ (pins : List (Addr × Obj)) (s : Shared) (us : List Value), Inv X pins σ H s → Vals vs us →
  wpAny (model X.prog X.w) X.A (assignInOrder ((assignEach ts X.env).map (·.2)) us) (fun _ s' => ∃ σ' H', Inv X pins σ' H' s' ∧ Q σ' H') X.xe s
theorem pgs_s {X : Cx} {ts : List Expr} : PGs X ts (sGs X ts) := ⟨fun pins s σ H vs us Q I r h => h pins s us I r⟩
def XG (B : Bs) (X : Cx) (tg : Expr) (d : D) (Γ : Gm) (js : List Nat) (Γ' : Gm) : Prop := Gv B (sG X tg) d Γ js Γ'
def XGs (B : Bs) (X : Cx) (ts : List Expr) (ds : List D) (Γ : Gm) (js : List Nat) (Γ' : Gm) : Prop := Gvs B (sGs X ts) ds Γ js Γ'
section
variable {B : Bs} {X : Cx} {tg e : Expr} {ts : List Expr} {Γ Γ1 Γ2 : Gm} {d : D} {ds : List D} {g : TG} {gs : TGs} {js ks : List Nat} {p pos : Pos}
theorem xg_of (q : PG X tg g) (h : Gv B g d Γ js Γ1) : XG B X tg d Γ js Γ1 := fun F σ H v r pv Q k pins s u I ru => q.run pins s σ H v u Q I ru (h F σ H v r pv Q k)
theorem xgs_of (q : PGs X ts gs) (h : Gvs B gs ds Γ js Γ1) : XGs B X ts ds Γ js Γ1 := fun F σ H v r pv Q k pins s u I ru => q.run pins s σ H v u Q I ru (h F σ H v r pv Q k)
theorem xg_name (i : Nat) {x : Str} (hN : X.N.Nodup) (hi : X.N[i]? = some x := by rfl) (hx : Loc X.env.scope x := by first | exact Or.inl rfl | exact Or.inr rfl) (hf : X.fn x = true ∨ X.env.scope.names.lookup x = some .local := by first | exact .inl rfl | exact .inr rfl) :
    XG B X (.Name x pos) d Γ [i] (Γ.set i (.fr d)) := xg_of (pg_name hN hi hx hf) fun F σ H v r pv Q k => k F H _ (.refl r.sub) (r.set i pv) (Off.set List.mem_cons_self)
theorem xgs_nil : XGs B X [] [] Γ [] Γ := xgs_of pgs_nil fun F σ H vs r pv Q k => by
  cases pv
  exact ⟨rfl, k F H σ (.refl r.sub) r .refl⟩
theorem xgs_cons (h1 : XG B X tg d Γ js Γ1) (h2 : XGs B X ts ds Γ1 ks Γ2) (hs : (assignEach (tg :: ts) X.env).map (·.2) = assign tg X.env :: (assignEach ts X.env).map (·.2) := by rfl) : XGs B X (tg :: ts) (d :: ds) Γ (js ++ ks) Γ2 := xgs_of (pgs_cons pg_s pgs_s hs) fun F σ H vs r pv Q k => by
  cases pv with
  | cons p l =>
    exact ⟨_, _, rfl, h1 F σ H _ r p _ fun F1 H1 σ1 x1 r1 o1 => h2 F1 σ1 H1 _ r1 (l.mono x1.fwd) _ fun F2 H2 σ2 x2 r2 o2 =>
      k F2 H2 σ2 (x1.trans x2) r2 ((o1.mono fun j hj => List.mem_append_left _ hj).trans (o2.mono fun j hj => List.mem_append_right _ hj))⟩
theorem xg_tup {n : Nat} {k0 : Nat} (hc : X.calm = true) (h : XGs B X ts ds Γ js Γ1) (hl : ds.length = n := by rfl) (hn : (assignEach ts X.env).length = n := by rfl) (hst : (assignEach ts X.env).findIdx? (·.1) = none := by rfl) : XG B X (.Tuple ts k0 pos) (.tuple ds) Γ js Γ1 :=
  xg_of (pg_tup hc pgs_s hn hst) fun F σ H v r pv Q k => by
    cases pv with
    | tup g l => exact ⟨_, _, rfl, .inl (.inl (r.sub _ _ g)), by rw [l.length]; exact hl, h F σ H _ r l Q k⟩
end

/-! ### statements -/
/-- what is wanted behind a statement, over the cells: behind it; of a frozen value, of an own new object that is returned; of break; of continue -/
structure Po where
  nx : Gm → Prop
  rt : D → Prop
  ro : D → Prop := fun _ => False
  bk : Gm → Prop := fun _ => False
  ct : Gm → Prop := fun _ => False
/-- D gives what R wants, from the zone F on -/
structure Fits (B : Bs) (F : Hp) (R : Po) (D : Ends) : Prop where
  nx : ∀ F' σ' H' Γ', SameL F F' → StR B F' σ' H' Γ' → R.nx Γ' → D.nx σ' H'
  rt : ∀ F' H' v d, SameL F F' → Ext B.F B.H F' H' → Rp F' v d → R.rt d → D.rt v H'
  ro : ∀ F' H' p d, SameL F F' → Ext B.F B.H F' H' → B.H p = none → F' p = none → Own F' H' p d → R.ro d → D.rt (.ref p) H'
  bk : ∀ F' σ' H' Γ', SameL F F' → StR B F' σ' H' Γ' → R.bk Γ' → D.bk σ' H'
  ct : ∀ F' σ' H' Γ', SameL F F' → StR B F' σ' H' Γ' → R.ct Γ' → D.ct σ' H'
theorem Fits.later {B : Bs} {F F1 : Hp} {R : Po} {D : Ends} (f : Fits B F R D) (s : SameL F F1) : Fits B F1 R D :=
  ⟨fun F' σ' H' Γ' k => f.nx F' σ' H' Γ' (s.trans k), fun F' H' v d k => f.rt F' H' v d (s.trans k), fun F' H' p d k => f.ro F' H' p d (s.trans k), fun F' σ' H' Γ' k => f.bk F' σ' H' Γ' (s.trans k), fun F' σ' H' Γ' k => f.ct F' σ' H' Γ' (s.trans k)⟩
def WPt (B : Bs) (t : TS) (Γ : Gm) (R : Po) : Prop := ∀ F σ H, StR B F σ H Γ → ∀ D : Ends, Fits B F R D → t D σ H
def WP (B : Bs) (X : Cx) (sts : List Stmt) (Γ : Gm) (R : Po) : Prop := WPt B (sSs X sts) Γ R
def sS (X : Cx) (st : Stmt) : TS := fun D σ H => ∀ (pins : List (Addr × Obj)) (s : Shared), Inv X pins σ H s → wpAny (model X.prog X.w) X.A (exec st X.env) (SP X pins D) X.xe s
theorem ps_s {X : Cx} {st : Stmt} : PS X st (sS X st) := ⟨fun pins s σ H D I h => h pins s I⟩
def W1 (B : Bs) (X : Cx) (st : Stmt) (Γ : Gm) (R : Po) : Prop := WPt B (sS X st) Γ R
section
variable {B : Bs} {X : Cx} {st : Stmt} {rest body suite : List Stmt} {tg iter e e1 e2 e3 c : Expr} {es : List Expr} {Γ Γ1 Γ2 : Gm} {R : Po} {d : D} {ds : List D} {t u : TS} {k : Bool} {p pos : Pos}
theorem wp_of (q : PSs X rest t) (h : WPt B t Γ R) : WP B X rest Γ R := fun F σ H r D f pins s I => q.run pins s σ H D I (h F σ H r D f)
theorem w1_of (q : PS X st t) (h : WPt B t Γ R) : W1 B X st Γ R := fun F σ H r D f pins s I => q.run pins s σ H D I (h F σ H r D f)
theorem wpt_seq (h : WPt B t Γ { R with nx := fun Γ' => WPt B u Γ' R }) : WPt B (tSeq t u) Γ R := fun F σ H r D f => h F σ H r { D with nx := u D } ⟨fun F' σ' H' Γ' s r' w => w F' σ' H' r' D (f.later s), f.rt, f.ro, f.bk, f.ct⟩
theorem wp_nil (h : R.nx Γ) : WP B X [] Γ R := wp_of pss_nil fun F σ H r D f => f.nx F σ H Γ (SameL.refl F) r h
theorem wp_one (h : W1 B X st Γ R) : WP B X [st] Γ R := wp_of (pss_one ps_s) h
theorem wp_cons (h : W1 B X st Γ { R with nx := fun Γ' => WP B X rest Γ' R }) : WP B X (st :: rest) Γ R := wp_of (pss_cons ps_s pss_s) (wpt_seq h)
/-- with a word in between -/
theorem wp_cut (M : Gm → Prop) (h : W1 B X st Γ { R with nx := M }) (k : ∀ Γ', M Γ' → WP B X rest Γ' R) : WP B X (st :: rest) Γ R :=
  wp_cons fun F σ H r D f => h F σ H r D ⟨fun F' σ' H' Γ' s r' m => f.nx F' σ' H' Γ' s r' (k Γ' m), f.rt, f.ro, f.bk, f.ct⟩
/-- an own object of a slot is frozen: nothing runs -/
theorem wp_freeze (i : Nat) (e : Γ[i]? = some (.ow d)) (h : WP B X rest (Γ.set i (.fr d)) R) : WP B X rest Γ R := fun F σ H r D f => by
  obtain ⟨F', r', s⟩ := r.freeze e
  exact h F' σ H r' D (f.later s)
/-- what a slot holds is forgotten -/
theorem wp_forget (i : Nat) (h : WP B X rest (Γ.set i .no) R) : WP B X rest Γ R := fun F σ H r D f => by
  by_cases hi : i < σ.length
  · have r' := r.setNo i (σ[i]'hi)
    rw [List.set_getElem_self hi] at r'
    exact h F σ H r' D f
  · have e : Γ.set i .no = Γ := List.set_eq_of_length_le (by rw [← r.len]; omega)
    rw [e] at h
    exact h F σ H r D f
theorem WPt.asg {te : TE} {g : TG} {js : List Nat} (h1 : EvF B te Γ d) (h2 : Gv B g d Γ js Γ1) (h : R.nx Γ1) : WPt B (tAsg te g) Γ R := fun F σ H r D f => h1 F σ H r _ fun v F1 H1 x1 p1 =>
  h2 F1 σ H1 v (r.ext x1) p1 _ fun F2 H2 σ2 x2 r2 _ => f.nx F2 σ2 H2 Γ1 ((x1.trans x2).fwd) r2 h
/-- name = frozen data -/
theorem w1_set (i : Nat) {x : Str} {pos' : Pos} (hN : X.N.Nodup) (h1 : XF B X e Γ d) (h : R.nx (Γ.set i (.fr d))) (hi : X.N[i]? = some x := by rfl) (hx : Loc X.env.scope x := by first | exact Or.inl rfl | exact Or.inr rfl) (hs : swapsWith e (some (.Name x pos')) pos.line X.env = pure false := by rfl)
    (hf : X.fn x = true ∨ X.env.scope.names.lookup x = some .local := by first | exact .inl rfl | exact .inr rfl) : W1 B X (.Assign [.Name x pos'] e pos) Γ R :=
  w1_of (ps_set hN hi hx pe_s hs hf) fun F σ H r D f => h1 F σ H r _ fun v F1 H1 x1 p1 => f.nx F1 _ H1 _ x1.fwd ((r.ext x1).set i p1) h
/-- name = a new object of its own -/
theorem w1_own (i : Nat) {x : Str} {pos' : Pos} (hN : X.N.Nodup) (h1 : XO B X e Γ d) (h : R.nx (Γ.set i (.ow d))) (hi : X.N[i]? = some x := by rfl) (hx : Loc X.env.scope x := by first | exact Or.inl rfl | exact Or.inr rfl) (hs : swapsWith e (some (.Name x pos')) pos.line X.env = pure false := by rfl)
    (hf : X.fn x = true ∨ X.env.scope.names.lookup x = some .local := by first | exact .inl rfl | exact .inr rfl) : W1 B X (.Assign [.Name x pos'] e pos) Γ R :=
  w1_of (ps_set hN hi hx pe_s hs hf) fun F σ H r D f => h1 F σ H r _ fun p F1 H1 x1 n n' o => by
    have r1 := r.ext x1
    refine f.nx F1 _ H1 _ x1.fwd (r1.setOw i (r.fresh n) n' o fun j e ej es => ?_) h
    obtain ⟨q, eq, _, _, oq⟩ := r.sl j _ ej
    rw [es] at eq
    cases eq
    obtain ⟨u, hu⟩ := oq.there
    rw [n] at hu
    cases hu
end
end G

/-! ## GF: dicts as maps; dict reads; statements over own lists and dicts; if, for, while, return -/
namespace G
open PySem PySem.Spec PyProof.Rows L2

/-! ### dicts as maps -/
section
variable {κ β γ : Type} [DecidableEq κ]
def getM (m : List (κ × β)) (k : κ) : Option β := (m.find? fun p => decide (p.1 = k)).map (·.2)
def hasM (m : List (κ × β)) (k : κ) : Bool := m.any fun p => decide (p.1 = k)
def putM (m : List (κ × β)) (k : κ) (v : β) : List (κ × β) := if hasM m k = true then m.map (fun p => if p.1 = k then (p.1, v) else p) else m ++ [(k, v)]
theorem getM_nil (k : κ) : getM ([] : List (κ × β)) k = none := rfl
theorem getM_cons (p : κ × β) (m : List (κ × β)) (k : κ) : getM (p :: m) k = if p.1 = k then some p.2 else getM m k := by
  unfold getM
  rw [List.find?_cons]
  by_cases h : p.1 = k
  · rw [decide_eq_true h, if_pos h]; rfl
  · rw [decide_eq_false h, if_neg h]
theorem getM_isSome : ∀ (m : List (κ × β)) (k : κ), (getM m k).isSome = hasM m k
  | [], _ => rfl
  | p :: m, k => by
    rw [getM_cons]
    show _ = (decide (p.1 = k) || hasM m k)
    by_cases h : p.1 = k
    · rw [if_pos h, decide_eq_true h]; rfl
    · rw [if_neg h, decide_eq_false h, getM_isSome m k]; rfl
theorem putM_length (m : List (κ × β)) (k : κ) (v : β) : (putM m k v).length ≤ m.length + 1 := by
  unfold putM
  split
  · rw [List.length_map]; omega
  · rw [List.length_append]; exact Nat.le_refl _
variable {F : Hp}
theorem rpm_get {k : κ} : ∀ {kvs : List (κ × V)} {m : List (κ × D)}, RpM F kvs m → (∀ d, getM m k = some d → ∃ v, valV kvs k = some v ∧ Rp F v d) ∧ (getM m k = none → valV kvs k = none)
  | _, _, .nil => ⟨fun _ h => (by cases h), fun _ => rfl⟩
  | (k1, v) :: _, (_, d) :: _, .cons p l => by
    obtain ⟨i1, i2⟩ := rpm_get l
    by_cases hk : k1 = k
    · refine ⟨fun d' h => ?_, fun h => ?_⟩
      · rw [getM_cons, if_pos hk] at h
        cases h
        exact ⟨v, valV_pos hk, p⟩
      · rw [getM_cons, if_pos hk] at h
        cases h
    · refine ⟨fun d' h => ?_, fun h => ?_⟩
      · rw [getM_cons, if_neg hk] at h
        rw [valV_neg hk]
        exact i1 d' h
      · rw [getM_cons, if_neg hk] at h
        rw [valV_neg hk]
        exact i2 h
theorem rpm_some {k : κ} {kvs : List (κ × V)} {m : List (κ × D)} (l : RpM F kvs m) : (valV kvs k).isSome = hasM m k := by
  obtain ⟨i1, i2⟩ := rpm_get (k := k) l
  rw [← getM_isSome]
  cases e : getM m k with
  | none => rw [i2 e]; rfl
  | some d =>
    obtain ⟨v, ev, _⟩ := i1 d e
    rw [ev]; rfl
theorem rpm_has {k : κ} : ∀ {kvs : List (κ × V)} {m : List (κ × D)}, RpM F kvs m → (kvs.any fun kv => decide (kv.1 = k)) = hasM m k
  | _, _, .nil => rfl
  | (k1, v) :: _, (_, d) :: _, .cons p l => by
    show (decide (k1 = k) || _) = (decide (k1 = k) || _)
    rw [rpm_has l]
    rfl
theorem rpm_append : ∀ {kvs ws : List (κ × V)} {m n : List (κ × D)}, RpM F kvs m → RpM F ws n → RpM F (kvs ++ ws) (m ++ n)
  | _, _, _, _, .nil, g => g
  | _, _, _, _, .cons p l, g => .cons p (rpm_append l g)
theorem rpm_set {k : κ} {v : V} {d : D} (p : Rp F v d) : ∀ {kvs : List (κ × V)} {m : List (κ × D)}, RpM F kvs m → RpM F (kvs.map fun kv => if kv.1 = k then (kv.1, v) else kv) (m.map fun q => if q.1 = k then (q.1, d) else q)
  | _, _, .nil => .nil
  | (k1, v1) :: _, (_, d1) :: _, .cons q l => by
    rw [List.map_cons, List.map_cons]
    by_cases hk : k1 = k
    · rw [if_pos hk, if_pos hk]
      exact .cons p (rpm_set p l)
    · rw [if_neg hk, if_neg hk]
      exact .cons q (rpm_set p l)
theorem rpm_put {k : κ} {v : V} {d : D} (p : Rp F v d) {kvs : List (κ × V)} {m : List (κ × D)} (h : RpM F kvs m) : RpM F (putK kvs k v) (putM m k d) := by
  unfold putK putM
  rw [rpm_has h]
  by_cases hk : hasM m k = true
  · rw [if_pos hk, if_pos hk]
    exact rpm_set p h
  · rw [if_neg hk, if_neg hk]
    exact rpm_append h (.cons p .nil)
end
theorem rp_kV {F : Hp} {v : V} {k : Key} (h : Rp F v (kD k)) : v = kV k := by
  cases k with
  | inl i => cases h; rfl
  | inr x => cases h; rfl
theorem rpl_kV {F : Hp} : ∀ {vs : List V} {ks : List Key}, RpL F vs (ks.map kD) → vs = ks.map kV
  | _, [], .nil => rfl
  | _, k :: ks, .cons h l => by rw [rp_kV h, rpl_kV l]; rfl
theorem kD_atom (k : Key) : atom (kD k) = true := by cases k <;> rfl
/-! ### a dict asked -/
section
variable {B : Bs} {X : Cx} {e e1 e2 e3 o i : Expr} {Γ : Gm} {d d' : D} {mk : List (Key × D)} {mt : List (List Key × D)} {k : Key} {ks : List Key} {pos apos cpos : Pos}
theorem dget_k {F H : Hp} {v w : V} (s : Same F H) (h1 : Rb F H v (.dK mk)) (h2 : Rb F H w (kD k)) : ∃ a o, v = .ref a ∧ DGet H a w o ∧ o.isSome = hasM mk k ∧ (∀ d, getM mk k = some d → ∃ x, o = some x ∧ Rp F x d) := by
  obtain ⟨a, kvs, rfl, g, l⟩ := h1.dK s
  have ew := rp_kV (h2.atom (F' := F) (kD_atom k))
  refine ⟨a, valV kvs k, rfl, .inl ⟨kvs, k, g, ew, rfl⟩, rpm_some l, (rpm_get l).1⟩
theorem dget_t {F H : Hp} {v w : V} (s : Same F H) (h1 : Rb F H v (.dT mt)) (h2 : Rb F H w (.tuple (ks.map kD))) : ∃ a o, v = .ref a ∧ DGet H a w o ∧ o.isSome = hasM mt ks ∧ (∀ d, getM mt ks = some d → ∃ x, o = some x ∧ Rp F x d) := by
  obtain ⟨a, kvs, rfl, g, l⟩ := h1.dT s
  obtain ⟨b, xs, rfl, _, gb, lb⟩ := h2.tuple s
  rw [rpl_kV lb] at gb
  exact ⟨a, valV kvs ks, rfl, .inr ⟨kvs, ks, b, g, rfl, gb, rfl⟩, rpm_some l, (rpm_get l).1⟩
theorem xf_get {t : D} {g : Option D} (hu : X.A.units + 1 < cLine) (h1 : XB B X o Γ t) (h2 : XB B X i Γ d') (hg : ∀ F H v w, Same F H → Rb F H v t → Rb F H w d' → ∃ a y, v = .ref a ∧ DGet H a w (some y) ∧ Rp F y d) (hs : NoSl i := by intro _ _; rfl) : XF B X (.Subscript o i pos) Γ d :=
  xf_of (pe_dget hu pe_s pe_s hs) fun F σ H r Q q => h1 F σ H r _ fun v F1 H1 x1 p1 => h2 F1 σ H1 (r.ext x1) _ fun w F2 H2 x2 p2 => by
    obtain ⟨a, y, rfl, g, py⟩ := hg F2 H2 v w x2.sub (p1.ext x2) p2
    exact ⟨a, y, rfl, g, q y F2 H2 (x1.trans x2) py⟩
/-- d[k] -/
theorem xf_getK (hu : X.A.units + 1 < cLine) (h1 : XB B X o Γ (.dK mk)) (h2 : XB B X i Γ (kD k)) (hg : getM mk k = some d) (hs : NoSl i := by intro _ _; rfl) : XF B X (.Subscript o i pos) Γ d := xf_get (g := none) hu h1 h2 (fun F H v w s p1 p2 => by
  obtain ⟨a, ov, rfl, g, _, q⟩ := dget_k s p1 p2
  obtain ⟨x, rfl, px⟩ := q d hg
  exact ⟨a, x, rfl, g, px⟩) hs
theorem xf_getT (hu : X.A.units + 1 < cLine) (h1 : XB B X o Γ (.dT mt)) (h2 : XB B X i Γ (.tuple (ks.map kD))) (hg : getM mt ks = some d) (hs : NoSl i := by intro _ _; rfl) : XF B X (.Subscript o i pos) Γ d := xf_get (g := none) hu h1 h2 (fun F H v w s p1 p2 => by
  obtain ⟨a, ov, rfl, g, _, q⟩ := dget_t s p1 p2
  obtain ⟨x, rfl, px⟩ := q d hg
  exact ⟨a, x, rfl, g, px⟩) hs
/-- k in d, k not in d -/
theorem evf_din {ta tb : TE} {t : D} {b : Bool} (h1 : EvB B ta Γ d') (h2 : EvB B tb Γ t) (hg : ∀ F H v w, Same F H → Rb F H v t → Rb F H w d' → ∃ a o, v = .ref a ∧ DGet H a w o ∧ o.isSome = b) : EvF B (tDIn ta tb) Γ (.bool b) := fun F σ H r Q q =>
  h1 F σ H r _ fun w F1 H1 x1 p1 => h2 F1 σ H1 (r.ext x1) _ fun v F2 H2 x2 p2 => by
    obtain ⟨a, ov, rfl, g, e⟩ := hg F2 H2 v w x2.sub p2 (p1.ext x2)
    refine ⟨a, ov, rfl, g, ?_⟩
    rw [e]
    exact q _ F2 H2 (x1.trans x2) (.bl _)
theorem evf_dnotin {ta tb : TE} {t : D} {b : Bool} (h1 : EvB B ta Γ d') (h2 : EvB B tb Γ t) (hg : ∀ F H v w, Same F H → Rb F H v t → Rb F H w d' → ∃ a o, v = .ref a ∧ DGet H a w o ∧ o.isSome = b) : EvF B (tDNotIn ta tb) Γ (.bool (!b)) := fun F σ H r Q q =>
  h1 F σ H r _ fun w F1 H1 x1 p1 => h2 F1 σ H1 (r.ext x1) _ fun v F2 H2 x2 p2 => by
    obtain ⟨a, ov, rfl, g, e⟩ := hg F2 H2 v w x2.sub p2 (p1.ext x2)
    refine ⟨a, ov, rfl, g, ?_⟩
    rw [e]
    exact q _ F2 H2 (x1.trans x2) (.bl _)
theorem evt_B {t : TE} {b : Bool} (h : EvF B t Γ (.bool b)) : EvT B (tB t) Γ b := fun F σ H r Q q => h F σ H r _ fun v F' H' x p => by
  cases p
  exact ⟨b, rfl, q F' H' x⟩
theorem xf_inK (hu : X.A.units + 1 < cLine) (h1 : XB B X i Γ (kD k)) (h2 : XB B X o Γ (.dK mk)) (hm : behindInMarks .In o = false := by rfl) : XF B X (.Compare i [.In] [o] pos) Γ (.bool (hasM mk k)) := xf_of (pe_cmp (pc_din hu pe_s pe_s) hm) (evf_din h1 h2 fun F H v w s p1 p2 => by
  obtain ⟨a, ov, e, g, eo, _⟩ := dget_k s p1 p2
  exact ⟨a, ov, e, g, eo⟩)
theorem xf_ninK (hu : X.A.units + 1 < cLine) (h1 : XB B X i Γ (kD k)) (h2 : XB B X o Γ (.dK mk)) (hm : behindInMarks .NotIn o = false := by rfl) : XF B X (.Compare i [.NotIn] [o] pos) Γ (.bool (!hasM mk k)) := xf_of (pe_cmp (pc_dnotin hu pe_s pe_s) hm) (evf_dnotin h1 h2 fun F H v w s p1 p2 => by
  obtain ⟨a, ov, e, g, eo, _⟩ := dget_k s p1 p2
  exact ⟨a, ov, e, g, eo⟩)
theorem xt_inK (hu : X.A.units + 1 < cLine) (h1 : XB B X i Γ (kD k)) (h2 : XB B X o Γ (.dK mk)) (hm : behindInMarks .In o = false := by rfl) : XT B X (.Compare i [.In] [o] pos) Γ (hasM mk k) := xt_of (pt_cmp (pc_din hu pe_s pe_s) hm) (evt_B (evf_din h1 h2 fun F H v w s p1 p2 => by
  obtain ⟨a, ov, e, g, eo, _⟩ := dget_k s p1 p2
  exact ⟨a, ov, e, g, eo⟩))
theorem xt_ninK (hu : X.A.units + 1 < cLine) (h1 : XB B X i Γ (kD k)) (h2 : XB B X o Γ (.dK mk)) (hm : behindInMarks .NotIn o = false := by rfl) : XT B X (.Compare i [.NotIn] [o] pos) Γ (!hasM mk k) := xt_of (pt_cmp (pc_dnotin hu pe_s pe_s) hm) (evt_B (evf_dnotin h1 h2 fun F H v w s p1 p2 => by
  obtain ⟨a, ov, e, g, eo, _⟩ := dget_k s p1 p2
  exact ⟨a, ov, e, g, eo⟩))
theorem xf_inTK (hu : X.A.units + 1 < cLine) (h1 : XB B X i Γ (.tuple (ks.map kD))) (h2 : XB B X o Γ (.dT mt)) (hm : behindInMarks .In o = false := by rfl) : XF B X (.Compare i [.In] [o] pos) Γ (.bool (hasM mt ks)) := xf_of (pe_cmp (pc_din hu pe_s pe_s) hm) (evf_din h1 h2 fun F H v w s p1 p2 => by
  obtain ⟨a, ov, e, g, eo, _⟩ := dget_t s p1 p2
  exact ⟨a, ov, e, g, eo⟩)
theorem xf_ninTK (hu : X.A.units + 1 < cLine) (h1 : XB B X i Γ (.tuple (ks.map kD))) (h2 : XB B X o Γ (.dT mt)) (hm : behindInMarks .NotIn o = false := by rfl) : XF B X (.Compare i [.NotIn] [o] pos) Γ (.bool (!hasM mt ks)) := xf_of (pe_cmp (pc_dnotin hu pe_s pe_s) hm) (evf_dnotin h1 h2 fun F H v w s p1 p2 => by
  obtain ⟨a, ov, e, g, eo, _⟩ := dget_t s p1 p2
  exact ⟨a, ov, e, g, eo⟩)
theorem xt_inTK (hu : X.A.units + 1 < cLine) (h1 : XB B X i Γ (.tuple (ks.map kD))) (h2 : XB B X o Γ (.dT mt)) (hm : behindInMarks .In o = false := by rfl) : XT B X (.Compare i [.In] [o] pos) Γ (hasM mt ks) := xt_of (pt_cmp (pc_din hu pe_s pe_s) hm) (evt_B (evf_din h1 h2 fun F H v w s p1 p2 => by
  obtain ⟨a, ov, e, g, eo, _⟩ := dget_t s p1 p2
  exact ⟨a, ov, e, g, eo⟩))
theorem xt_ninTK (hu : X.A.units + 1 < cLine) (h1 : XB B X i Γ (.tuple (ks.map kD))) (h2 : XB B X o Γ (.dT mt)) (hm : behindInMarks .NotIn o = false := by rfl) : XT B X (.Compare i [.NotIn] [o] pos) Γ (!hasM mt ks) := xt_of (pt_cmp (pc_dnotin hu pe_s pe_s) hm) (evt_B (evf_dnotin h1 h2 fun F H v w s p1 p2 => by
  obtain ⟨a, ov, e, g, eo, _⟩ := dget_t s p1 p2
  exact ⟨a, ov, e, g, eo⟩))
end

/-! ### statements -/
section
variable {B : Bs} {X : Cx} {st : Stmt} {rest body els suite : List Stmt} {tg iter e e1 e2 e3 c : Expr} {es : List Expr} {Γ Γ1 Γ2 : Gm} {R : Po} {d : D} {ds : List D} {t u : TS} {k : Bool} {p pos apos cpos pn : Pos} {x : Str} {js : List Nat}
theorem w1_pass (h : R.nx Γ) : W1 B X (.Pass pos) Γ R := w1_of ps_pass fun F σ H r D f => f.nx F σ H Γ (SameL.refl F) r h
theorem w1_break (h : R.bk Γ) : W1 B X (.Break pos) Γ R := w1_of ps_break fun F σ H r D f => f.bk F σ H Γ (SameL.refl F) r h
theorem w1_continue (h : R.ct Γ) : W1 B X (.Continue pos) Γ R := w1_of ps_continue fun F σ H r D f => f.ct F σ H Γ (SameL.refl F) r h
theorem w1_ret (h1 : XF B X e Γ d) (h : R.rt d) : W1 B X (.Return (some e) pos) Γ R := w1_of (ps_ret pe_s) fun F σ H r D f => h1 F σ H r _ fun v F1 H1 x1 p1 => f.rt F1 H1 v d x1.fwd (r.ex.trans x1) p1 h
theorem w1_retN (h : R.rt .none) : W1 B X (.Return none pos) Γ R := w1_of ps_retN fun F σ H r D f => f.rt F H _ _ (SameL.refl F) r.ex .non h
/-- a new object of one's own is handed back -/
theorem w1_retO (h1 : XO B X e Γ d) (h : R.ro d) : W1 B X (.Return (some e) pos) Γ R := w1_of (ps_ret pe_s) fun F σ H r D f => h1 F σ H r _ fun p F1 H1 x1 n n' o => f.ro F1 H1 p d x1.fwd (r.ex.trans x1) (r.fresh n) n' o h
/-- an own object of a slot is handed back -/
theorem w1_retW (i : Nat) (e : Γ[i]? = some (.ow d)) (h : R.ro d) (hN : X.N[i]? = some x := by rfl) (hv : Vis X.env.scope x := by first | exact Or.inl rfl | exact Or.inr (Or.inl rfl)) (h1 : (x == ("__debug__" : Str)) = false := by decide) (h2 : (x == ("__classdict__" : Str)) = false := by decide) :
    W1 B X (.Return (some (.Name x pn)) pos) Γ R := w1_of (ps_ret (pe_var hN hv h1 h2)) fun F σ H r D f => by
  obtain ⟨q, eq, b, n, o⟩ := r.sl i _ e
  exact ⟨_, eq, f.ro F H q d (SameL.refl F) r.ex b n o h⟩
theorem w1_if {k : Bool} (hc : XT B X c Γ k) (h1 : k = true → WP B X body Γ R) (h2 : k = false → WP B X els Γ R) : W1 B X (.If c body els pos) Γ R := w1_of (ps_if pt_s pss_s pss_s) fun F σ H r D f => hc F σ H r _ fun F1 H1 x1 => by
  cases k with
  | true => exact iteT (h1 rfl F1 σ H1 (r.ext x1) D (f.later x1.fwd))
  | false => exact iteF (h2 rfl F1 σ H1 (r.ext x1) D (f.later x1.fwd))
/-- target = frozen data -/
theorem w1_asg (h1 : XF B X e Γ d) (h2 : XG B X tg d Γ js Γ1) (h : R.nx Γ1) (hs : swapsWithSole [tg] e pos.line X.env = pure false := by rfl) (hw : swappedStores [tg] e X.env = pure none := by rfl) (h3 : (assignEach [tg] X.env).map (·.2) = [assign tg X.env] := by rfl) :
    W1 B X (.Assign [tg] e pos) Γ R := w1_of (ps_asg pe_s pg_s hs hw h3) (WPt.asg h1 h2 h)
/-- an expression whose value is dropped -/
theorem w1_expr (h1 : XB B X e Γ d) (h : R.nx Γ) (hs : swapsWith e none pos.line X.env = pure false := by rfl) : W1 B X (.Expr e pos) Γ R := w1_of (ps_expr pe_s hs) fun F σ H r D f => h1 F σ H r _ fun v F1 H1 x1 p1 => f.nx F1 σ H1 Γ x1.fwd (r.ext x1) h
theorem w1_doc {x : Str} {j pos'} (h : R.nx Γ) : W1 B X (.Expr (.Constant (.str x) j pos) pos') Γ R := w1_of ps_doc fun F σ H r D f => f.nx F σ H Γ (SameL.refl F) r h
/-- name += int -/
theorem w1_aug (i : Nat) {m n : Int} {pos' : Pos} (hN : X.N.Nodup) (e0 : Γ[i]? = some (.fr (.int m))) (h1 : XB B X e Γ (.int n)) (h : R.nx (Γ.set i (.fr (.int (m + n))))) (hi : X.N[i]? = some x := by rfl) (hx : Loc X.env.scope x := by first | exact Or.inl rfl | exact Or.inr rfl)
    (hf : X.fn x = true ∨ X.env.scope.names.lookup x = some .local := by first | exact .inl rfl | exact .inr rfl) : W1 B X (.AugAssign (.Name x pos') .Add e pos) Γ R := w1_of (ps_aug hN hi hx pe_s ip_add hf) fun F σ H r D f => by
  obtain ⟨v, ev, pv⟩ := r.sl i _ e0
  cases pv
  refine ⟨_, ev, h1 F σ H r _ fun w F1 H1 x1 p1 => ?_⟩
  rw [p1.int]
  exact ⟨m, n, rfl, rfl, f.nx F1 _ H1 _ x1.fwd ((r.ext x1).set i (.int _)) h⟩
theorem StR.slot {F H : Hp} {σ : L2.St} (r : StR B F σ H Γ) {i : Nat} (e : Γ[i]? = some (.ow d)) : ∃ p, σ[i]? = some (some (.ref p)) ∧ B.H p = none ∧ F p = none ∧ Own F H p d := r.sl i _ e
/-- xs.append(e) -/
theorem w1_append (i : Nat) (e0 : Γ[i]? = some (.ow (.list ds))) (h1 : XF B X e Γ d) (hz : ds.length < sizeLine) (h : R.nx (Γ.set i (.ow (.list (ds ++ [d])))))
    (hN : X.N[i]? = some x := by rfl) (hv : Vis X.env.scope x := by first | exact Or.inl rfl | exact Or.inr (Or.inl rfl)) (k1 : (x == ("__debug__" : Str)) = false := by decide) (k2 : (x == ("__classdict__" : Str)) = false := by decide)
    (hbase : attributeBase (.Name x pn) "append" X.env (eval (.Name x pn) X.env) = eval (.Name x pn) X.env := by rfl)
    (hfew : ((backTo cpos (starEach [e] X.env)).all (fun x => !x.1) && (backToKw cpos (keywordEach [] X.env)).all (fun x => x.1.isSome) && decide ([e].length + ([] : List Keyword).length + (if ([] : List Keyword).isEmpty then 0 else 1) < 30)) = true := by rfl)
    (hline : (apos.endLine == cpos.line) = true := by rfl) (hs1 : starEach [e] X.env = (false, eval e X.env) :: starEach [] X.env := by rfl) (hpl : (backTo cpos (starEach [] X.env)).any (·.1) = false := by rfl)
    (hs : swapsWith (.Call (.Attribute (.Name x pn) "append" apos) [e] [] cpos) none pos.line X.env = pure false := by rfl) :
    W1 B X (.Expr (.Call (.Attribute (.Name x pn) "append" apos) [e] [] cpos) pos) Γ R :=
  w1_of (ps_expr (pe_bm PySem.F.plainAttrs_list PySem.F.slot_list_append PySem.F.type_list_append mt_append (pe_var hN hv k1 k2) pa_s hbase hfew hline hs1 hpl) hs) fun F σ H r D f => by
    obtain ⟨q, eq, b, n, o⟩ := r.slot e0
    cases o with
    | @lst xs _ g l =>
      refine ⟨_, eq, .inl ⟨rfl, _, .inl (.inl g)⟩, (xl_cons h1 xl_nil hs1) F σ H r _ fun vs F1 H1 x1 p1 => ?_⟩
      cases p1 with
      | cons p1 l1 =>
        cases l1
        have r1 := r.ext x1
        have g1 := ((Own.lst g l).ext n x1).2 _ g
        refine ⟨q, xs, _, rfl, rfl, g1, by rw [l.length]; exact hz, f.nx F1 _ _ _ x1.fwd (r1.write e0 eq fun H' hH => .lst hH ((l.mono x1.fwd).append (.cons p1 .nil))) h⟩
/-- xs.extend(e) -/
theorem mt_extendR : MtM X "list.extend" (fun x vs H Q => ∃ l b xs zs, x = .ref l ∧ vs = [.ref b] ∧ H l = some (.lst xs) ∧ Rd H b (.lst zs) ∧ xs.length + zs.length ≤ sizeLine ∧ Q .non (upd H l (.lst (xs ++ zs)))) := by
  intro pins s σ H x vs v us Q I rx rv ⟨l, b, xs, zs, ex, ev, hH, hB, hz, q⟩
  subst ex ev
  cases rx
  obtain ⟨u, hu, ru⟩ := rv.one
  subst hu
  cases ru
  obtain ⟨_, i1, n1, r1, l1, g1⟩ := I.lstM hH
  obtain ⟨_, i2, n2, r2, g2⟩ := hB.ok I.hok
  have l2 := r2.length
  have z : i1.toArray.size + i2.toArray.size ≤ sizeLine := by rw [List.size_toArray, List.size_toArray]; omega
  have nl : ¬ (!i1.toArray.isEmpty && Builtin.List.listTooLong (i1.toArray.size + i2.toArray.size)) = true := by rw [notLongL z, Bool.and_false]; decide
  refine call_meets F.slot_list_extend ⟨_, g1, rfl⟩ F.entry_list_extend (F.args_list_extend_2 _ _) (AutoSeq1.list_extend_list_list_0 l i1.toArray n1 b i2.toArray n2 nl (by rw [List.size_toArray]; omega) (by omega)) ⟨g1, g2, ?_⟩
  exact ⟨.non, _, I.lset (its' := i1 ++ i2) hH g1 (by simp) (r1.append r2) (by rw [List.length_append]; omega), rfl, q⟩
theorem w1_extend (i : Nat) {ns : List D} (e0 : Γ[i]? = some (.ow (.list ds))) (h1 : XB B X e Γ (.list ns)) (hz : ds.length + ns.length ≤ sizeLine) (h : R.nx (Γ.set i (.ow (.list (ds ++ ns)))))
    (hN : X.N[i]? = some x := by rfl) (hv : Vis X.env.scope x := by first | exact Or.inl rfl | exact Or.inr (Or.inl rfl)) (k1 : (x == ("__debug__" : Str)) = false := by decide) (k2 : (x == ("__classdict__" : Str)) = false := by decide)
    (hbase : attributeBase (.Name x pn) "extend" X.env (eval (.Name x pn) X.env) = eval (.Name x pn) X.env := by rfl)
    (hfew : ((backTo cpos (starEach [e] X.env)).all (fun x => !x.1) && (backToKw cpos (keywordEach [] X.env)).all (fun x => x.1.isSome) && decide ([e].length + ([] : List Keyword).length + (if ([] : List Keyword).isEmpty then 0 else 1) < 30)) = true := by rfl)
    (hline : (apos.endLine == cpos.line) = true := by rfl) (hs1 : starEach [e] X.env = (false, eval e X.env) :: starEach [] X.env := by rfl) (hpl : (backTo cpos (starEach [] X.env)).any (·.1) = false := by rfl)
    (hs : swapsWith (.Call (.Attribute (.Name x pn) "extend" apos) [e] [] cpos) none pos.line X.env = pure false := by rfl) :
    W1 B X (.Expr (.Call (.Attribute (.Name x pn) "extend" apos) [e] [] cpos) pos) Γ R :=
  w1_of (ps_expr (pe_bm PySem.F.plainAttrs_list PySem.F.slot_list_extend PySem.F.type_list_extend mt_extendR (pe_var hN hv k1 k2) pa_s hbase hfew hline hs1 hpl) hs) fun F σ H r D f => by
    obtain ⟨q, eq, b, n, o⟩ := r.slot e0
    cases o with
    | @lst xs _ g l =>
      refine ⟨_, eq, .inl ⟨rfl, _, .inl (.inl g)⟩, (xa_cons h1 xa_nil hs1) F σ H r _ fun vs F1 H1 x1 p1 => ?_⟩
      obtain ⟨v, ev, pv⟩ := p1.one
      subst ev
      obtain ⟨b', zs, ev, gz, lz⟩ := pv.list x1.sub
      subst ev
      have r1 := r.ext x1
      have g1 := ((Own.lst g l).ext n x1).2 _ g
      exact ⟨q, b', xs, zs, rfl, rfl, g1, gz, by rw [l.length, lz.length]; exact hz, f.nx F1 _ _ _ x1.fwd (r1.write e0 eq fun H' hH => .lst hH ((l.mono x1.fwd).append lz)) h⟩
/-- target = xs.pop() -/
theorem w1_pop (i : Nat) (e0 : Γ[i]? = some (.ow (.list (ds ++ [d])))) (h2 : XG B X tg d (Γ.set i (.ow (.list ds))) js Γ1) (h : R.nx Γ1)
    (hN : X.N[i]? = some x := by rfl) (hv : Vis X.env.scope x := by first | exact Or.inl rfl | exact Or.inr (Or.inl rfl)) (k1 : (x == ("__debug__" : Str)) = false := by decide) (k2 : (x == ("__classdict__" : Str)) = false := by decide)
    (hbase : attributeBase (.Name x pn) "pop" X.env (eval (.Name x pn) X.env) = eval (.Name x pn) X.env := by rfl) (hline : (apos.endLine == cpos.line) = true := by rfl)
    (hs : swapsWithSole [tg] (.Call (.Attribute (.Name x pn) "pop" apos) [] [] cpos) pos.line X.env = pure false := by rfl) (hw : swappedStores [tg] (.Call (.Attribute (.Name x pn) "pop" apos) [] [] cpos) X.env = pure none := by rfl) (h3 : (assignEach [tg] X.env).map (·.2) = [assign tg X.env] := by rfl) :
    W1 B X (.Assign [tg] (.Call (.Attribute (.Name x pn) "pop" apos) [] [] cpos) pos) Γ R :=
  w1_of (ps_asg (pe_bm0 PySem.F.plainAttrs_list PySem.F.slot_list_pop PySem.F.type_list_pop mt_pop (pe_var hN hv k1 k2) hbase hline) pg_s hs hw h3) fun F σ H r D f => by
    obtain ⟨q, eq, b, n, o⟩ := r.slot e0
    cases o with
    | @lst xs _ g l =>
      have hl := l.length
      rw [List.length_append] at hl
      obtain ⟨y, hy, py⟩ := l.get (i := ds.length) (d := d) (by simp)
      have hx : xs.length - 1 = ds.length := by simp at hl; omega
      refine ⟨_, eq, .inl ⟨rfl, _, .inl (.inl g)⟩, q, xs, y, rfl, rfl, g, by rw [hx]; exact hy, ?_⟩
      have l2 : RpL F xs.dropLast ds := by
        have z := l.dropLast
        rw [List.dropLast_concat] at z
        exact z
      have r1 := r.write e0 eq (d' := .list ds) (o := .lst xs.dropLast) fun H' hH => .lst hH l2
      exact h2 F σ _ y r1 py _ fun F2 H2 σ2 x2 r2 _ => f.nx F2 σ2 H2 Γ1 x2.fwd r2 h
/-- xs[j] = e, of a list -/
theorem w1_setL (i : Nat) {j : Int} {n : Nat} {spos : Pos} (e0 : Γ[i]? = some (.ow (.list ds))) (h1 : XF B X e Γ d) (h2 : XB B X e2 Γ (.int j)) (hj : ixN ds.length j = some n) (h : R.nx (Γ.set i (.ow (.list (ds.set n d)))))
    (hN : X.N[i]? = some x := by rfl) (hv : Vis X.env.scope x := by first | exact Or.inl rfl | exact Or.inr (Or.inl rfl)) (k1 : (x == ("__debug__" : Str)) = false := by decide) (k2 : (x == ("__classdict__" : Str)) = false := by decide)
    (ha : ∀ v, assign (.Subscript (.Name x pn) e2 spos) X.env v = (do
      let ov ← holding [v] (eval (.Name x pn) X.env)
      let iv ← holding [v, ov] (eval e2 X.env)
      standAt spos
      holding [v, ov, iv] (setItem ov iv v)
      release [v, ov, iv] []) := by intro _; rfl)
    (hs : swapsWithSole [.Subscript (.Name x pn) e2 spos] e pos.line X.env = pure false := by rfl) (hw : swappedStores [.Subscript (.Name x pn) e2 spos] e X.env = pure none := by rfl) (h3 : (assignEach [.Subscript (.Name x pn) e2 spos] X.env).map (·.2) = [assign (.Subscript (.Name x pn) e2 spos) X.env] := by rfl) :
    W1 B X (.Assign [.Subscript (.Name x pn) e2 spos] e pos) Γ R :=
  w1_of (ps_asg pe_s (pg_sub (pe_var hN hv k1 k2) pe_s set_list ha) hs hw h3) fun F σ H r D f => h1 F σ H r _ fun v F1 H1 x1 p1 => by
    have r1 := r.ext x1
    obtain ⟨q, eq, b, n1, o⟩ := r1.slot e0
    refine ⟨_, eq, h2 F1 σ H1 r1 _ fun w F2 H2 x2 p2 => ?_⟩
    rw [p2.int]
    have r2 := r1.ext x2
    cases o with
    | @lst xs _ g l =>
      have g2 := ((Own.lst g l).ext n1 x2).2 _ g
      exact ⟨q, xs, j, n, rfl, rfl, g2, by rw [l.length]; exact hj, f.nx F2 _ _ _ (x1.trans x2).fwd (r2.write e0 eq fun H' hH => .lst hH ((l.mono x2.fwd).set (p1.mono x2.fwd) n)) h⟩
/-- d[k] = e, of a dict -/
theorem w1_put {dk : D} {d1 d2 : D} (hu : X.A.units + 1 < cLine) (i : Nat) {spos : Pos} (e0 : Γ[i]? = some (.ow d1)) (h1 : XF B X e Γ d) (h2 : XB B X e2 Γ dk) (h : R.nx (Γ.set i (.ow d2)))
    (hp : ∀ F H a v w, Same F H → F a = none → Own F H a d1 → Rp F v d → Rb F H w dk → ∃ o, DPut H a w v (upd H a o) ∧ ∀ H', H' a = some o → Own F H' a d2)
    (hN : X.N[i]? = some x := by rfl) (hv : Vis X.env.scope x := by first | exact Or.inl rfl | exact Or.inr (Or.inl rfl)) (k1 : (x == ("__debug__" : Str)) = false := by decide) (k2 : (x == ("__classdict__" : Str)) = false := by decide)
    (hs : swapsWith e (some (.Subscript (.Name x pn) e2 spos)) pos.line X.env = pure false := by rfl) : W1 B X (.Assign [.Subscript (.Name x pn) e2 spos] e pos) Γ R :=
  w1_of (ps_dput hu (pe_var hN hv k1 k2) pe_s pe_s hs) fun F σ H r D f => h1 F σ H r _ fun v F1 H1 x1 p1 => by
    have r1 := r.ext x1
    obtain ⟨q, eq, b, n1, o⟩ := r1.slot e0
    refine ⟨_, eq, h2 F1 σ H1 r1 _ fun w F2 H2 x2 p2 => ?_⟩
    have r2 := r1.ext x2
    obtain ⟨o2, g2, k⟩ := hp F2 H2 q v w x2.sub (o.ext n1 x2).1 (o.mono x2.fwd (o.ext n1 x2).2) (p1.mono x2.fwd) p2
    exact ⟨q, _, rfl, g2, f.nx F2 _ _ _ (x1.trans x2).fwd (r2.write e0 eq k) h⟩
theorem w1_putK {m : List (Key × D)} {kk : Key} (hu : X.A.units + 1 < cLine) (i : Nat) {spos : Pos} (e0 : Γ[i]? = some (.ow (.dK m))) (h1 : XF B X e Γ d) (h2 : XB B X e2 Γ (kD kk)) (hz : m.length < sizeLine) (h : R.nx (Γ.set i (.ow (.dK (putM m kk d)))))
    (hN : X.N[i]? = some x := by rfl) (hv : Vis X.env.scope x := by first | exact Or.inl rfl | exact Or.inr (Or.inl rfl)) (k1 : (x == ("__debug__" : Str)) = false := by decide) (k2 : (x == ("__classdict__" : Str)) = false := by decide)
    (hs : swapsWith e (some (.Subscript (.Name x pn) e2 spos)) pos.line X.env = pure false := by rfl) : W1 B X (.Assign [.Subscript (.Name x pn) e2 spos] e pos) Γ R :=
  w1_put hu i e0 h1 h2 h (fun F H a v w s n o pv pw => by
    have ew := rp_kV (pw.atom (F' := F) (kD_atom kk))
    subst ew
    cases o with
    | dK g l => exact ⟨_, DPut.k g (by rw [l.length]; exact hz), fun H' hH => .dK hH (rpm_put pv l)⟩) hN hv k1 k2 hs
theorem w1_putT {m : List (List Key × D)} {ks : List Key} (hu : X.A.units + 1 < cLine) (i : Nat) {spos : Pos} (e0 : Γ[i]? = some (.ow (.dT m))) (h1 : XF B X e Γ d) (h2 : XB B X e2 Γ (.tuple (ks.map kD))) (hz : m.length < sizeLine) (h : R.nx (Γ.set i (.ow (.dT (putM m ks d)))))
    (hN : X.N[i]? = some x := by rfl) (hv : Vis X.env.scope x := by first | exact Or.inl rfl | exact Or.inr (Or.inl rfl)) (k1 : (x == ("__debug__" : Str)) = false := by decide) (k2 : (x == ("__classdict__" : Str)) = false := by decide)
    (hs : swapsWith e (some (.Subscript (.Name x pn) e2 spos)) pos.line X.env = pure false := by rfl) : W1 B X (.Assign [.Subscript (.Name x pn) e2 spos] e pos) Γ R :=
  w1_put hu i e0 h1 h2 h (fun F H a v w s n o pv pw => by
    obtain ⟨b, xs, ew, _, gb, lb⟩ := pw.tuple s
    subst ew
    rw [rpl_kV lb] at gb
    cases o with
    | dT g l => exact ⟨_, DPut.t g gb (by rw [l.length]; exact hz), fun H' hH => .dT hH (rpm_put pv l)⟩) hN hv k1 k2 hs
/-- for target in iter: I holds ahead of each turn -/
theorem w1_for (I : Nat → Gm → Prop) (hi : XI B X tg iter Γ ds) (h0 : I 0 Γ)
    (hs : ∀ i d Γ0, ds[i]? = some d → I i Γ0 → ∃ js Γ1, XG B X tg d Γ0 js Γ1 ∧ WP B X body Γ1 { nx := I (i + 1), rt := R.rt, ro := R.ro, bk := R.nx, ct := I (i + 1) })
    (hd : ∀ Γ0, I ds.length Γ0 → R.nx Γ0) (hc : X.calm = true) (hp : PassesOwn (model X.prog X.w) X.A X.env X.xe) (hf : ∀ x, foldedSetIterable iter X.env x = pure x := by intro _; rfl) : W1 B X (.For tg iter body [] pos) Γ R :=
  w1_of (ps_for hp hc pi_s pg_s pss_s hf) fun F σ H r D f => hi F σ H r _ fun J F1 H1 x1 wk =>
    ⟨fun i m σ' H' => m = ds.length - i ∧ i ≤ ds.length ∧ ∃ F' Γ', SameL F1 F' ∧ StR B F' σ' H' Γ' ∧ I i Γ', ⟨_, rfl, Nat.zero_le _, F1, Γ, SameL.refl F1, r.ext x1, h0⟩, fun i m σ' H' ⟨em, hi, F', Γ', s', r', hI⟩ => by
      obtain ⟨w1, w2⟩ := wk i F' H' s' r'.sub
      by_cases hlt : i < ds.length
      · obtain ⟨d, hd'⟩ : ∃ d, ds[i]? = some d := ⟨_, List.getElem?_eq_getElem hlt⟩
        obtain ⟨g, y⟩ := w1 d hd'
        refine .inr ⟨g, fun σ' H' => ∃ F' Γ', SameL F1 F' ∧ StR B F' σ' H' Γ' ∧ I (i + 1) Γ', fun σ2 H2 ⟨F2, Γ2, a, b, c⟩ => ⟨ds.length - (i + 1), by omega, rfl, hlt, F2, Γ2, a, b, c⟩, fun v H2 hy => ?_⟩
        obtain ⟨F2, x2, pv⟩ := y v H2 hy
        obtain ⟨js, Γ1, gv, wb⟩ := hs i d Γ' hd' hI
        refine gv F2 σ' H2 v (r'.ext x2) pv _ fun F3 H3 σ3 x3 r3 _ => ?_
        have s3 : SameL F F3 := (x1.fwd.trans s').trans (x2.trans x3).fwd
        have s13 : SameL F1 F3 := s'.trans (x2.trans x3).fwd
        exact wb F3 σ3 H3 r3 _ ⟨fun F4 σ4 H4 Γ4 s4 r4 i4 => ⟨F4, Γ4, s13.trans s4, r4, i4⟩, (f.later s3).rt, (f.later s3).ro, (f.later s3).nx, fun F4 σ4 H4 Γ4 s4 r4 i4 => ⟨F4, Γ4, s13.trans s4, r4, i4⟩⟩
      · have e : i = ds.length := by omega
        subst e
        exact .inl ⟨w2 (Nat.le_refl _), f.nx F' σ' H' Γ' (x1.fwd.trans s') r' (hd Γ' hI)⟩⟩
/-- while c: W holds ahead of each turn, with a number that falls -/
theorem w1_while (W : Nat → Gm → Prop) (m0 : Nat) (h0 : W m0 Γ)
    (hs : ∀ m Γ0, W m Γ0 → ∃ b, XT B X c Γ0 b ∧ (b = true → WP B X body Γ0 { nx := fun Γ1 => ∃ m', m' < m ∧ W m' Γ1, rt := R.rt, ro := R.ro, bk := R.nx, ct := fun Γ1 => ∃ m', m' < m ∧ W m' Γ1 }) ∧ (b = false → R.nx Γ0))
    (hp : PassesOwn (model X.prog X.w) X.A X.env X.xe) : W1 B X (.While c body [] pos) Γ R :=
  w1_of (ps_while hp pt_s pss_s) fun F σ H r D f =>
    ⟨fun m σ' H' => ∃ F' Γ', SameL F F' ∧ StR B F' σ' H' Γ' ∧ W m Γ', ⟨m0, F, Γ, SameL.refl F, r, h0⟩, fun m σ' H' ⟨F', Γ', s', r', hW⟩ => by
      obtain ⟨b, hb, ht, hf⟩ := hs m Γ' hW
      refine hb F' σ' H' r' _ fun F1 H1 x1 => ?_
      have s1 := s'.trans x1.fwd
      cases b with
      | true =>
        refine iteT ⟨fun σ2 H2 => ∃ F2 Γ2, SameL F F2 ∧ StR B F2 σ2 H2 Γ2 ∧ ∃ m', m' < m ∧ W m' Γ2, fun σ2 H2 ⟨F2, Γ2, a, b, m', c, d⟩ => ⟨m', c, F2, Γ2, a, b, d⟩, ?_⟩
        exact ht rfl F1 σ' H1 (r'.ext x1) _ ⟨fun F4 σ4 H4 Γ4 s4 r4 i4 => ⟨F4, Γ4, s1.trans s4, r4, i4⟩, (f.later s1).rt, (f.later s1).ro, (f.later s1).nx, fun F4 σ4 H4 Γ4 s4 r4 i4 => ⟨F4, Γ4, s1.trans s4, r4, i4⟩⟩
      | false => exact iteF (f.nx F1 σ' H1 Γ' s1 (r'.ext x1) (hf rfl))⟩
end
end G

/-! ## GG: list comprehensions -/
namespace G
open PySem PySem.Spec PyProof.Rows L2

def sEb (X : Cx) (scope : Scope) (e : Expr) : TE := fun σ H Q => ∀ (s0 : Shared) (H0 : Hp) (C : Addr) (cl : List (Str × Addr)) (fp : List Addr), sE (X.blk s0 H0 scope (compEnvC scope cl C X.env) fp) e σ H Q
def sGb (X : Cx) (scope : Scope) (e : Expr) : TG := fun v σ H Q => ∀ (s0 : Shared) (H0 : Hp) (C : Addr) (cl : List (Str × Addr)) (fp : List Addr), sG (X.blk s0 H0 scope (compEnvC scope cl C X.env) fp) e v σ H Q
def sTs (X : Cx) (ifs : List Expr) : TT := fun σ H Q => ∀ (pins : List (Addr × Obj)) (s : Shared), Inv X pins σ H s →
  wpAny (model X.prog X.w) X.A (forIn ifs true fun c r => if r = true then do let ok ← isTrue c X.env (eval c X.env); pure (ForInStep.yield ok) else pure (ForInStep.yield r)) (TP X pins σ Q) X.xe s
def sTsb (X : Cx) (scope : Scope) (ifs : List Expr) : TT := fun σ H Q => ∀ (s0 : Shared) (H0 : Hp) (C : Addr) (cl : List (Str × Addr)) (fp : List Addr), sTs (X.blk s0 H0 scope (compEnvC scope cl C X.env) fp) ifs σ H Q
theorem pts_s {X : Cx} {ifs : List Expr} : PTs X ifs (sTs X ifs) := ⟨fun pins s σ H Q I h => h pins s I⟩
def XTs (B : Bs) (X : Cx) (ifs : List Expr) (Γ : Gm) (b : Bool) : Prop := EvT B (sTs X ifs) Γ b
section
variable {B : Bs} {X : Cx} {scope : Scope} {s0 : Shared} {H0 : Hp} {C : Addr} {cl : List (Str × Addr)} {fp : List Addr} {e c : Expr} {ifs : List Expr} {Γ : Gm} {b : Bool}
theorem pe_sb : PE (X.blk s0 H0 scope (compEnvC scope cl C X.env) fp) e (sEb X scope e) := ⟨fun pins s σ H Q I h => h s0 H0 C cl fp pins s I⟩
theorem pg_sb : PG (X.blk s0 H0 scope (compEnvC scope cl C X.env) fp) e (sGb X scope e) := ⟨fun pins s σ H v u Q I r h => h s0 H0 C cl fp pins s u I r⟩
theorem pts_sb : PTs (X.blk s0 H0 scope (compEnvC scope cl C X.env) fp) ifs (sTsb X scope ifs) := ⟨fun pins s σ H Q I h => h s0 H0 C cl fp pins s I⟩
theorem xts_nil : XTs B X [] Γ true := fun F σ H r Q q pins s I => pts_nil.run pins s σ H Q I (q F H (.refl r.sub))
theorem xts_one (h : XT B X c Γ b) : XTs B X [c] Γ b := fun F σ H r Q q pins s I => (pts_one pt_s).run pins s σ H Q I (h F σ H r Q q)
end
/-- the cells with a block's own slots forgotten -/
def wpG (Γ : Gm) : List Nat → Gm
  | [] => Γ
  | v :: vs => (wpG Γ vs).set v .no
theorem StR.wipe {B : Bs} {F H : Hp} {σ : L2.St} {Γ : Gm} (r : StR B F σ H Γ) : ∀ vs : List Nat, StR B F (L2.wipe σ vs) H (wpG Γ vs)
  | [] => r
  | v :: vs => (StR.wipe r vs).setNo v none
theorem wipe_off {σ : L2.St} : ∀ vs : List Nat, Off vs σ (wipe σ vs)
  | [] => .refl
  | v :: vs => ((wipe_off vs).mono fun _ h => List.mem_cons_of_mem _ h).trans (Off.set List.mem_cons_self)
/-- what a turn of a comprehension's block does: to each item its target, its tests, its element -/
def Turns (B : Bs) (X : Cx) (scope : Scope) (tg elt : Expr) (ifs : List Expr) (vs : List Nat) (Γ : Gm) {α : Type} (en : α → D) (p : α → Bool) (f : α → D) (x : α) : Prop :=
  ∃ (js : List Nat) (Γ1 : Gm), (∀ j ∈ js, j ∈ vs) ∧ ∀ (s0 : Shared) (H0 : Hp) (C : Addr) (cl : List (Str × Addr)) (fp : List Addr),
    XG B (X.blk s0 H0 scope (compEnvC scope cl C X.env) fp) tg (en x) (wpG Γ vs) js Γ1 ∧ XTs B (X.blk s0 H0 scope (compEnvC scope cl C X.env) fp) ifs Γ1 (p x) ∧ (p x = true → XF B (X.blk s0 H0 scope (compEnvC scope cl C X.env) fp) elt Γ1 (f x))
section
variable {B : Bs} {X : Cx} {scope : Scope} {tg iter elt : Expr} {ifs : List Expr} {Γ : Gm} {own : List (Str × Nat)} {pos spos : Pos} {α : Type} {R : Po}
theorem take_filter {xs : List α} {i : Nat} {x : α} (h : xs[i]? = some x) (p : α → Bool) (f : α → D) : ((xs.take (i + 1)).filter p).map f = ((xs.take i).filter p).map f ++ (if p x = true then [f x] else []) := by
  rw [List.take_add_one, h, List.filter_append, List.map_append]
  congr 1
  show (List.filter p [x]).map f = _
  rw [List.filter_cons]
  split <;> rfl
theorem len_filter_le (xs : List α) (i : Nat) (p : α → Bool) (f : α → D) : (((xs.take i).filter p).map f).length ≤ xs.length := by
  rw [List.length_map]
  refine Nat.le_trans (List.length_filter_le _ _) ?_
  rw [List.length_take]
  omega
theorem evo_lc {vs : List Nat} (xs : List α) (en : α → D) (p : α → Bool) (f : α → D) (hi : XJ B X tg iter Γ (xs.map en)) (ht : ∀ x ∈ xs, Turns B X scope tg elt ifs vs Γ en p f x) (hz : xs.length < sizeLine) :
    EvO B (tLc (sI X tg iter) (sGb X scope tg) (sTsb X scope ifs) (sEb X scope elt) vs) Γ (.list ((xs.filter p).map f)) := fun F σ H r Q q => hi F σ H r _ fun J F1 H1 x1 wk Dl nD => by
  have r1 := r.ext x1
  refine ⟨fun i m H' => m = xs.length - i ∧ i ≤ xs.length ∧ ∃ F' ys, Ext F1 H1 F' H' ∧ F' Dl = none ∧ H' Dl = some (.lst ys) ∧ RpL F' ys (((xs.take i).filter p).map f), ⟨_, rfl, Nat.zero_le _, F1, [], .new x1.sub nD, notIn x1.sub nD, upd_same, .nil⟩, ?_⟩
  rintro i m H' ⟨em, hi', F', ys, x', nF, hD, l⟩
  obtain ⟨w1, w2⟩ := wk i F' H' x'
  by_cases hlt : i < xs.length
  · obtain ⟨x, hx⟩ : ∃ x, xs[i]? = some x := ⟨_, List.getElem?_eq_getElem hlt⟩
    have hd : (xs.map en)[i]? = some (en x) := by rw [List.getElem?_map, hx]; rfl
    obtain ⟨go, y⟩ := w1 _ hd
    obtain ⟨js, Γ1, hjs, blk⟩ := ht x (List.mem_of_getElem? hx)
    refine .inr ⟨go, fun H2 => ∃ F2 zs, Ext F1 H1 F2 H2 ∧ F2 Dl = none ∧ H2 Dl = some (.lst zs) ∧ RpL F2 zs (((xs.take (i + 1)).filter p).map f), fun H2 ⟨F2, zs, a, b, c, d⟩ => ⟨xs.length - (i + 1), by omega, rfl, hlt, F2, zs, a, b, c, d⟩, fun v H2 hy => ?_⟩
    obtain ⟨F2, x2, pv⟩ := y v H2 hy
    have stay : ∀ {Fa Ha Fb Hb : Hp}, Ext Fa Ha Fb Hb → Fa Dl = none → Ha Dl = some (.lst ys) → Fb Dl = none ∧ Hb Dl = some (.lst ys) := fun {Fa Ha Fb Hb} xx n h => by
      obtain ⟨k1, k2⟩ := xx.keep Dl _ h n
      refine ⟨?_, k1⟩
      rcases k2 with k2 | ⟨zs, k2⟩
      · exact k2
      · cases k2
    obtain ⟨n2, h2⟩ := stay x2 nF hD
    have rw2 := (r1.ext (x'.trans x2)).wipe vs
    intro s0 H0 C cl fp
    obtain ⟨gg, gt, ge⟩ := blk s0 H0 C cl fp
    refine gg F2 _ H2 v rw2 pv _ fun F3 H3 σ3 x3 r3 o3 => ⟨?_, ?_⟩
    · have o := o3.mono hjs
      rw [off_wipe o]
      exact off_wipe (wipe_off vs)
    · intro s0 H0 C cl fp
      obtain ⟨_, gt, _⟩ := blk s0 H0 C cl fp
      refine gt F3 σ3 H3 r3 _ fun F4 H4 x4 => ?_
      obtain ⟨n4, h4⟩ := stay (x3.trans x4) n2 h2
      have x04 := x'.trans (x2.trans (x3.trans x4))
      have l4 := l.mono (x2.trans (x3.trans x4)).fwd
      cases e : p x with
      | false =>
        refine iteF ⟨F4, ys, x04, n4, h4, ?_⟩
        rw [take_filter hx, e]
        rw [if_neg Bool.false_ne_true, List.append_nil]
        exact l4
      | true =>
        refine iteT fun s0 H0 C cl fp => ?_
        obtain ⟨_, _, ge⟩ := blk s0 H0 C cl fp
        refine ge e F4 σ3 H4 (r3.ext x4) _ fun u F5 H5 x5 p5 => ?_
        obtain ⟨n5, h5⟩ := stay x5 n4 h4
        refine ⟨ys, h5, ?_, F5, ys ++ [u], ?_, n5, upd_same, ?_⟩
        · rw [l.length]
          exact Nat.lt_of_le_of_lt (len_filter_le xs i p f) hz
        · have x05 := x04.trans x5
          refine ⟨x05.fwd, fun a o ha => ?_, fun a o ha hn => ?_⟩
          · rw [upd_ne (ne_of_none ha n5)]
            exact x05.sub a o ha
          · rw [upd_ne (ne_of_none ha nD)]
            exact x05.keep a o ha hn
        · rw [take_filter hx, e, if_pos rfl]
          exact (l4.mono x5.fwd).append (.cons p5 .nil)
  · have e : i = xs.length := by omega
    subst e
    rw [List.take_length] at l
    exact .inl ⟨w2 (by rw [List.length_map]; exact Nat.le_refl _), q Dl F' H' (x1.trans x') (x1.free r.sub nD) nF (.lst hD l)⟩
/-- [elt for tg in iter if ..] -/
theorem xo_lc (own : List (Str × Nat)) (xs : List α) (en : α → D) (p : α → Bool) (f : α → D) (hN : X.N.Nodup) (hi : XJ B X tg iter Γ (xs.map en)) (ht : ∀ x ∈ xs, Turns B X scope tg elt ifs (own.map (·.2)) Γ en p f x) (hz : xs.length < sizeLine)
    (ok : BlkOk X.N X.env.scope scope own) (hc : X.calm = true := by rfl) (hs : ∀ x, foldedSetIterable iter X.env x = pure x := by intro _; rfl) : XO B X (.ListComp elt [⟨tg, iter, ifs, 0⟩] scope pos) Γ (.list ((xs.filter p).map f)) :=
  xo_of (pe_lc hc hN pi_s ok (fun _ _ _ _ _ => pg_sb) (fun _ _ _ _ _ => pts_sb) (fun _ _ _ _ _ => pe_sb) hs) (evo_lc xs en p f hi ht hz)
/-- y = [elt for tg in iter if ..] -/
theorem w1_lc (i : Nat) {y : Str} {py : Pos} (own : List (Str × Nat)) (xs : List α) (en : α → D) (p : α → Bool) (f : α → D) (hN : X.N.Nodup) (hi : XJ B X tg iter Γ (xs.map en)) (ht : ∀ x ∈ xs, Turns B X scope tg elt ifs (own.map (·.2)) Γ en p f x) (hz : xs.length < sizeLine)
    (h : R.nx (Γ.set i (.ow (.list ((xs.filter p).map f))))) (ok : BlkOk X.N X.env.scope scope own)
    (hy : X.N[i]? = some y := by rfl) (hyl : X.env.scope.names.lookup y = some .local := by rfl) (hsw : swapsWith (.ListComp elt [⟨tg, iter, ifs, 0⟩] scope pos) (some (.Name y py)) spos.line X.env = pure true := by exact sw_true rfl rfl rfl (by decide +kernel))
    (hc : X.calm = true := by rfl) (hs : ∀ x, foldedSetIterable iter X.env x = pure x := by intro _; rfl) : W1 B X (.Assign [.Name y py] (.ListComp elt [⟨tg, iter, ifs, 0⟩] scope pos) spos) Γ R :=
  w1_of (ps_setLc hc hN hy hyl hsw pi_s ok (fun _ _ _ _ _ => pg_sb) (fun _ _ _ _ _ => pts_sb) (fun _ _ _ _ _ => pe_sb) hs) fun F σ H r D f0 => evo_lc xs en p f hi ht hz F σ H r _ fun q F1 H1 x1 n n' o => by
    have r1 := r.ext x1
    refine f0.nx F1 _ H1 _ x1.fwd (r1.setOw i (r.fresh n) n' o fun j e ej es => ?_) h
    obtain ⟨q', eq, _, _, oq⟩ := r.sl j _ ej
    rw [es] at eq
    cases eq
    obtain ⟨u, hu⟩ := oq.there
    rw [n] at hu
    cases hu
end
end G

/-! ## GH: encodings; built-in functions by data; sorted, repr; methods of texts -/
namespace G
open PySem PySem.Spec PyProof.Rows L2

/-! ### encodings -/
/-- an encoding without dicts, of a depth, that tells its things apart -/
structure Good {α : Type} (en : α → D) (n : Nat) : Prop where
  plain : ∀ a, (en a).py.plain = true
  depth : ∀ a, (en a).py.depth ≤ n
  eqv : ∀ a b, PyData.eqv (en a).py (en b).py = true ↔ a = b
/-- an encoding whose things can be ordered -/
def Alk {α : Type} (en : α → D) : Prop := ∀ a b, PySem.W.alike (en a).py (en b).py = true
def eL {α : Type} (en : α → D) (xs : List α) : D := .list (xs.map en)
def e2 {α β : Type} (ea : α → D) (eb : β → D) (p : α × β) : D := .tuple [ea p.1, eb p.2]
def e3 {α β γ : Type} (ea : α → D) (eb : β → D) (ec : γ → D) (p : α × β × γ) : D := .tuple [ea p.1, eb p.2.1, ec p.2.2]
def e4 {α β γ δ : Type} (ea : α → D) (eb : β → D) (ec : γ → D) (ed : δ → D) (p : α × β × γ × δ) : D := .tuple [ea p.1, eb p.2.1, ec p.2.2.1, ed p.2.2.2]
def eO {α : Type} (en : α → D) : Option α → D
  | none => .none
  | some a => en a
/-- a text by its codes -/
def S (l : List Nat) : Str := ⟨l.toArray⟩
def eW (l : List Nat) : D := .str (S l)
theorem S_inj {a b : List Nat} (h : S a = S b) : a = b := by
  have h' := congrArg (fun z : Str => z.cps.toList) h
  simpa [S] using h'
theorem S_len (l : List Nat) : (S l).length = l.length := by simp [S, Str.length]
theorem S_tl (l : List Nat) : (S l).cps.toList = l := by simp [S]
theorem S_of (z : Str) : S z.cps.toList = z := by simp [S]
theorem S_app (a b : List Nat) : S a ++ S b = S (a ++ b) := TL.ext_tl (by rw [TL.tl_append]; simp [TL.tl, S])
theorem gI : Good D.int 0 := ⟨fun a => by simp [D.py, PyData.plain], fun a => by simp [D.py, PyData.depth], fun a b => by simp [D.py, PyData.eqv]⟩
theorem gB : Good D.bool 0 := ⟨fun a => by simp [D.py, PyData.plain], fun a => by simp [D.py, PyData.depth], fun a b => by simp [D.py, PyData.eqv]⟩
theorem gS : Good D.str 0 := ⟨fun a => by simp [D.py, PyData.plain], fun a => by simp [D.py, PyData.depth], fun a b => by simp [D.py, PyData.eqv]⟩
theorem gW : Good eW 0 := ⟨fun a => by simp [eW, D.py, PyData.plain], fun a => by simp [eW, D.py, PyData.depth], fun a b => by
  simp only [eW, D.py, PyData.eqv, beq_iff_eq]
  exact ⟨S_inj, fun h => by rw [h]⟩⟩
theorem aI : Alk D.int := fun a b => by simp [D.py, PySem.W.alike]
theorem aS : Alk D.str := fun a b => by simp [D.py, PySem.W.alike]
theorem aW : Alk eW := fun a b => by simp [eW, D.py, PySem.W.alike]
section
variable {α β γ δ : Type} {ea : α → D} {eb : β → D} {ec : γ → D} {ed : δ → D} {n m k l : Nat}
theorem gL (h : Good ea n) : Good (eL ea) (n + 1) := by
  refine ⟨fun xs => ?_, fun xs => ?_, fun xs ys => ?_⟩
  · simp only [eL, D.py, PyData.plain]
    induction xs with
    | nil => simp [pyL, PyData.plainAll]
    | cons x r ih => simp [pyL, PyData.plainAll, h.plain x, ih]
  · simp only [eL, D.py, PyData.depth]
    have q : PyData.depthAll (pyL (xs.map ea)) ≤ n := by
      induction xs with
      | nil => simp [pyL, PyData.depthAll]
      | cons x r ih =>
        simp only [List.map_cons, pyL, PyData.depthAll]
        exact Nat.max_le.mpr ⟨h.depth x, ih⟩
    omega
  · simp only [eL, D.py, PyData.eqv]
    induction xs generalizing ys with
    | nil => cases ys <;> simp [pyL, PyData.eqvAll]
    | cons x r ih =>
      cases ys with
      | nil => simp [pyL, PyData.eqvAll]
      | cons y s =>
        simp only [List.map_cons, pyL, PyData.eqvAll, Bool.and_eq_true, h.eqv, ih s, List.cons.injEq]
theorem g2 (h : Good ea n) (g : Good eb m) : Good (e2 ea eb) (max n m + 1) := by
  refine ⟨fun p => ?_, fun p => ?_, fun p q => ?_⟩
  · simp [e2, D.py, pyL, PyData.plain, PyData.plainAll, h.plain, g.plain]
  · simp only [e2, D.py, pyL, PyData.depth, PyData.depthAll]
    have := h.depth p.1
    have := g.depth p.2
    omega
  · simp [e2, D.py, pyL, PyData.eqv, PyData.eqvAll, h.eqv, g.eqv, Prod.ext_iff]
theorem g3 (h : Good ea n) (g : Good eb m) (f : Good ec k) : Good (e3 ea eb ec) (max n (max m k) + 1) := by
  refine ⟨fun p => ?_, fun p => ?_, fun p q => ?_⟩
  · simp [e3, D.py, pyL, PyData.plain, PyData.plainAll, h.plain, g.plain, f.plain]
  · simp only [e3, D.py, pyL, PyData.depth, PyData.depthAll]
    have := h.depth p.1
    have := g.depth p.2.1
    have := f.depth p.2.2
    omega
  · simp [e3, D.py, pyL, PyData.eqv, PyData.eqvAll, h.eqv, g.eqv, f.eqv, Prod.ext_iff]
theorem g4 (h : Good ea n) (g : Good eb m) (f : Good ec k) (j : Good ed l) : Good (e4 ea eb ec ed) (max n (max m (max k l)) + 1) := by
  refine ⟨fun p => ?_, fun p => ?_, fun p q => ?_⟩
  · simp [e4, D.py, pyL, PyData.plain, PyData.plainAll, h.plain, g.plain, f.plain, j.plain]
  · simp only [e4, D.py, pyL, PyData.depth, PyData.depthAll]
    have := h.depth p.1
    have := g.depth p.2.1
    have := f.depth p.2.2.1
    have := j.depth p.2.2.2
    omega
  · simp [e4, D.py, pyL, PyData.eqv, PyData.eqvAll, h.eqv, g.eqv, f.eqv, j.eqv, Prod.ext_iff]
theorem a2 (h : Alk ea) (g : Alk eb) : Alk (e2 ea eb) := fun p q => by simp [e2, D.py, pyL, PySem.W.alike, PySem.W.alikeAll, h p.1 q.1, g p.2 q.2]
theorem a3 (h : Alk ea) (g : Alk eb) (f : Alk ec) : Alk (e3 ea eb ec) := fun p q => by simp [e3, D.py, pyL, PySem.W.alike, PySem.W.alikeAll, h p.1 q.1, g p.2.1 q.2.1, f p.2.2 q.2.2]
theorem a4 (h : Alk ea) (g : Alk eb) (f : Alk ec) (j : Alk ed) : Alk (e4 ea eb ec ed) := fun p q => by simp [e4, D.py, pyL, PySem.W.alike, PySem.W.alikeAll, h p.1 q.1, g p.2.1 q.2.1, f p.2.2.1 q.2.2.1, j p.2.2.2 q.2.2.2]
theorem aL (h : Alk ea) : Alk (eL ea) := fun xs ys => by
  simp only [eL, D.py, PySem.W.alike]
  induction xs generalizing ys with
  | nil => simp [pyL, PySem.W.alikeAll]
  | cons x r ih =>
    cases ys with
    | nil => simp [pyL, PySem.W.alikeAll]
    | cons y s => simp only [List.map_cons, pyL, PySem.W.alikeAll, h x y, Bool.true_and]; exact ih s
/-- ==, as a Bool -/
theorem Good.dec [DecidableEq α] (h : Good ea n) (a b : α) : PyData.eqv (ea a).py (ea b).py = decide (a = b) := by
  rw [Bool.eq_iff_iff, h.eqv, decide_eq_true_iff]
theorem Good.anyEq [DecidableEq α] (h : Good ea n) (x : α) : ∀ xs : List α, ((pyL (xs.map ea)).any fun y => PyData.eqv y (ea x).py) = decide (x ∈ xs)
  | [] => by simp [pyL]
  | y :: r => by
    rw [List.map_cons, pyL, List.any_cons, h.dec, h.anyEq x r, Bool.eq_iff_iff]
    simp only [Bool.or_eq_true, decide_eq_true_eq, List.mem_cons]
    constructor
    · rintro (e | e)
      · exact .inl e.symm
      · exact .inr e
    · rintro (e | e)
      · exact .inl e.symm
      · exact .inr e
theorem Good.plainL (h : Good ea n) (xs : List α) : PyData.plainAll (pyL (xs.map ea)) = true := by
  have q := (gL h).plain xs
  simpa [eL, D.py, PyData.plain] using q
theorem Good.depthL (h : Good ea n) (xs : List α) : PyData.depthAll (pyL (xs.map ea)) ≤ n := by
  have q := (gL h).depth xs
  simp only [eL, D.py, PyData.depth] at q
  omega
end

/-- equality, membership as tests -/
def eqB {α : Type} [DecidableEq α] (a b : α) : Bool := decide (a = b)
def memB {α : Type} [DecidableEq α] (a : α) (xs : List α) : Bool := decide (a ∈ xs)
theorem eqB_iff {α : Type} [DecidableEq α] {a b : α} : eqB a b = true ↔ a = b := decide_eq_true_iff
theorem memB_iff {α : Type} [DecidableEq α] {a : α} {xs : List α} : memB a xs = true ↔ a ∈ xs := decide_eq_true_iff
section
variable {B : Bs} {X : Cx} {x1 x2 x3 e : Expr} {es : List Expr} {Γ : Gm} {d : D} {ds : List D} {pos p : Pos} {k : Bool}
variable {α β : Type} {ea : α → D} {eb : β → D} {n : Nat}
/-- ==, !=, in over an encoding -/
theorem xf_eqG [DecidableEq α] {a b : α} (h : Good ea n) (hn : n ≤ 60) (hu : X.A.units + 64 < cLine) (h1 : XB B X x1 Γ (ea a)) (h2 : XB B X x2 Γ (ea b)) : XF B X (.Compare x1 [.Eq] [x2] pos) Γ (.bool (eqB a b)) := by
  have q := xf_cx (pos := pos) (opx_eq (by have := h.depth a; omega) (h.plain a) (h.plain b)) h1 h2
  rw [h.dec] at q
  exact q
theorem xf_neG [DecidableEq α] {a b : α} (h : Good ea n) (hn : n ≤ 60) (hu : X.A.units + 64 < cLine) (h1 : XB B X x1 Γ (ea a)) (h2 : XB B X x2 Γ (ea b)) : XF B X (.Compare x1 [.NotEq] [x2] pos) Γ (.bool (!eqB a b)) := by
  have q := xf_cx (pos := pos) (opx_ne (by have := h.depth a; omega) (h.plain a) (h.plain b)) h1 h2
  rw [h.dec] at q
  exact q
theorem xt_eqG [DecidableEq α] {a b : α} (h : Good ea n) (hn : n ≤ 60) (hu : X.A.units + 64 < cLine) (h1 : XB B X x1 Γ (ea a)) (h2 : XB B X x2 Γ (ea b)) : XT B X (.Compare x1 [.Eq] [x2] pos) Γ (eqB a b) := by
  have q := xt_cx (pos := pos) (opx_eq (by have := h.depth a; omega) (h.plain a) (h.plain b)) h1 h2
  rw [h.dec] at q
  exact q
theorem xt_neG [DecidableEq α] {a b : α} (h : Good ea n) (hn : n ≤ 60) (hu : X.A.units + 64 < cLine) (h1 : XB B X x1 Γ (ea a)) (h2 : XB B X x2 Γ (ea b)) : XT B X (.Compare x1 [.NotEq] [x2] pos) Γ (!eqB a b) := by
  have q := xt_cx (pos := pos) (opx_ne (by have := h.depth a; omega) (h.plain a) (h.plain b)) h1 h2
  rw [h.dec] at q
  exact q
theorem xf_inG [DecidableEq α] {a : α} {xs : List α} (h : Good ea n) (hn : n ≤ 60) (hu : X.A.units + 64 < cLine) (h1 : XB B X x1 Γ (ea a)) (h2 : XB B X x2 Γ (.list (xs.map ea))) (hm : behindInMarks .In x2 = false := by rfl) : XF B X (.Compare x1 [.In] [x2] pos) Γ (.bool (memB a xs)) := by
  have q := xf_cx (pos := pos) (opx_inL (ds := xs.map ea) (by have := h.depthL xs; omega) (h.plain a) (h.plainL xs)) h1 h2 hm
  rw [h.anyEq] at q
  exact q
theorem xf_ninG [DecidableEq α] {a : α} {xs : List α} (h : Good ea n) (hn : n ≤ 60) (hu : X.A.units + 64 < cLine) (h1 : XB B X x1 Γ (ea a)) (h2 : XB B X x2 Γ (.list (xs.map ea))) (hm : behindInMarks .NotIn x2 = false := by rfl) : XF B X (.Compare x1 [.NotIn] [x2] pos) Γ (.bool (!memB a xs)) := by
  have q := xf_cx (pos := pos) (opx_ninL (ds := xs.map ea) (by have := h.depthL xs; omega) (h.plain a) (h.plainL xs)) h1 h2 hm
  rw [h.anyEq] at q
  exact q
theorem xt_inG [DecidableEq α] {a : α} {xs : List α} (h : Good ea n) (hn : n ≤ 60) (hu : X.A.units + 64 < cLine) (h1 : XB B X x1 Γ (ea a)) (h2 : XB B X x2 Γ (.list (xs.map ea))) (hm : behindInMarks .In x2 = false := by rfl) : XT B X (.Compare x1 [.In] [x2] pos) Γ (memB a xs) := by
  have q := xt_cx (pos := pos) (opx_inL (ds := xs.map ea) (by have := h.depthL xs; omega) (h.plain a) (h.plainL xs)) h1 h2 hm
  rw [h.anyEq] at q
  exact q
theorem xt_ninG [DecidableEq α] {a : α} {xs : List α} (h : Good ea n) (hn : n ≤ 60) (hu : X.A.units + 64 < cLine) (h1 : XB B X x1 Γ (ea a)) (h2 : XB B X x2 Γ (.list (xs.map ea))) (hm : behindInMarks .NotIn x2 = false := by rfl) : XT B X (.Compare x1 [.NotIn] [x2] pos) Γ (!memB a xs) := by
  have q := xt_cx (pos := pos) (opx_ninL (ds := xs.map ea) (by have := h.depthL xs; omega) (h.plain a) (h.plainL xs)) h1 h2 hm
  rw [h.anyEq] at q
  exact q

/-! ### built-in functions by data -/
def CallF (r : List V → Hp → VK → Prop) (ds : List D) (d : D) : Prop := ∀ F H vs, Same F H → RbL F H vs ds → ∀ Q : VK, (∀ v F' H', Ext F H F' H' → Rp F' v d → Q v H') → r vs H Q
def CallN (r : List V → Hp → VK → Prop) (ds : List D) (d : D) : Prop := ∀ F H vs, Same F H → RbL F H vs ds → ∀ Q : VK, (∀ q F' H', Ext F H F' H' → H q = none → F' q = none → Own F' H' q d → Q (.ref q) H') → r vs H Q
theorem evf_cb {r : List V → Hp → VK → Prop} {t : TA} (h : EvA B t Γ ds) (o : CallF r ds d) : EvF B (tCB r t) Γ d := fun F σ H hr Q q => h F σ H hr _ fun vs F1 H1 y1 p1 => o F1 H1 vs y1.sub p1 Q fun v F2 H2 y2 p2 => q v F2 H2 (y1.trans y2) p2
theorem evo_cb {r : List V → Hp → VK → Prop} {t : TA} (h : EvA B t Γ ds) (o : CallN r ds d) : EvO B (tCB r t) Γ d := fun F σ H hr Q q => h F σ H hr _ fun vs F1 H1 y1 p1 => o F1 H1 vs y1.sub p1 Q fun v F2 H2 y2 n n' p2 => q v F2 H2 (y1.trans y2) (y1.free hr.sub n) n' p2
variable {f : Str} {r : List V → Hp → VK → Prop} {id T : String}
theorem xf_callB (hc : CallR X (.builtin id) r) (hm : X.mg f = none) (hv : bootBuiltins f = some (.builtin id)) (ha : XA B X (e :: es) Γ ds) (o : CallF r ds d) (hg : Gl X f := by rfl) (hn : f ≠ "__name__" := by decide) (hdb : (f == ("__debug__" : Str)) = false := by decide)
    (he : starEach (e :: es) X.env = (false, eval e X.env) :: starEach es X.env := by rfl) (hpl : (backTo pos (starEach es X.env)).any (·.1) = false := by rfl) : XF B X (.Call (.Name f p) (e :: es) [] pos) Γ d := xf_of (pe_callB hc hg hm hv pa_s hn hdb he hpl) (evf_cb ha o)
theorem xo_callB (hc : CallR X (.builtin id) r) (hm : X.mg f = none) (hv : bootBuiltins f = some (.builtin id)) (ha : XA B X (e :: es) Γ ds) (o : CallN r ds d) (hg : Gl X f := by rfl) (hn : f ≠ "__name__" := by decide) (hdb : (f == ("__debug__" : Str)) = false := by decide)
    (he : starEach (e :: es) X.env = (false, eval e X.env) :: starEach es X.env := by rfl) (hpl : (backTo pos (starEach es X.env)).any (·.1) = false := by rfl) : XO B X (.Call (.Name f p) (e :: es) [] pos) Γ d := xo_of (pe_callB hc hg hm hv pa_s hn hdb he hpl) (evo_cb ha o)
theorem xf_callT (hc : CallR X (.type T) r) (hm : X.mg f = none) (hv : bootBuiltins f = some (.type T)) (ha : XA B X (e :: es) Γ ds) (o : CallF r ds d) (hg : Gl X f := by rfl) (hn : f ≠ "__name__" := by decide) (hdb : (f == ("__debug__" : Str)) = false := by decide)
    (he : starEach (e :: es) X.env = (false, eval e X.env) :: starEach es X.env := by rfl) (hpl : (backTo pos (starEach es X.env)).any (·.1) = false := by rfl) : XF B X (.Call (.Name f p) (e :: es) [] pos) Γ d := xf_of (pe_callTy hc hg hm hv pa_s hn hdb he hpl) (evf_cb ha o)
theorem xo_callT (hc : CallR X (.type T) r) (hm : X.mg f = none) (hv : bootBuiltins f = some (.type T)) (ha : XA B X (e :: es) Γ ds) (o : CallN r ds d) (hg : Gl X f := by rfl) (hn : f ≠ "__name__" := by decide) (hdb : (f == ("__debug__" : Str)) = false := by decide)
    (he : starEach (e :: es) X.env = (false, eval e X.env) :: starEach es X.env := by rfl) (hpl : (backTo pos (starEach es X.env)).any (·.1) = false := by rfl) : XO B X (.Call (.Name f p) (e :: es) [] pos) Γ d := xo_of (pe_callTy hc hg hm hv pa_s hn hdb he hpl) (evo_cb ha o)
section
variable {i j m : Int} {z : Str}
theorem xf_lenS (h : XB B X e Γ (.str z)) (hz : z.length ≤ sizeLine) (hm : X.mg "len" = none) (hg : Gl X "len" := by rfl) (he : starEach [e] X.env = (false, eval e X.env) :: starEach [] X.env := by rfl) : XF B X (.Call (.Name "len" p) [e] [] pos) Γ (.int z.length) :=
  xf_callB call_len hm PySem.boot_len (xa_cons h xa_nil he) (fun F H vs s l Q q => by
    obtain ⟨v, rfl, pv⟩ := l.one
    rw [pv.str]
    exact ⟨_, _, rfl, ⟨hz, rfl⟩, q _ F H (.refl s) (.int _)⟩) hg (he := he)
theorem xf_lenL (h : XB B X e Γ (.list ds)) (hm : X.mg "len" = none) (hg : Gl X "len" := by rfl) (he : starEach [e] X.env = (false, eval e X.env) :: starEach [] X.env := by rfl) : XF B X (.Call (.Name "len" p) [e] [] pos) Γ (.int ds.length) :=
  xf_callB call_len hm PySem.boot_len (xa_cons h xa_nil he) (fun F H vs s l Q q => by
    obtain ⟨v, rfl, pv⟩ := l.one
    obtain ⟨a, xs, rfl, g, lx⟩ := pv.list s
    refine ⟨_, _, rfl, .inl ⟨xs, .inl g, rfl⟩, ?_⟩
    rw [lx.length]
    exact q _ F H (.refl s) (.int _)) hg (he := he)
theorem xf_lenT (h : XB B X e Γ (.tuple ds)) (hm : X.mg "len" = none) (hg : Gl X "len" := by rfl) (he : starEach [e] X.env = (false, eval e X.env) :: starEach [] X.env := by rfl) : XF B X (.Call (.Name "len" p) [e] [] pos) Γ (.int ds.length) :=
  xf_callB call_len hm PySem.boot_len (xa_cons h xa_nil he) (fun F H vs s l Q q => by
    obtain ⟨v, rfl, pv⟩ := l.one
    obtain ⟨a, xs, rfl, _, g, lx⟩ := pv.tuple s
    refine ⟨_, _, rfl, .inr ⟨xs, .inl (.inl g), rfl⟩, ?_⟩
    rw [lx.length]
    exact q _ F H (.refl s) (.int _)) hg (he := he)
theorem xf_abs (h : XB B X e Γ (.int i)) (hm : X.mg "abs" = none) (hg : Gl X "abs" := by rfl) (he : starEach [e] X.env = (false, eval e X.env) :: starEach [] X.env := by rfl) : XF B X (.Call (.Name "abs" p) [e] [] pos) Γ (.int i.natAbs) :=
  xf_callB call_abs hm (by decide +kernel) (xa_cons h xa_nil he) (fun F H vs s l Q q => by
    obtain ⟨v, rfl, pv⟩ := l.one
    rw [pv.int]
    refine ⟨_, rfl, ?_⟩
    have e : (if i < 0 then -i else i) = (i.natAbs : Int) := by split <;> omega
    rw [e]
    exact q _ F H (.refl s) (.int _)) hg (he := he)
theorem xf_int1 (h : XB B X e Γ (.int i)) (hm : X.mg "int" = none) (hg : Gl X "int" := by rfl) (he : starEach [e] X.env = (false, eval e X.env) :: starEach [] X.env := by rfl) : XF B X (.Call (.Name "int" p) [e] [] pos) Γ (.int i) :=
  xf_callT call_int1 hm (by decide +kernel) (xa_cons h xa_nil he) (fun F H vs s l Q q => by
    obtain ⟨v, rfl, pv⟩ := l.one
    rw [pv.int]
    exact .inl ⟨_, rfl, q _ F H (.refl s) (.int _)⟩) hg (he := he)
theorem xf_intB (h : XB B X e Γ (.bool k)) (hm : X.mg "int" = none) (hg : Gl X "int" := by rfl) (he : starEach [e] X.env = (false, eval e X.env) :: starEach [] X.env := by rfl) : XF B X (.Call (.Name "int" p) [e] [] pos) Γ (.int (if k then 1 else 0)) :=
  xf_callT call_int1 hm (by decide +kernel) (xa_cons h xa_nil he) (fun F H vs s l Q q => by
    obtain ⟨v, rfl, pv⟩ := l.one
    rw [pv.bool]
    exact .inr ⟨_, rfl, q _ F H (.refl s) (.int _)⟩) hg (he := he)
theorem xf_max2 (h1 : XB B X x1 Γ (.int i)) (h2 : XB B X x2 Γ (.int j)) (hm : X.mg "max" = none) (hc : X.calm = true := by rfl) (hg : Gl X "max" := by rfl) (he : starEach [x1, x2] X.env = (false, eval x1 X.env) :: starEach [x2] X.env := by rfl) (he2 : starEach [x2] X.env = (false, eval x2 X.env) :: starEach [] X.env := by rfl)
    (hpl : (backTo pos (starEach [x2] X.env)).any (·.1) = false := by rfl) : XF B X (.Call (.Name "max" p) [x1, x2] [] pos) Γ (.int (max i j)) :=
  xf_callB (call_max2 hc) hm (by decide +kernel) (xa_cons h1 (xa_cons h2 xa_nil he2) he) (fun F H vs s l Q q => by
    obtain ⟨v, w, rfl, pv, pw⟩ := l.two
    rw [pv.int, pw.int]
    refine ⟨_, _, rfl, ?_⟩
    have e : (if j > i then j else i) = max i j := by split <;> omega
    rw [e]
    exact q _ F H (.refl s) (.int _)) hg (he := he) (hpl := hpl)
theorem xf_min2 (h1 : XB B X x1 Γ (.int i)) (h2 : XB B X x2 Γ (.int j)) (hm : X.mg "min" = none) (hc : X.calm = true := by rfl) (hg : Gl X "min" := by rfl) (he : starEach [x1, x2] X.env = (false, eval x1 X.env) :: starEach [x2] X.env := by rfl) (he2 : starEach [x2] X.env = (false, eval x2 X.env) :: starEach [] X.env := by rfl)
    (hpl : (backTo pos (starEach [x2] X.env)).any (·.1) = false := by rfl) : XF B X (.Call (.Name "min" p) [x1, x2] [] pos) Γ (.int (min i j)) :=
  xf_callB (call_min2 hc) hm (by decide +kernel) (xa_cons h1 (xa_cons h2 xa_nil he2) he) (fun F H vs s l Q q => by
    obtain ⟨v, w, rfl, pv, pw⟩ := l.two
    rw [pv.int, pw.int]
    refine ⟨_, _, rfl, ?_⟩
    have e : (if j < i then j else i) = min i j := by split <;> omega
    rw [e]
    exact q _ F H (.refl s) (.int _)) hg (he := he) (hpl := hpl)
theorem xf_sum {ns : List Int} (h : XB B X e Γ (.list (ns.map D.int))) (hm : X.mg "sum" = none) (hc : X.calm = true := by rfl) (hg : Gl X "sum" := by rfl) (he : starEach [e] X.env = (false, eval e X.env) :: starEach [] X.env := by rfl) : XF B X (.Call (.Name "sum" p) [e] [] pos) Γ (.int ns.sum) :=
  xf_callB (cr_sum hc) hm (by decide +kernel) (xa_cons h xa_nil he) (fun F H vs s l Q q => by
    obtain ⟨v, rfl, pv⟩ := l.one
    obtain ⟨a, xs, rfl, g, lx⟩ := pv.list s
    rw [lx.ints] at g
    exact ⟨a, ns, rfl, .inl g, q _ F H (.refl s) (.int _)⟩) hg (he := he)
theorem xf_any {bs : List Bool} (h : XB B X e Γ (.list (bs.map D.bool))) (hm : X.mg "any" = none) (hc : X.calm = true := by rfl) (hg : Gl X "any" := by rfl) (he : starEach [e] X.env = (false, eval e X.env) :: starEach [] X.env := by rfl) : XF B X (.Call (.Name "any" p) [e] [] pos) Γ (.bool (bs.any _root_.id)) :=
  xf_callB (cr_any hc) hm (by decide +kernel) (xa_cons h xa_nil he) (fun F H vs s l Q q => by
    obtain ⟨v, rfl, pv⟩ := l.one
    obtain ⟨a, xs, rfl, g, lx⟩ := pv.list s
    rw [lx.bools] at g
    exact ⟨a, bs, rfl, .inl g, q _ F H (.refl s) (.bl _)⟩) hg (he := he)
theorem xf_all {bs : List Bool} (h : XB B X e Γ (.list (bs.map D.bool))) (hm : X.mg "all" = none) (hc : X.calm = true := by rfl) (hg : Gl X "all" := by rfl) (he : starEach [e] X.env = (false, eval e X.env) :: starEach [] X.env := by rfl) : XF B X (.Call (.Name "all" p) [e] [] pos) Γ (.bool (bs.all _root_.id)) :=
  xf_callB (cr_all hc) hm (by decide +kernel) (xa_cons h xa_nil he) (fun F H vs s l Q q => by
    obtain ⟨v, rfl, pv⟩ := l.one
    obtain ⟨a, xs, rfl, g, lx⟩ := pv.list s
    rw [lx.bools] at g
    exact ⟨a, bs, rfl, .inl g, q _ F H (.refl s) (.bl _)⟩) hg (he := he)
theorem xo_listL (h : XB B X e Γ (.list ds)) (hm : X.mg "list" = none) (hg : Gl X "list" := by rfl) (he : starEach [e] X.env = (false, eval e X.env) :: starEach [] X.env := by rfl) : XO B X (.Call (.Name "list" p) [e] [] pos) Γ (.list ds) :=
  xo_callT call_list_of hm (by decide +kernel) (xa_cons h xa_nil he) (fun F H vs s l Q q => by
    obtain ⟨v, rfl, pv⟩ := l.one
    obtain ⟨a, xs, rfl, g, lx⟩ := pv.list s
    exact ⟨a, xs, rfl, .inl (.inl g), fun c nc => q c F _ (.new s nc) nc (notIn s nc) (.lst upd_same lx)⟩) hg (he := he)
theorem xf_tupleL (h : XB B X e Γ (.list ds)) (hm : X.mg "tuple" = none) (hg : Gl X "tuple" := by rfl) (he : starEach [e] X.env = (false, eval e X.env) :: starEach [] X.env := by rfl) : XF B X (.Call (.Name "tuple" p) [e] [] pos) Γ (.tuple ds) :=
  xf_callT call_tuple_of hm (by decide +kernel) (xa_cons h xa_nil he) (fun F H vs s l Q q => by
    obtain ⟨v, rfl, pv⟩ := l.one
    obtain ⟨a, xs, rfl, g, lx⟩ := pv.list s
    refine ⟨a, xs, rfl, .inl ⟨.inl g, fun c nc => ?_⟩⟩
    have y : Ext F H (upd F c (.tup xs)) (upd H c (.tup xs)) := .newF s nc
    exact q _ _ _ y (.tup upd_same (lx.mono y.fwd))) hg (he := he)
end
end
end G

/-! ## GJ: defs -/
namespace G
open PySem PySem.Spec PyProof.Rows L2

/-- room for calls, and no repr is under way -/
structure Rm (k : Nat) (A : Around) : Prop where
  rm : Room k A
  gd : A.guards = some []
theorem Rm.mono {j k : Nat} {A : Around} (r : Rm k A) (h : j ≤ k) : Rm j A := ⟨r.rm.mono h, r.gd⟩
theorem Rm.down {k : Nat} {A : Around} (r : Rm (k + 1) A) (env : Env) : Rm k (A.deeper env) := ⟨r.rm.deeper env, r.gd⟩

/-- the promise of a def, in rooms without a repr under way -/
structure FnG (P : Program) (w : World) (K : PySem.W.Frag) (mg : Str → Option Value) (base : Heap) (k : Nat) (f : Addr) (fd : FuncData) (ps : List Str) (sp : Sp) : Prop where
  len : ∀ vs H Q E, sp vs H Q E → vs.length = ps.length
  run : ∀ (A : Around) (outer : List Env) (s : Shared) (H : Hp) (args : Args) (us : List Value) (vs : List V) (Q : VK) (E : XK), Rm k A → Env0 P w K mg base A outer s H →
    BindsTo s fd args (ps.zip us) → Vals vs us → sp vs H Q E → codeAny (model P w) A (.call (.ref f) args) (CR (L2.CX P w) outer P w H s Q E) s
/-- the state of a def's entry but its names and its text -/
structure Cq where
  P : Program
  w : World
  K : PySem.W.Frag
  mg : Str → Option Value
  base : Heap
  f : Addr
  cd : Value
  A : Around
  outer : List Env
  s : Shared
  H : Hp
  E : XK
@[reducible] def Cq.X (q : Cq) (N : List Str) (qual : Str) (scope : Scope) : Cx := cxOf (L2.CX q.P q.w) q.P q.w q.K q.mg q.base N qual scope q.f q.cd q.A q.outer q.s q.H q.E

theorem Cq.own (q : Cq) {N : List Str} {qual : Str} {scope : Scope} : PassesOwn (model (q.X N qual scope).prog (q.X N qual scope).w) (q.X N qual scope).A (q.X N qual scope).env (q.X N qual scope).xe := passes_of rfl
theorem fnG_of {P : Program} {w : World} {K : PySem.W.Frag} {mg : Str → Option Value} {base : Heap} {k : Nat} {f : Addr} {x qual : Str} {params : Arguments} {body : List Stmt} {scope : Scope} {fd : FuncData}
    {N ps : List Str} {sp : Sp} (FD : FunD K x qual params body scope [] [] f fd) (S : FnScope N ps scope) (len : ∀ vs H Q E, sp vs H Q E → vs.length = ps.length)
    (hb : ∀ (cdv : Value) (A : Around) (outer : List Env) (s : Shared) (H : Hp) (vs : List V) (Q : VK) (E : XK), Rm k (A.deeper (envOfC qual scope s.heap.objs.size f cdv)) → sp vs H Q E →
      sSs (Cq.X ⟨P, w, K, mg, base, f, cdv, A, outer, s, H, E⟩ N qual scope) body { nx := fun _ H' => Q .non H', rt := Q } (start N vs) H) : FnG P w K mg base (k + 1) f fd ps sp := by
  obtain ⟨oc, od, dV, kV, doc, pm, an, cdv, ct, osl, rfl, lk, hcd, _, _⟩ := FD.ex
  refine ⟨len, ?_⟩
  intro A outer s H args us vs Q E hr e0 hbt r hsp
  have Kin : K.In s.heap := e0.mod.kin.keeps fun b o e => (e0.bs b o e).1
  have nol : s.heap.NoLimit := e0.mod.nolimit.keeps fun b o e => (e0.bs b o e).1
  have kinds : ∀ y ∈ ps.zip us, scope.names.lookup y.1 = some .local ∨ (scope.names.lookup y.1 = some .cell ∧ ((cellsFrom (s.heap.objs.size + 1) scope.names []).lookup y.1).isSome = true) := by
    intro y hy
    obtain ⟨n, v⟩ := y
    rcases S.par n (List.of_mem_zip hy).1 with q | q
    · left; exact q
    · right; exact ⟨q, PySem.W.cellsFrom_some _ _ _ (.inl q)⟩
  refine codeAny_call_function hr.rm.depth (Kin _ _ lk) rfl S.co S.gen rfl (PySem.W.codeRec_of Kin hcd) (hbt _ _ _ _ ?_)
  refine wpAny_newFunctionEnv_cells S.kind kinds ?_
  intro env he s1 x
  subst he
  refine ⟨nol.keeps x.toInCall.keep, codeAny_func ?_⟩
  have q := hb cdv A outer s H vs Q E (hr.down _) hsp
  have I : Inv (Cq.X ⟨P, w, K, mg, base, f, cdv, A, outer, s, H, E⟩ N qual scope) [] (start N vs) H s1 := inv_start S hr.rm.hd e0 (len _ _ _ _ hsp) r x
  refine wpAny_mono (q [] s1 I) ?_ ?_
  · intro fl s' hs
    cases fl with
    | ret u =>
      obtain ⟨v, σ', H', J, rv, z⟩ := hs
      exact ⟨v, H', J.os, J.bare, J.base, J.hok, rv, z⟩
    | next =>
      obtain ⟨σ', H', J, z⟩ := hs
      exact ⟨.non, H', J.os, J.bare, J.base, J.hok, rfl, z⟩
    | brk =>
      obtain ⟨σ', H', _, z⟩ := hs
      exact z.elim
    | cont =>
      obtain ⟨σ', H', _, z⟩ := hs
      exact z.elim
  · intro e s' hs
    exact hs

/-! ### outcomes -/
inductive Oc where
  /-- frozen data | a new object that nobody holds | an exception of the class at C, its number -/
  | f (d : D)
  | o (d : D)
  | x (C : Addr) (n : Int)
def OcQ (F H : Hp) : Oc → VK → XK → Prop
  | .f d, Q, _ => ∀ v F' H', Ext F H F' H' → Rp F' v d → Q v H'
  | .o d, Q, _ => ∀ p F' H', Ext F H F' H' → H p = none → F' p = none → Own F' H' p d → Q (.ref p) H'
  | .x C n, _, E => ∀ d F' H', Ext F H F' H' → H' d = some (.xd [("at", .int n)]) → E (.ref C) (some d) H'
/-- the promise by data -/
def spD {α : Type} (pre : α → Prop) (arg : α → List D) (res : α → Oc) : Sp := fun vs H Q E => ∃ F a, Same F H ∧ RpL F vs (arg a) ∧ pre a ∧ OcQ F H (res a) Q E
/-- what an exception's way out wants -/
def Lets (B : Bs) (X : Cx) (P : Addr → Int → Gm → Prop) : Prop := ∃ W, Takes X W ∧ ∀ F σ H Γ C d n, StR B F σ H Γ → H d = some (.xd [("at", .int n)]) → P C n Γ → W (.ref C) (some d) σ H
/-- the cells at the entry -/
def g0 (n : Nat) (ds : List D) : Gm := ds.map .fr ++ List.replicate (n - ds.length) .no
theorem entry {F H : Hp} (s : Same F H) {N : List Str} {vs : List V} {ds : List D} (l : RpL F vs ds) : StR (bs F H s) F (start N vs) H (g0 N.length ds) := by
  have hl := l.length
  refine ⟨.refl s, True.intro, ?_, ?_, ?_⟩
  · unfold L2.start g0
    simp [hl]
  · intro i c e
    unfold g0 at e
    by_cases hi : i < ds.length
    · rw [List.getElem?_append_left (by simpa using hi), List.getElem?_map] at e
      cases hd : ds[i]? with
      | none => rw [hd] at e; cases e
      | some d =>
        rw [hd] at e
        cases e
        obtain ⟨v, hv, pv⟩ := l.get hd
        refine ⟨v, ?_, pv⟩
        unfold L2.start
        rw [List.getElem?_append_left (by simp; omega), List.getElem?_map, hv]
        rfl
    · rw [List.getElem?_append_right (by simpa using hi), List.getElem?_replicate] at e
      split at e
      · cases e; trivial
      · cases e
  · intro i j p d e h1
    unfold g0 at h1
    by_cases hi : i < ds.length
    · rw [List.getElem?_append_left (by simpa using hi), List.getElem?_map] at h1
      cases hd : ds[i]? with
      | none => rw [hd] at h1; cases h1
      | some d => rw [hd] at h1; cases h1
    · rw [List.getElem?_append_right (by simpa using hi), List.getElem?_replicate] at h1
      split at h1 <;> cases h1
/-- what a body is to reach: the outcome oc -/
def ocR (oc : Oc) : Po := { nx := fun _ => oc = .f .none, rt := fun d => oc = .f d, ro := fun d => oc = .o d ∨ oc = .f d }
theorem own_f {F0 H0 F H : Hp} {p : Addr} {d : D} (x : Ext F0 H0 F H) (n : H0 p = none) (n' : F p = none) (o : Own F H p d) : ∃ F', Ext F0 H0 F' H ∧ Rp F' (.ref p) d := by
  obtain ⟨F2, s1, s2, s3, q⟩ := o.freeze x.sub n'
  refine ⟨F2, ⟨x.fwd.trans s1, s2, ?_⟩, q⟩
  intro a o' h1 h2
  obtain ⟨k1, k2⟩ := x.keep a o' h1 h2
  refine ⟨k1, ?_⟩
  rw [s3 a (ne_of_none h1 n)]
  exact k2
theorem fits_oc {F H : Hp} {s : Same F H} {oc : Oc} {Q : VK} {E : XK} (h : OcQ F H oc Q E) : Fits (bs F H s) F (ocR oc) { nx := fun _ H' => Q .non H', rt := Q } := by
  refine ⟨?_, ?_, ?_, fun _ _ _ _ _ _ z => z.elim, fun _ _ _ _ _ _ z => z.elim⟩
  · intro F' σ' H' Γ' _ r e
    have e' : oc = .f .none := e
    subst e'
    exact h .non F' H' r.ex .non
  · intro F' H' v d _ x p e
    have e' : oc = .f d := e
    subst e'
    exact h v F' H' x p
  · intro F' H' p d _ x n n' o e
    rcases e with e | e
    · subst e
      exact h p F' H' x n n' o
    · subst e
      obtain ⟨F2, x2, q⟩ := own_f x n n' o
      exact h _ F2 H' x2 q

/-- a def under its name -/
structure Fu (P : Program) (w : World) (K : PySem.W.Frag) (mg : Str → Option Value) (base : Heap) (x : Str) (k : Nat) {α : Type} (pre : α → Prop) (arg : α → List D) (res : α → Oc) : Prop where
  ex : ∃ (f : Addr) (fd : FuncData) (ps : List Str), FnG P w K mg base k f fd ps (spD pre arg res) ∧ mg x = some (.ref f) ∧ PySem.W.keepIn K (.ref f) = true ∧ Binds K fd ps []
section
variable {P : Program} {w : World} {K : PySem.W.Frag} {mg : Str → Option Value} {base : Heap} {x qual : Str} {params : Arguments} {body : List Stmt} {scope : Scope} {f : Addr} {fd : FuncData} {N ps : List Str} {k : Nat} {α : Type} {pre : α → Prop} {arg : α → List D} {res : α → Oc}
/-- THE RULE of a def: the body reaches what is promised -/
theorem fn_ok (FD : FunD K x qual params body scope [] [] f fd) (S : FnScope N ps scope) (hn : ∀ a, (arg a).length = ps.length)
    (hb : ∀ (q : Cq) (B : Bs) (a : α), q.P = P → q.w = w → q.K = K → q.mg = mg → q.base = base → Rm k (q.X N qual scope).A → pre a → Lets B (q.X N qual scope) (fun C n _ => res a = .x C n) → WP B (q.X N qual scope) body (g0 N.length (arg a)) (ocR (res a))) :
    FnG P w K mg base (k + 1) f fd ps (spD pre arg res) := by
  refine fnG_of FD S ?_ ?_
  · intro vs H Q E h
    obtain ⟨F, a, s, l, _, _⟩ := h
    rw [l.length, hn]
  · intro cdv A outer s H vs Q E hr h
    obtain ⟨F, a, sub, l, hp, hq⟩ := h
    refine hb ⟨P, w, K, mg, base, f, cdv, A, outer, s, H, E⟩ (bs F H sub) a rfl rfl rfl rfl rfl hr hp ?_ F _ H (entry sub l) _ (fits_oc hq)
    refine ⟨fun cls d _ H => E cls d H, takes_of rfl rfl rfl rfl, ?_⟩
    intro F' σ' H' Γ' C d n r hd e
    rw [e] at hq
    exact hq d F' H' r.ex hd
theorem fu_of (hmg : mg x = some (.ref f)) (FD : FunD K x qual params body scope [] [] f fd) (S : FnScope N ps scope) (hn : ∀ a, (arg a).length = ps.length)
    (hbi : ∀ (kV doc pm : Value) (an : Option Addr) (cdv ct : Value) (us : List Value), us.length = ps.length → bindArgs (PySem.W.fnOf x qual params body scope .none kV doc pm an cdv ct) ⟨us, []⟩ = pure (ps.zip us))
    (hb : ∀ (q : Cq) (B : Bs) (a : α), q.P = P → q.w = w → q.K = K → q.mg = mg → q.base = base → Rm k (q.X N qual scope).A → pre a → Lets B (q.X N qual scope) (fun C n _ => res a = .x C n) → WP B (q.X N qual scope) body (g0 N.length (arg a)) (ocR (res a))) :
    Fu P w K mg base x (k + 1) pre arg res := ⟨f, fd, ps, fn_ok FD S hn hb, hmg, FD.kp, FD.bindsN hbi⟩
end

/-! ### calls -/
section
variable {B : Bs} {X : Cx} {k m : Nat} {α : Type} {pre : α → Prop} {arg : α → List D} {res : α → Oc} {x : Str} {a : α} {e : Expr} {es : List Expr} {Γ : Gm} {d : D} {p pos : Pos} {C : Addr} {n : Int} {W : WX}
theorem sE_call (F : Fu X.prog X.w X.K X.mg X.base x k pre arg res) (hr : Rm k X.A) (hp : pre a) (ha : XL B X (e :: es) Γ (arg a)) (hg : Gl X x) (hdb : (x == ("__debug__" : Str)) = false) (he : starEach (e :: es) X.env = (false, eval e X.env) :: starEach es X.env)
    (hpl : (backTo pos (starEach es X.env)).any (·.1) = false) {σ : L2.St} {F0 H : Hp} (r : StR B F0 σ H Γ) {Q : VK} {E : XK} (hE : ∀ (pins : List (Addr × Obj)) (H1 : Hp) (s : Shared) (er : Value) (s' : Shared), Inv X pins σ H1 s → L2.CX X.prog X.w X.stack H1 s E er s' → X.xe er s')
    (h : ∀ F1 H1, Ext F0 H F1 H1 → OcQ F1 H1 (res a) Q E) : sE X (.Call (.Name x p) (e :: es) [] pos) σ H Q := by
  obtain ⟨f, fd, ps, G, hm, kp, hb⟩ := F.ex
  intro pins s I
  refine wpAny_Call_Name_kw (ld_glob I hg hm ?_ hdb)
  refine PySem.W.callWith_K (h₀ := X.base) I.ok.mod.kin kp (thn (pa_s.run pos pins s σ H (fun vs H1 => ∃ F1, Ext F0 H F1 H1 ∧ RpL F1 vs (arg a)) I (ha F0 σ H r _ fun vs F1 H1 x1 p1 => ⟨F1, x1, p1⟩)) ?_) he hpl
  intro us s1 hu
  obtain ⟨vs, H1, I1, rv, F1, x1, p1⟩ := hu
  refine ⟨I1.kIn, ?_⟩
  have sp1 : spD pre arg res vs H1 Q E := ⟨F1, a, x1.sub, p1, hp, h F1 H1 x1⟩
  have hl : us.length = ps.length := by rw [← rv.length]; exact G.len _ _ _ _ sp1
  have b := hb s1 us I1.kIn (by rw [List.append_nil]; exact hl)
  rw [List.append_nil] at b
  refine wpAny_call (codeAny_mono (G.run X.A X.stack s1 H1 ⟨us, []⟩ us vs Q E hr I1.env0 b rv sp1) ?_)
  intro r' s' hq
  cases r' with
  | error er => exact hE pins H1 s1 er s' I1 hq
  | ok fl =>
    cases fl with
    | ret u => exact I1.after hq
    | next => exact False.elim hq
    | brk => exact False.elim hq
    | cont => exact False.elim hq
theorem cx_no {P : Program} {w : World} {outer : List Env} {H : Hp} {s s' : Shared} {er : Value} (c : L2.CX P w outer H s E0 er s') : False := by
  obtain ⟨_, _, _, _, _, _, _, _, _, _, _, _, z⟩ := c
  exact z
theorem xf_call (F : Fu X.prog X.w X.K X.mg X.base x k pre arg res) (hr : Rm m X.A) (hp : pre a) (hd : res a = .f d) (ha : XL B X (e :: es) Γ (arg a)) (hk : k ≤ m := by decide) (hg : Gl X x := by rfl) (hdb : (x == ("__debug__" : Str)) = false := by decide)
    (he : starEach (e :: es) X.env = (false, eval e X.env) :: starEach es X.env := by rfl) (hpl : (backTo pos (starEach es X.env)).any (·.1) = false := by rfl) : XF B X (.Call (.Name x p) (e :: es) [] pos) Γ d := by
  intro F0 σ H r Q q
  refine sE_call F (hr.mono hk) hp ha hg hdb he hpl r (E := E0) (fun _ _ _ _ _ _ c => (cx_no c).elim) ?_
  intro F1 H1 x1
  rw [hd]
  exact fun v F' H' x' p' => q v F' H' (x1.trans x') p'
theorem xo_call (F : Fu X.prog X.w X.K X.mg X.base x k pre arg res) (hr : Rm m X.A) (hp : pre a) (hd : res a = .o d) (ha : XL B X (e :: es) Γ (arg a)) (hk : k ≤ m := by decide) (hg : Gl X x := by rfl) (hdb : (x == ("__debug__" : Str)) = false := by decide)
    (he : starEach (e :: es) X.env = (false, eval e X.env) :: starEach es X.env := by rfl) (hpl : (backTo pos (starEach es X.env)).any (·.1) = false := by rfl) : XO B X (.Call (.Name x p) (e :: es) [] pos) Γ d := by
  intro F0 σ H r Q q
  refine sE_call F (hr.mono hk) hp ha hg hdb he hpl r (E := E0) (fun _ _ _ _ _ _ c => (cx_no c).elim) ?_
  intro F1 H1 x1
  rw [hd]
  exact fun v F' H' x' n n' p' => q v F' H' (x1.trans x') (x1.free r.sub n) n' p'
/-- a call that raises: then nothing behind it runs -/
theorem sE_callX {R : Addr → Int → Gm → Prop} (F : Fu X.prog X.w X.K X.mg X.base x k pre arg res) (hr : Rm m X.A) (hp : pre a) (hd : res a = .x C n) (hl : Lets B X R) (hR : R C n Γ) (ha : XL B X (e :: es) Γ (arg a)) (hk : k ≤ m) (hg : Gl X x) (hdb : (x == ("__debug__" : Str)) = false)
    (he : starEach (e :: es) X.env = (false, eval e X.env) :: starEach es X.env) (hpl : (backTo pos (starEach es X.env)).any (·.1) = false) {σ : L2.St} {F0 H : Hp} (r : StR B F0 σ H Γ) {Q : VK} : sE X (.Call (.Name x p) (e :: es) [] pos) σ H Q := by
  obtain ⟨W, tk, hW⟩ := hl
  refine sE_call F (hr.mono hk) hp ha hg hdb he hpl r (E := fun cls d H' => W cls d σ H') (fun pins H1 s er s' I c => tk er s' (XE.of_call I (fun _ _ _ z => z) c)) ?_
  intro F1 H1 x1
  rw [hd]
  exact fun dd F' H' x' hx => hW F' σ H' Γ C dd n (r.ext (x1.trans x')) hx hR
theorem xf_callX {R : Addr → Int → Gm → Prop} (F : Fu X.prog X.w X.K X.mg X.base x k pre arg res) (hr : Rm m X.A) (hp : pre a) (hd : res a = .x C n) (hl : Lets B X R) (hR : R C n Γ) (ha : XL B X (e :: es) Γ (arg a)) (hk : k ≤ m := by decide) (hg : Gl X x := by rfl) (hdb : (x == ("__debug__" : Str)) = false := by decide)
    (he : starEach (e :: es) X.env = (false, eval e X.env) :: starEach es X.env := by rfl) (hpl : (backTo pos (starEach es X.env)).any (·.1) = false := by rfl) : XF B X (.Call (.Name x p) (e :: es) [] pos) Γ d := fun _ _ _ r _ _ => sE_callX F hr hp hd hl hR ha hk hg hdb he hpl r
theorem xo_callX {R : Addr → Int → Gm → Prop} (F : Fu X.prog X.w X.K X.mg X.base x k pre arg res) (hr : Rm m X.A) (hp : pre a) (hd : res a = .x C n) (hl : Lets B X R) (hR : R C n Γ) (ha : XL B X (e :: es) Γ (arg a)) (hk : k ≤ m := by decide) (hg : Gl X x := by rfl) (hdb : (x == ("__debug__" : Str)) = false := by decide)
    (he : starEach (e :: es) X.env = (false, eval e X.env) :: starEach es X.env := by rfl) (hpl : (backTo pos (starEach es X.env)).any (·.1) = false := by rfl) : XO B X (.Call (.Name x p) (e :: es) [] pos) Γ d := fun _ _ _ r _ _ => sE_callX F hr hp hd hl hR ha hk hg hdb he hpl r
end
end G

/-! ## GI: sorted, repr; texts as lists of codes; lists put together, turned round; isinstance -/
namespace G
open PySem PySem.Spec PyProof.Rows L2
open PySem.W (dataLe EachIs AllAlike Sortable sorted_data)

/-! ### sorted -/
/-- the order in which sorted puts things -/
def leD {β : Type} (en : β → D) : β → β → Bool := dataLe false fun b => (en b).py
def rSortG {β : Type} (K : V → β → Prop) (en : β → D) (u : Nat) : List V → Hp → VK → Prop := fun vs H Q => ∃ (a : Addr) (xs : List V) (bs : List β), vs = [.ref a] ∧ Rd H a (.lst xs) ∧ EachIs K xs bs ∧ EachIs (fun v b => Rp H v (en b)) xs bs ∧
  AllAlike (bs.map fun b => (en b).py) ∧ Sortable (bs.map fun b => (en b).py) ∧ (∀ b ∈ bs, (en b).py.depth ≤ u) ∧ ∀ ys p, EachIs K ys (bs.mergeSort (leD en)) → H p = none → Q (.ref p) (upd H p (.lst ys))
theorem each_up {β : Type} {K : V → β → Prop} : ∀ {xs : List V} {us : List Value} {bs : List β}, Vals xs us → EachIs K xs bs → EachIs (fun u b => ∃ v, RelV v u ∧ K v b) us bs
  | _, _, _, .nil, .nil => .nil
  | _, _, _, .cons r l, .cons k m => .cons ⟨_, r, k⟩ (each_up l m)
theorem each_dn {β : Type} {K : V → β → Prop} : ∀ {us : List Value} {bs : List β}, EachIs (fun u b => ∃ v, RelV v u ∧ K v b) us bs → ∃ ys, Vals ys us ∧ EachIs K ys bs
  | _, _, .nil => ⟨[], .nil, .nil⟩
  | _, _, .cons ⟨v, r, k⟩ m => by
    obtain ⟨ys, a, b⟩ := each_dn m
    exact ⟨v :: ys, .cons r a, .cons k b⟩
theorem each_mono {α β : Type} {K J : α → β → Prop} (h : ∀ v b, K v b → J v b) : ∀ {xs : List α} {bs : List β}, EachIs K xs bs → EachIs J xs bs
  | _, _, .nil => .nil
  | _, _, .cons k m => .cons (h _ _ k) (each_mono h m)
theorem cr_sortG {β : Type} {X : Cx} {K : V → β → Prop} {en : β → D} {u : Nat} (hu : X.A.units + 2 + u < cLine) : CallR X (.builtin "sorted") (rSortG K en u) := by
  intro pins s σ H vs us Q I r h
  obtain ⟨a, xs, bs, rfl, g, e1, e2, al, so, dp, q⟩ := h
  obtain ⟨hz, its, n, rv, he⟩ := g.ok I.hok
  rw [Vals.ref1 r]
  have len : bs.length ≤ sizeLine := by rw [← e1.length]; exact hz
  have rd : EachIs (fun v b => ∃ as, Reads s.heap v (en b).py as) its bs := each_mono (fun w b ⟨v, rw', k⟩ => k.reads I.hok rw') (each_up rv e2)
  refine sorted_data (enc := fun b => (en b).py) (R := fun u b => ∃ v, RelV v u ∧ K v b) ⟨_, he, rfl, _, rfl⟩ (each_up rv e1) rd al so len (fun b hb => Nat.lt_of_le_of_lt (Nat.add_le_add_left (dp b hb) _) hu) ?_
  intro out ho eo
  obtain ⟨ys, ry, ky⟩ := each_dn eo
  obtain ⟨ep, he'⟩ := PyProof.Rows.sortedAll_at s.heap its (List.toArray out)
  have hl : ys.length ≤ sizeLine := by rw [ry.length, ho]; exact len
  refine ⟨.ref _, upd H (s.heap.objs.size + 1) (.lst ys), I.laid (t' := s.toks) (fun _ _ => PyProof.Rows.sortedAll_old) (Nat.le_succ _) ⟨hl, out, ep, ry, he'⟩, rfl, q ys _ ky (I.hok.fresh (Nat.le_succ _))⟩
def rSortX {β : Type} (en : β → D) (u : Nat) : List V → Hp → VK → Prop := fun vs H Q => ∃ K : V → β → Prop, rSortG K en u vs H Q
theorem cr_sortX {β : Type} {X : Cx} {en : β → D} {u : Nat} (hu : X.A.units + 2 + u < cLine) : CallR X (.builtin "sorted") (rSortX en u) := fun pins s σ H vs us Q I r ⟨K, h⟩ => cr_sortG (K := K) hu pins s σ H vs us Q I r h
section
variable {B : Bs} {X : Cx} {e x1 x2 : Expr} {es : List Expr} {Γ : Gm} {d : D} {ds : List D} {pos p : Pos} {α β : Type} {ea : α → D} {n : Nat}
theorem rpl_each {F : Hp} : ∀ {xs : List V} {bs : List α}, RpL F xs (bs.map ea) → EachIs (fun v b => Rp F v (ea b)) xs bs := by
  intro xs bs h
  induction bs generalizing xs with
  | nil => cases h; exact .nil
  | cons b bs ih =>
    cases h with
    | cons h l => exact .cons h (ih l)
theorem each_rpl {F : Hp} : ∀ {xs : List V} {bs : List α}, EachIs (fun v b => Rp F v (ea b)) xs bs → RpL F xs (bs.map ea)
  | _, _, .nil => .nil
  | _, _, .cons h l => .cons h (each_rpl l)
/-- things that sorted takes: pairs and the like, or atoms -/
def Srt (ea : α → D) : Prop := (∀ a, ∃ x r, (ea a).py = .tuple (x :: r)) ∨ ∀ a, (ea a).py ≠ .none ∧ ∀ xs, (ea a).py ≠ .tuple xs
theorem Srt.ok (h : Srt ea) (bs : List α) : Sortable (bs.map fun b => (ea b).py) := by
  rcases h with h | h
  · left
    intro d hd
    obtain ⟨b, _, rfl⟩ := List.mem_map.mp hd
    exact h b
  · right
    intro d hd
    obtain ⟨b, _, rfl⟩ := List.mem_map.mp hd
    exact h b
theorem s2 {eb : β → D} : Srt (e2 ea eb) := .inl fun a => ⟨(ea a.1).py, [(eb a.2).py], by simp only [e2, D.py, pyL]⟩
theorem sI' : Srt D.int := .inr fun a => ⟨by simp [D.py], by simp [D.py]⟩
theorem sW' : Srt eW := .inr fun a => ⟨by simp [eW, D.py], by simp [eW, D.py]⟩
theorem sL {eb : α → D} : Srt (eL eb) := .inr fun a => ⟨by simp [eL, D.py], by simp [eL, D.py]⟩
theorem xo_sorted {bs : List α} (g : Good ea n) (al : Alk ea) (so : Srt ea) (hn : n ≤ 60) (hu : X.A.units + 64 < cLine) (h : XB B X e Γ (.list (bs.map ea))) (hm : X.mg "sorted" = none) (hg : Gl X "sorted" := by rfl) (he : starEach [e] X.env = (false, eval e X.env) :: starEach [] X.env := by rfl) :
    XO B X (.Call (.Name "sorted" p) [e] [] pos) Γ (.list ((bs.mergeSort (leD ea)).map ea)) :=
  xo_callB (cr_sortX (en := ea) (u := n) (by omega)) hm (by decide +kernel) (xa_cons h xa_nil he) (fun F H vs s l Q q => by
    obtain ⟨v, rfl, pv⟩ := l.one
    obtain ⟨a, xs, rfl, gx, lx⟩ := pv.list s
    refine ⟨fun v b => Rp F v (ea b), a, xs, bs, rfl, gx, rpl_each lx, rpl_each (lx.mono (.of s)), ?_, so.ok bs, fun b _ => g.depth b, ?_⟩
    · intro d hd d' hd'
      obtain ⟨b, _, rfl⟩ := List.mem_map.mp hd
      obtain ⟨b', _, rfl⟩ := List.mem_map.mp hd'
      exact al b b'
    · intro ys p k np
      exact q p F _ (.new s np) np (notIn s np) (.lst upd_same (each_rpl k))) hg (he := he)
end

/-! ### repr -/
/-- data that repr shows: no dicts, not too long -/
structure Shw (d : D) : Prop where
  sh : d.py.showable = true
  nd : d.py.hasDict = false
  sz : d.py.shown.length ≤ sizeLine
  dp : d.py.depth ≤ 60
def rRepr : List V → Hp → VK → Prop := fun vs H Q => ∃ v d, vs = [v] ∧ Rp H v d ∧ Shw d ∧ Q (.str d.py.shown) H
theorem cr_repr {X : Cx} (hg : X.A.guards = some []) (hu : X.A.units + 64 < cLine) : CallR X (.builtin "repr") rRepr := by
  intro pins s σ H vs us Q I r h
  obtain ⟨v, d, rfl, p, c, q⟩ := h
  obtain ⟨u, rfl, ru⟩ := vals1 r
  obtain ⟨as, rd⟩ := p.reads I.hok ru
  have sz := c.sz
  have fin : ∀ (h' : Heap) (t : Tok) (tk : Nat), (∀ b o, s.heap.get? b = some o → h'.get? b = some o) → EP X pins σ Q (.str d.py.shown t) { s with heap := h', toks := tk } := fun h' t tk k => ⟨.str d.py.shown, H, I.kept k, ⟨_, rfl⟩, q⟩
  have here : ∀ (t : Tok) (tk : Nat), EP X pins σ Q (.str d.py.shown t) { s with toks := tk } := fun t tk => fin s.heap t tk fun _ _ e => e
  cases p with
  | non => cases ru; exact PySem.P.repr_of_none (by simpa only [D.py, PyData.shown] using here _ _)
  | bl b => cases ru; exact PySem.P.repr_of_bool (by simpa only [D.py, PyData.shown] using here _ _)
  | int i =>
    obtain ⟨t, rfl⟩ := ru
    have hs := c.sh
    simp only [D.py, PyData.showable, decide_eq_true_eq] at hs
    exact PySem.P.repr_of_int hs (by simpa only [D.py, PyData.shown] using here _ _)
  | str x =>
    obtain ⟨t, rfl⟩ := ru
    simp only [D.py, PyData.shown] at sz
    exact PySem.P.repr_of_str (by simpa only [D.py, PyData.shown] using here _ _) sz
  | lst g l => cases ru; exact PySem.repr_of_reads' rd c.sh (PySem.PyData.noDict_hsm c.nd) hg (by have := c.dp; omega) (fun _ _ e => e) fin sz
  | tup g l => cases ru; exact PySem.repr_of_reads' rd c.sh (PySem.PyData.noDict_hsm c.nd) hg (by have := c.dp; omega) (fun _ _ e => e) fin sz
  | dK g l => cases ru; exact PySem.repr_of_reads' rd c.sh (PySem.PyData.noDict_hsm c.nd) hg (by have := c.dp; omega) (fun _ _ e => e) fin sz
  | dT g l => cases ru; exact PySem.repr_of_reads' rd c.sh (PySem.PyData.noDict_hsm c.nd) hg (by have := c.dp; omega) (fun _ _ e => e) fin sz
section
variable {B : Bs} {X : Cx} {e x1 x2 : Expr} {es : List Expr} {Γ : Gm} {d : D} {ds : List D} {pos p pn : Pos} {k m : Nat}
theorem xf_repr (hr : Rm m X.A) (c : Shw d) (h : XB B X e Γ d) (hm : X.mg "repr" = none) (hg : Gl X "repr" := by rfl) (he : starEach [e] X.env = (false, eval e X.env) :: starEach [] X.env := by rfl) : XF B X (.Call (.Name "repr" p) [e] [] pos) Γ (.str d.py.shown) :=
  xf_callB (cr_repr hr.gd hr.rm.units) hm (by decide +kernel) (xa_cons h xa_nil he) (fun F H vs s l Q q => by
    obtain ⟨v, rfl, pv⟩ := l.one
    exact ⟨v, d, rfl, pv.rp s, c, q _ F H (.refl s) (.str _)⟩) hg (he := he)
/-- isinstance(e, list) -/
theorem xf_isList (h : XB B X e Γ (.list ds)) (hm : X.mg "isinstance" = none) (hm2 : X.mg "list" = none) (hg : Gl X "isinstance" := by rfl) (hg2 : Gl X "list" := by rfl) (he : starEach [e, .Name "list" pn] X.env = (false, eval e X.env) :: starEach [.Name "list" pn] X.env := by rfl)
    (he2 : starEach [.Name "list" pn] X.env = (false, eval (.Name "list" pn) X.env) :: starEach [] X.env := by rfl) (hpl : (backTo pos (starEach [.Name "list" pn] X.env)).any (·.1) = false := by rfl) : XF B X (.Call (.Name "isinstance" p) [e, .Name "list" pn] [] pos) Γ (.bool true) :=
  xf_of (pe_callB call_isi hg hm (by decide +kernel) (pa_cons pe_s (pa_cons (pe_bltn (v := .ty "list") (u := .type "list") hg2 hm2 (by decide +kernel) rfl) pa_nil he2) he) (by decide) (by decide) he hpl) fun F σ H r Q q => h F σ H r _ fun v F1 H1 y1 p1 => by
    obtain ⟨a, xs, rfl, g, lx⟩ := p1.list y1.sub
    refine ⟨.ref a, .ty "list", .type "list", .type "list", true, rfl, .ty _, ?_, ?_, q _ F1 H1 y1 (.bl _)⟩
    · rcases g with g | ⟨o, g⟩
      · exact .base (.lst g)
      · exact .base (.frz g)
    · unfold PySem.W.kitOne
      rfl
end

/-! ### texts as lists of codes -/
theorem S_cutS (w : List Nat) (a b : Option Int) : cutS (S w) a b = S (cutD w a b) := by
  unfold cutS cutD
  rw [S_len, S_tl]
  rfl
/-- the word stands in the other one -/
def inW (u v : List Nat) : Bool := decide (u <:+: v)
theorem found_in (u v : List Nat) : (!(PySem.Builtin.Str.occurrences (S v) (S u) 0 (S v).length 1).isEmpty) = inW u v := by
  rw [Bool.eq_iff_iff, PySem.StrLaws.found_iff]
  unfold inW
  rw [decide_eq_true_eq]
  constructor
  · rintro ⟨i, h1, h2⟩
    rw [PySem.StrLaws.subAt_eq, S_tl, S_tl, S_len, beq_iff_eq] at h2
    refine ⟨v.take i, (v.drop i).drop u.length, ?_⟩
    rw [← h2, List.length_take]
    have : min u.length (v.drop i).length = u.length := by
      rw [S_len, S_len] at h1
      rw [List.length_drop]; omega
    rw [this, List.append_assoc, List.take_append_drop, List.take_append_drop]
  · rintro ⟨s, t, h⟩
    refine ⟨s.length, ?_, ?_⟩
    · rw [S_len, S_len, ← h]; simp
    · rw [PySem.StrLaws.subAt_eq, S_tl, S_tl, S_len, beq_iff_eq, ← h]
      simp
section
variable {B : Bs} {X : Cx} {e x1 x2 x3 : Expr} {es : List Expr} {Γ : Gm} {d : D} {ds : List D} {pos p p2 pn apos : Pos} {k m : Nat} {u v w : List Nat} {i : Int}
theorem xf_strW {x : Str} {j} (h : x = S w := by decide +kernel) : XF B X (.Constant (.str x) j pos) Γ (eW w) := by subst h; exact xf_str
theorem xf_catW (h1 : XB B X x1 Γ (eW u)) (h2 : XB B X x2 Γ (eW v)) (hz : u.length + v.length ≤ sizeLine) : XF B X (.BinOp x1 .Add x2 pos) Γ (eW (u ++ v)) := (xf_cat h1 h2 (by rw [S_len, S_len]; exact hz)).to (by rw [S_app]; rfl)
theorem xf_lenW (h : XB B X e Γ (eW w)) (hz : w.length ≤ sizeLine) (hm : X.mg "len" = none) (hg : Gl X "len" := by rfl) (he : starEach [e] X.env = (false, eval e X.env) :: starEach [] X.env := by rfl) : XF B X (.Call (.Name "len" p) [e] [] pos) Γ (.int w.length) :=
  (xf_lenS h (by rw [S_len]; exact hz) hm hg he).to (by rw [S_len])
theorem xf_ixW {c : Nat} (h1 : XB B X x1 Γ (eW w)) (h2 : XB B X x2 Γ (.int i)) (hz : w.length ≤ sizeLine) (h : atI w i = some c) (hs : PlainIx x2 := by intro _ _; rfl) : XF B X (.Subscript x1 x2 pos) Γ (eW [c]) :=
  xf_ixS h1 h2 (by rw [S_len]; exact hz) (by rw [S_tl]; exact h) hs
theorem xf_slW {lo hi : Option Expr} {a b : Option Int} (h : XB B X e Γ (eW w)) (h1 : EvP B (sP X lo) Γ a) (h2 : EvP B (sP X hi) Γ b) (hz : w.length ≤ sizeLine) : XF B X (.Subscript e (.Slice lo hi none p2) pos) Γ (eW (cutD w a b)) :=
  (xf_slS h h1 h2 (by rw [S_len]; exact hz)).to (by rw [S_cutS]; rfl)
theorem opf_inW : OpF (fun x y H Q => ∃ i j, x = .str i ∧ y = .str j ∧ Q (.bl (!(PySem.Builtin.Str.occurrences j i 0 j.length 1).isEmpty)) H) (eW u) (eW v) (.bool (inW u v)) := fun F H a b s p1 p2 Q q => by
  rw [p1.str, p2.str]
  refine ⟨_, _, rfl, rfl, ?_⟩
  rw [found_in]
  exact q _ F H (.refl s) (.bl _)
theorem opf_ninW : OpF (fun x y H Q => ∃ i j, x = .str i ∧ y = .str j ∧ Q (.bl (!(!(PySem.Builtin.Str.occurrences j i 0 j.length 1).isEmpty))) H) (eW u) (eW v) (.bool (!inW u v)) := fun F H a b s p1 p2 Q q => by
  rw [p1.str, p2.str]
  refine ⟨_, _, rfl, rfl, ?_⟩
  rw [found_in]
  exact q _ F H (.refl s) (.bl _)
theorem xf_inW (h1 : XB B X x1 Γ (eW u)) (h2 : XB B X x2 Γ (eW v)) (hm : behindInMarks .In x2 = false := by first | exact nomark _ | rfl) : XF B X (.Compare x1 [.In] [x2] pos) Γ (.bool (inW u v)) := xf_cmp op_in_str h1 h2 opf_inW hm
theorem xt_inW (h1 : XB B X x1 Γ (eW u)) (h2 : XB B X x2 Γ (eW v)) (hm : behindInMarks .In x2 = false := by first | exact nomark _ | rfl) : XT B X (.Compare x1 [.In] [x2] pos) Γ (inW u v) := xt_cmp op_in_str h1 h2 opf_inW hm
theorem xf_ninW (h1 : XB B X x1 Γ (eW u)) (h2 : XB B X x2 Γ (eW v)) (hm : behindInMarks .NotIn x2 = false := by first | exact nomark _ | rfl) : XF B X (.Compare x1 [.NotIn] [x2] pos) Γ (.bool (!inW u v)) := xf_cmp op_notin_str h1 h2 opf_ninW hm
theorem xt_ninW (h1 : XB B X x1 Γ (eW u)) (h2 : XB B X x2 Γ (eW v)) (hm : behindInMarks .NotIn x2 = false := by first | exact nomark _ | rfl) : XT B X (.Compare x1 [.NotIn] [x2] pos) Γ (!inW u v) := xt_cmp op_notin_str h1 h2 opf_ninW hm
end

/-! ### text * int, sep.join(list), text[::-1] -/
/-- n times -/
def mulL {α : Type} (xs : List α) (n : Int) : List α := (List.replicate n.toNat xs).flatten
theorem fold_app (x : Array Nat) : ∀ (n : Nat) (a : Array Nat), ((List.replicate n x).foldl (· ++ ·) a).toList = a.toList ++ (List.replicate n x.toList).flatten
  | 0, a => by simp
  | n + 1, a => by
    rw [List.replicate_succ, List.foldl_cons, fold_app x n, List.replicate_succ, List.flatten_cons]
    simp
theorem mul_len {α : Type} (xs : List α) (n : Int) : (mulL xs n).length = n.toNat * xs.length := by
  unfold mulL
  simp
def rMulS : R2 := fun x y H Q => ∃ z n, x = .str z ∧ y = .int n ∧ 0 ≤ n ∧ n < 2 ^ 30 ∧ z.length * n.toNat ≤ sizeLine ∧ Q (.str (S (mulL z.cps.toList n))) H
theorem op_mulS {X : Cx} : OpR X (binaryOp .Mult) rMulS := by
  intro pins s σ H x y a b Q I rx ry h
  obtain ⟨z, n, rfl, rfl, h0, h1, hz, q⟩ := h
  obtain ⟨t, rfl⟩ := rx
  obtain ⟨t', rfl⟩ := ry
  have hs : sizeLine = 16777216 := sizeLine_eq
  have fin : ∀ (tk : Tok) (k : Nat) (r : Str), r.cps.toList = mulL z.cps.toList n → EP X pins σ Q (.str r tk) { s with toks := k } := fun tk k r e => by
    refine ⟨.str r, H, I.tok _, ⟨_, rfl⟩, ?_⟩
    rw [← e, S_of] at q
    exact q
  have zl : z.cps.toList.length = z.length := by simp [Str.length]
  refine PySem.P.mul_str (by
      rw [decide_eq_false (by omega : ¬ n < -(2 ^ 63 : Int)), decide_eq_false (by omega : ¬ n ≥ 2 ^ 63)]; rfl) (fun hn he hc => ?_) (fun hn he => ?_) ?_
  · have hn1 : (1 : Int) ≤ n := by omega
    have : (z.length : Int) ≤ 16777216 := by
      have h2 : z.length * 1 ≤ z.length * n.toNat := Nat.mul_le_mul_left _ (by omega)
      omega
    have h3 : ((2 : Int) ^ 63 - 1) / n ≥ 2 ^ 32 := by
      have h4 : (2 : Int) ^ 32 * n ≤ 2 ^ 63 - 1 := by omega
      exact (Int.le_ediv_iff_mul_le (by omega)).mpr h4
    omega
  · unfold PySem.Builtin.Str.tooLong
    first
      | exact decide_eq_false (by omega)
      | (simp; omega)
  · by_cases hn : n < 1
    · rw [if_pos hn]
      exact ⟨by decide, fin _ _ _ (by
        have : n.toNat = 0 := by omega
        unfold mulL
        rw [this]
        rfl)⟩
    · rw [if_neg hn]
      by_cases he : (n == 1 || z.length == 0) = true
      · rw [if_pos he]
        refine fin _ s.toks _ ?_
        rw [Bool.or_eq_true, beq_iff_eq, beq_iff_eq] at he
        rcases he with rfl | e
        · simp [mulL]
        · have : z.cps.toList = [] := List.length_eq_zero_iff.mp (by rw [zl, e])
          rw [this]
          simp [mulL]
      · rw [if_neg he]
        have e : (⟨(List.replicate n.toNat z.cps).foldl (· ++ ·) #[]⟩ : Str).cps.toList = mulL z.cps.toList n := by
          show ((List.replicate n.toNat z.cps).foldl (· ++ ·) #[]).toList = _
          rw [fold_app]
          rfl
        refine ⟨?_, fin _ _ _ e⟩
        have : (⟨(List.replicate n.toNat z.cps).foldl (· ++ ·) #[]⟩ : Str).length = (mulL z.cps.toList n).length := by rw [← e]; simp [Str.length]
        rw [this, mul_len, zl, Nat.mul_comm]
        exact hz
section
variable {B : Bs} {X : Cx} {e o x1 x2 x3 : Expr} {es : List Expr} {Γ : Gm} {d : D} {ds : List D} {pos p p1 p2 p3 pn apos : Pos} {k m : Nat} {u v w : List Nat} {i : Int}
theorem xf_mulW (h1 : XB B X x1 Γ (eW w)) (h2 : XB B X x2 Γ (.int i)) (hi : 0 ≤ i ∧ i < 2 ^ 30) (hz : w.length * i.toNat ≤ sizeLine) : XF B X (.BinOp x1 .Mult x2 pos) Γ (eW (mulL w i)) := xf_bin op_mulS h1 h2 fun F H a b s p1 p2 Q q => by
  rw [p1.str, p2.int]
  refine ⟨_, _, rfl, rfl, hi.1, hi.2, by rw [S_len]; exact hz, ?_⟩
  rw [S_tl]
  exact q _ F H (.refl s) (.str _)
/-- ''.join(list of texts) -/
theorem joinE (ws : List (List Nat)) : Txt.join (S []) (ws.map S) = S ws.flatten := by
  rw [TL.join_eq]
  refine TL.ext_tl ?_
  rw [TL.tl_join]
  have e1 : (ws.map S).map TL.tl = ws := by
    rw [List.map_map]
    conv => rhs; rw [← List.map_id ws]
    exact List.map_congr_left fun a _ => S_tl a
  have e2 : TL.tl (S []) = [] := rfl
  have e3 : ∀ l : List (List Nat), TL.joinL [] l = l.flatten := by
    intro l
    induction l with
    | nil => rfl
    | cons a r ih =>
      cases r with
      | nil => simp [TL.joinL]
      | cons b r => rw [TL.joinL, ih]; simp
  show TL.joinL (TL.tl (S [])) ((ws.map S).map TL.tl) = TL.tl (S ws.flatten)
  rw [e1, e2, e3]
  exact (S_tl _).symm
theorem strs_of {F : Hp} {xs : List V} {ws : List (List Nat)} (h : RpL F xs (ws.map eW)) : xs = (ws.map S).map V.str := by
  have h' : RpL F xs ((ws.map S).map D.str) := by rw [List.map_map]; exact h
  exact h'.strs
theorem xf_joinW {ws : List (List Nat)} (h1 : XB B X o Γ (eW [])) (h2 : XB B X e Γ (.list (ws.map eW))) (hz : ws.flatten.length ≤ 16777216) (hs : starEach [e] X.env = [(false, eval e X.env)] := by rfl) (hbase : attributeBase o "join" X.env (eval o X.env) = eval o X.env := by rfl) (hline : (apos.endLine == pos.line) = true := by rfl) :
    XF B X (.Call (.Attribute o "join" apos) [e] [] pos) Γ (eW ws.flatten) := xf_of (pe_join pe_s pe_s hs hbase hline) fun F σ H r Q q =>
  h1 F σ H r _ fun a F1 H1 y1 p1 => by
    rw [p1.str]
    refine ⟨⟨_, rfl⟩, h2 F1 σ H1 (r.ext y1) _ fun b F2 H2 y2 p2 => ?_⟩
    obtain ⟨c, xs, rfl, g, l⟩ := p2.list y2.sub
    have ex := strs_of l
    subst ex
    refine ⟨_, c, ws.map S, rfl, rfl, .inl (.inl g), ?_, ?_⟩
    · have e1 : ((ws.map S).map (·.length)).sum = ws.flatten.length := by
        rw [List.map_map, List.length_flatten]
        exact congrArg List.sum (List.map_congr_left fun a _ => S_len a)
      have e2 : (S []).length = 0 := rfl
      rw [e1, e2]
      omega
    · rw [joinE]
      exact q _ F2 H2 (y1.trans y2) (.str _)
end
end G

/-! ## GK: lists put together, turned round; dict of a list; raise, try; what a caught exception says -/
namespace G
open PySem PySem.Spec PyProof.Rows L2
open PySem.W (dataLe EachIs AllAlike Sortable)

section
variable {B : Bs} {X : Cx} {e o x1 x2 x3 : Expr} {es : List Expr} {Γ : Gm} {d : D} {ds es' : List D} {pos p p1 p2 p3 pn apos : Pos} {k m : Nat} {u v w : List Nat} {i : Int}
/-! ### list + list -/
def rCatR : R2 := fun x y H Q => ∃ l b xs zs, x = .ref l ∧ y = .ref b ∧ Rd H l (.lst xs) ∧ Rd H b (.lst zs) ∧ xs.length + zs.length ≤ sizeLine ∧ ∀ p, H p = none → Q (.ref p) (upd H p (.lst (xs ++ zs)))
theorem op_catR : OpR X (binaryOp .Add) rCatR := by
  intro pins s σ H x y a b Q I rx ry h
  obtain ⟨l, b', xs, zs, rfl, rfl, hH, hB, hz, q⟩ := h
  cases rx
  cases ry
  obtain ⟨_, i1, n1, r1, g1⟩ := hH.ok I.hok
  obtain ⟨_, i2, n2, r2, g2⟩ := hB.ok I.hok
  have l1 := r1.length
  have l2 := r2.length
  refine PySem.P.add_list g1 g2 ?_ (by rw [List.size_toArray, List.size_toArray]; omega)
  have ea : i1.toArray ++ i2.toArray = (i1 ++ i2).toArray := by simp
  rw [ea]
  exact ⟨.ref _, _, I.lnew (t' := s.toks) (r1.append r2) (by rw [List.length_append]; omega), rfl, q _ I.fresh⟩
theorem xo_catL {xs ys : List D} (h1 : XB B X x1 Γ (.list xs)) (h2 : XB B X x2 Γ (.list ys)) (hz : xs.length + ys.length ≤ sizeLine) : XO B X (.BinOp x1 .Add x2 pos) Γ (.list (xs ++ ys)) := xo_bin op_catR h1 h2 fun F H a b s p1 p2 Q q => by
  obtain ⟨c1, vs, rfl, g1, l1⟩ := p1.list s
  obtain ⟨c2, ws, rfl, g2, l2⟩ := p2.list s
  exact ⟨c1, c2, vs, ws, rfl, rfl, g1, g2, by rw [l1.length, l2.length]; exact hz, fun p np => q p F _ (.new s np) np (notIn s np) (.lst upd_same (l1.append l2))⟩
/-- xs[::-1], a list -/
theorem xo_revL {j : Nat} (h : XB B X e Γ (.list ds)) : XO B X (.Subscript e (.Slice none none (some (.UnaryOp .USub (.Constant (.int 1) j p1) p2)) p3) pos) Γ (.list ds.reverse) := xo_of (pe_revL pe_s) fun F σ H r Q q => h F σ H r _ fun v F1 H1 y1 p1 => by
  obtain ⟨c, xs, rfl, g, l⟩ := p1.list y1.sub
  exact ⟨c, xs, rfl, .inl g, fun p np => q p F1 _ (y1.trans (.new y1.sub np)) (y1.free r.sub np) (notIn y1.sub np) (.lst upd_same l.reverse)⟩
/-- w[::-1], a text -/
theorem rev_picked (z : Str) (tk : Tok) : (PySem.slicePicked z none none (some (-1, tk))).filterMap (z.cps[·]?) = z.cps.toList.reverse := by
  show (sliceRange ((z.length : Int) - 1) (-1) (-1)).filterMap (z.cps[·]?) = _
  rw [PySem.W.krv_sliceRange, PySem.W.krv_range, List.filterMap_reverse, show z.length = z.cps.size from rfl, PySem.W.krv_all]
theorem pe_revS {te : TE} {j : Nat} (he : PE X e te) : PE X (.Subscript e (.Slice none none (some (.UnaryOp .USub (.Constant (.int 1) j p1) p2)) p3) pos) (fun σ H Q => te σ H fun x H1 => ∃ z, x = .str z ∧ z.length ≤ sizeLine ∧ Q (.str (S z.cps.toList.reverse)) H1) := by
  refine ⟨fun pins s σ H Q I h => ?_⟩
  refine Subscript_ (thn (he.run pins s σ H _ I h) fun a s1 ⟨x, H1, I1, r1, q1⟩ => ?_)
  obtain ⟨z, ex, hz, q⟩ := q1
  subst ex
  obtain ⟨t, rfl⟩ := r1
  have hst : PO X (some (.UnaryOp .USub (.Constant (.int 1) j p1) p2)) (tPart (tUn (rU fun i => .int (-i)) (tC (.int 1)))) := po_some (pe_un un_neg pe_int)
  refine wpAny_Slice (thn (po_none.run pins s1 σ H1 (fun o H2 => o = none ∧ H2 = H1) I1 ⟨rfl, rfl⟩) fun vl s2 h2 => ?_)
  obtain ⟨l, H2, I2, pl, el, e2⟩ := h2
  subst el e2
  refine thn (po_none.run pins s2 σ H2 (fun o H3 => o = none ∧ H3 = H2) I2 ⟨rfl, rfl⟩) fun vu s3 h3 => ?_
  obtain ⟨u, H3, I3, pu, eu, e3⟩ := h3
  subst eu e3
  refine thn (hst.run pins s3 σ H3 (fun o H4 => o = some (-1) ∧ H4 = H3) I3 ⟨1, rfl, -1, rfl, rfl, rfl⟩) fun vs s4 h4 => ?_
  obtain ⟨o, H4, I4, ps, eo, e4⟩ := h4
  subst eo e4
  have I5 : Inv X pins σ H4 { s4 with heap := s4.heap.push { cls := .type "slice", data := .fields #[vl, vu, vs] } } := I4.kept (t' := s4.toks) fun b ob q => Heap.get?_push_of_some _ q
  have part0 : ∀ {v : Value}, PySem.IsPart v none → v = .none := fun h => by cases h; rfl
  have part1 : ∀ {v : Value} {i : Int}, PySem.IsPart v (some i) → ∃ tk, v = .int i tk := fun h => by cases h; exact ⟨_, rfl⟩
  obtain rfl := part0 pl
  obtain rfl := part0 pu
  obtain ⟨tk, rfl⟩ := part1 ps
  show wpAny (model X.prog X.w) X.A (subscriptTail e (.Slice none none (some (.UnaryOp .USub (.Constant (.int 1) j p1) p2)) p3) (.str z t) (.ref s4.heap.objs.size)) (EP X pins σ Q) X.xe { s4 with heap := s4.heap.push { cls := .type "slice", data := .fields #[.none, .none, .int (-1) tk] } }
  refine tail_any (ops := [.str z t, .ref s4.heap.objs.size]) (typeIs_str _ z t) (PySem.F.slot_str_getitem.lookup) ?_ (by with_unfolding_all rfl)
  refine PySem.wpAny_getItem_str_slice (l := none) (u := none) (st := some (-1, tk)) ⟨_, Heap.get?_push_size _ rfl, rfl, rfl⟩ rfl ?_
  have hrev : (S z.cps.toList.reverse).length ≤ sizeLine := by rw [S_len, List.length_reverse]; exact hz
  unfold PySem.sliceMade
  rw [if_neg (by simp), rev_picked]
  exact ⟨hrev, .str _, H4, I5.tok _, ⟨_, rfl⟩, q⟩
theorem xf_revW {j : Nat} (h : XB B X e Γ (eW w)) (hz : w.length ≤ sizeLine) : XF B X (.Subscript e (.Slice none none (some (.UnaryOp .USub (.Constant (.int 1) j p1) p2)) p3) pos) Γ (eW w.reverse) := xf_of (pe_revS pe_s) fun F σ H r Q q => h F σ H r _ fun v F1 H1 y1 p1 => by
  rw [p1.str]
  refine ⟨_, rfl, by rw [S_len]; exact hz, ?_⟩
  rw [S_tl]
  exact q _ F1 H1 y1 (.str _)
/-- dict(xs) of an empty list -/
theorem xo_dict0 (h : XB B X e Γ (.list [])) (hm : X.mg "dict" = none) (hc : X.calm = true := by rfl) (hg : Gl X "dict" := by rfl) (he : starEach [e] X.env = (false, eval e X.env) :: starEach [] X.env := by rfl) : XO B X (.Call (.Name "dict" p) [e] [] pos) Γ (.dK []) :=
  xo_callT (call_dictP hc) hm (by decide +kernel) (xa_cons h xa_nil he) (fun F H vs s l Q q => by
    obtain ⟨v, rfl, pv⟩ := l.one
    obtain ⟨a, xs, rfl, g, lx⟩ := pv.list s
    cases lx
    exact ⟨a, [], [], rfl, .inl g, .nil, fun c nc => q c F _ (.new s nc) nc (notIn s nc) (.dK upd_same .nil)⟩) hg (he := he)
end

/-! ### raise -/
def spInit (K : PySem.W.Frag) (C : Addr) : Sp := fun vs H Q _ => ∃ (a : Addr) (n : Int), vs = [.ref a, .int n] ∧ OexC K C ∧ PySem.W.findIn K (.ref C) "at" = some none ∧ H a = some (exo a C none) ∧ ∀ dx, H dx = none → dx ≠ a → Q .non (upd (upd H dx (exd dx [("at", .int n)])) a (exo a C (some dx)))
/-- a class of exceptions with a number -/
structure Exn (P : Program) (w : World) (K : PySem.W.Frag) (mg : Str → Option Value) (base : Heap) (x : Str) (C : Addr) : Prop where
  cls : OexC K C
  at_ : PySem.W.findIn K (.ref C) "at" = some none
  mg_ : mg x = some (.ref C)
  ini : ∃ (fI : Addr) (fd : FuncData) (ps : List Str), PySem.W.findIn K (.ref C) "__init__" = some (some (.ref fI)) ∧ PySem.W.typeIn K (.ref fI) = some (.type "function") ∧ FnOk P w K mg base (L2.CX P w) 1 fI fd ps (spInit K C) ∧ Binds K fd ps []
section
variable {B : Bs} {X : Cx} {e o x1 x2 x3 : Expr} {es : List Expr} {Γ : Gm} {R : Po} {d : D} {ds es' : List D} {pos pos' p p1 p2 p3 pn apos : Pos} {k m : Nat} {x : Str} {C : Addr} {n : Int} {P : Addr → Int → Gm → Prop}
theorem raise_heap {H : Hp} {a C dx : Addr} {n : Int} (ha : H a = none) (ne : dx ≠ a) : upd (del (upd (upd (upd H a (exo a C none)) dx (exd dx [("at", .int n)])) a (exo a C (some dx))) a) dx (.xd [("at", .int n)]) = upd H dx (.xd [("at", .int n)]) := by
  funext b
  by_cases hb : b = dx
  · rw [hb, upd_same, upd_same]
  · rw [upd_ne hb, upd_ne hb]
    by_cases hc : b = a
    · rw [hc, del_same, ha]
    · rw [del_ne hc, upd_ne hc, upd_ne hb, upd_ne hc]
theorem w1_raise (E : Exn X.prog X.w X.K X.mg X.base x C) (hr : Room 2 X.A) (h1 : XB B X e Γ (.int n)) (hl : Lets B X P) (hp : P C n Γ) (hc : X.calm = true := by rfl) (hg : Gl X x := by rfl)
    (hdb : (x == ("__debug__" : Str)) = false := by decide) (he : starEach [e] X.env = (false, eval e X.env) :: starEach [] X.env := by rfl) : W1 B X (.Raise (some (.Call (.Name x p) [e] [] pos)) none pos') Γ R := by
  obtain ⟨W, tk, hW⟩ := hl
  obtain ⟨fI, fd, ps, i1, i2, F1, hb⟩ := E.ini
  refine w1_of (ps_raise hc tk (pmk_oex E.cls i1 i2 F1 hr hb .nil (fun _ _ _ _ _ _ _ c => (cx_no c).elim) hg E.mg_ pa_s hdb he rfl)) ?_
  intro F σ H r D f
  refine (xa_cons h1 xa_nil he) F σ H r _ ?_
  intro vs F1' H1 y1 l1
  obtain ⟨v, rfl, pv⟩ := l1.one
  rw [pv.int]
  refine ⟨by simp, ?_⟩
  intro a na
  refine ⟨a, n, rfl, E.cls, E.at_, upd_same, ?_⟩
  intro dx ndx nea
  rw [upd_ne nea] at ndx
  refine ⟨rfl, dx, [("at", .int n)], upd_same, ?_, ndx, ?_⟩
  · rw [upd_ne nea, upd_same]
  · rw [raise_heap na nea]
    exact hW F1' σ _ Γ C dx n (r.ext (y1.trans (.new y1.sub ndx))) upd_same hp
end

/-! ### try -/
section
variable {B : Bs} {X : Cx} {e o x1 x2 x3 : Expr} {es : List Expr} {body suite : List Stmt} {b₀ : Stmt} {Γ : Gm} {R : Po} {d : D} {ds es' : List D} {pos pos' p p1 p2 p3 pn np apos : Pos} {k m i : Nat} {x z : Str} {C : Addr} {n : Int} {Pout : Addr → Int → Gm → Prop} {c : Value}
def sTry (X : Cx) (body : List Stmt) (W : WX) : TS := fun D σ H => ∀ (pn : List (Addr × Obj)) (xe : Value → Shared → Prop), Takes (X.tr pn xe) W → PassesOwn (model X.prog X.w) X.A X.env xe → sSs (X.tr pn xe) body D σ H
def sSui (X : Cx) (suite : List Stmt) (a : Addr) (cls : Value) (d : Option Addr) : TS := fun D σ H => ∀ (oe : Obj) (pn : List (Addr × Obj)), Zc cls d oe → (∃ vs, oe.data = .fields vs) → sSs (X.suite a ((a, oe) :: pn)) suite D σ H
theorem pss_try {pn : List (Addr × Obj)} {xe : Value → Shared → Prop} {W : WX} (tk : Takes (X.tr pn xe) W) (hp : PassesOwn (model X.prog X.w) X.A X.env xe) : PSs (X.tr pn xe) body (sTry X body W) := ⟨fun pins s σ H D I h => h pn xe tk hp pins s I⟩
theorem pss_sui {a : Addr} {oe : Obj} {cls : Value} {d : Option Addr} {pn : List (Addr × Obj)} (hz : Zc cls d oe) (hv : ∃ vs, oe.data = .fields vs) : PSs (X.suite a ((a, oe) :: pn)) suite (sSui X suite a cls d) := ⟨fun pins s σ H D I h => h oe pn hz hv pins s I⟩
/-- what the clause takes and hands on -/
def Hand (B : Bs) (X : Cx) (c : Value) (i : Nat) (suite : List Stmt) (Pout : Addr → Int → Gm → Prop) (R : Po) : Addr → Int → Gm → Prop := fun C n Γ' =>
  ∃ b, PySem.W.exmOne X.K (.ref C) c = some b ∧ (b = true → ∀ (a d : Addr) (oe : Obj) (pn : List (Addr × Obj)), Zc (.ref C) (some d) oe → (∃ vs, oe.data = .fields vs) →
    WP B (X.suite a ((a, oe) :: pn)) suite (Γ'.set i (.xc a d n)) { nx := fun Γ'' => R.nx (Γ''.set i .no), rt := R.rt, ro := R.ro, bk := fun Γ'' => R.bk (Γ''.set i .no), ct := fun Γ'' => R.ct (Γ''.set i .no) }) ∧ (b = false → Pout C n Γ')
theorem StR.setXc {F H : Hp} {σ : L2.St} (r : StR B F σ H Γ) (i : Nat) {a d : Addr} {n : Int} (h : H d = some (.xd [("at", .int n)])) : StR B F (σ.set i (some (.ref a))) H (Γ.set i (.xc a d n)) := by
  refine ⟨r.ex, r.zn, by rw [List.length_set, List.length_set, r.len], ?_, ?_⟩
  · intro j c e
    by_cases hj : i = j
    · subst hj
      by_cases hi : i < Γ.length
      · rw [List.getElem?_set_self hi] at e
        cases e
        exact ⟨List.getElem?_set_self (by rw [r.len]; exact hi), h⟩
      · rw [List.getElem?_eq_none (by rw [List.length_set]; omega)] at e
        cases e
    · rw [List.getElem?_set_ne hj] at e ⊢
      exact r.sl j c e
  · intro j k p d1 d2 e1 e2 e3 e4
    have ne : ∀ (k : Nat) (d0 : D), (Γ.set i (Cl.xc a d n))[k]? = some (.ow d0) → i ≠ k := by
      intro k d0 e z
      subst z
      by_cases hi : i < Γ.length
      · rw [List.getElem?_set_self hi] at e; cases e
      · rw [List.getElem?_eq_none (by rw [List.length_set]; omega)] at e; cases e
    have n1 := ne j d1 e1
    have n2 := ne k d2 e2
    rw [List.getElem?_set_ne n1] at e1 e3
    rw [List.getElem?_set_ne n2] at e2 e4
    exact r.inj j k p d1 d2 e1 e2 e3 e4
def Bs.at_ (B : Bs) (F : Hp) : Bs := ⟨B.F, B.H, B.sub, fun F' => B.Z F' ∧ SameL F F', fun F1 F2 h s => ⟨B.mono F1 F2 h.1 s, h.2.trans s⟩⟩
theorem StR.up {F F0 H : Hp} {σ : L2.St} (r : StR B F σ H Γ) (s : SameL F0 F) : StR (B.at_ F0) F σ H Γ := ⟨r.ex, ⟨r.zn, s⟩, r.len, fun i c e => by
  have q := r.sl i c e
  cases c <;> exact q, r.inj⟩
theorem StR.dn {F F0 H : Hp} {σ : L2.St} (r : StR (B.at_ F0) F σ H Γ) : StR B F σ H Γ := ⟨r.ex, r.zn.1, r.len, fun i c e => by
  have q := r.sl i c e
  cases c <;> exact q, r.inj⟩
theorem w1_try (hs : X.stack = X.env :: X.outer) (hf : X.env.frame = some X.env.locals) (hN : X.N.Nodup) (hl : Lets B X Pout)
    (hb : ∀ (B' : Bs) (pn : List (Addr × Obj)) (xe : Value → Shared → Prop), Lets B' (X.tr pn xe) (Hand B' X c i (b₀ :: suite) Pout R) → PassesOwn (model X.prog X.w) X.A X.env xe → WP B' (X.tr pn xe) body Γ R)
    (hc : Names X x c) (hi : X.N[i]? = some z := by rfl) (hln : X.env.kindOf z = some .local := by rfl) : W1 B X (.Try body [.ExceptHandler (some (.Name x np)) (some z) (b₀ :: suite) pos'] [] [] pos) Γ R := by
  obtain ⟨Wout, tk, hW⟩ := hl
  refine w1_of (ps_try_as (tb := fun W => sTry X body W) (ts := sSui X (b₀ :: suite)) hs hf hN hi hln hc tk (fun W pn xe t hp => pss_try t hp) (fun a oe cls d pn hz hv => pss_sui hz hv)) ?_
  intro F σ H r D f pn xe t hp
  have fit : ∀ F1, SameL F F1 → Fits (B.at_ F) F1 R D := fun F1 s1 => ⟨fun F' σ' H' Γ' k r' h => f.nx F' σ' H' Γ' (s1.trans k) r'.dn h, fun F' H' v d k x p h => f.rt F' H' v d (s1.trans k) x p h,
    fun F' H' p d k x n n' o h => f.ro F' H' p d (s1.trans k) x n n' o h, fun F' σ' H' Γ' k r' h => f.bk F' σ' H' Γ' (s1.trans k) r'.dn h, fun F' σ' H' Γ' k r' h => f.ct F' σ' H' Γ' (s1.trans k) r'.dn h⟩
  refine hb (B.at_ F) pn xe ⟨_, t, ?_⟩ hp F σ H (r.up (SameL.refl F)) D (fit F (SameL.refl F))
  intro F' σ' H' Γ' C d n r' hd hh
  obtain ⟨b, e1, h1, h2⟩ := hh
  refine ⟨b, e1, ?_, fun eb => hW F' σ' H' Γ' C d n r'.dn hd (h2 eb)⟩
  intro eb a na oe pn' hz hv
  have ft := fit F' r'.zn.2
  refine h1 eb a d oe pn' hz hv F' _ H' (r'.setXc i hd) _ ⟨?_, ft.rt, ft.ro, ?_, ?_⟩
  · intro F2 σ2 H2 Γ2 k r2 h
    exact ft.nx F2 _ H2 _ k (r2.setNo i none) h
  · intro F2 σ2 H2 Γ2 k r2 h
    exact ft.bk F2 _ H2 _ k (r2.setNo i none) h
  · intro F2 σ2 H2 Γ2 k r2 h
    exact ft.ct F2 _ H2 _ k (r2.setNo i none) h
end

/-! ### what a caught exception says -/
section
variable {B : Bs} {X : Cx} {e o : Expr} {Γ : Gm} {pos p p1 p2 pn' apos : Pos} {i : Nat} {x z f : Str} {C a d : Addr} {n : Int} {oe : Obj} {pn : List (Addr × Obj)}
/-- e.at -/
theorem xf_at (i : Nat) (T : XfC X.K C) (hno : PySem.W.findIn X.K (.ref C) f = some none) (hz : Zc (.ref C) (some d) oe) (hv : ∃ vs, oe.data = .fields vs) (e0 : Γ[i]? = some (.xc a d n)) (ef : f = "at" := by rfl) (hN : X.N[i]? = some z := by rfl) (hvi : Vis X.env.scope z := by first | exact Or.inl rfl | exact Or.inr (Or.inl rfl) | exact Or.inr (Or.inr rfl))
    (h1 : (z == ("__debug__" : Str)) = false := by decide) (h2 : (z == ("__classdict__" : Str)) = false := by decide) (hb : attributeBase (.Name z p) f X.env (eval (.Name z p) X.env) = eval (.Name z p) X.env := by rfl) :
    XF B (X.suite a ((a, oe) :: pn)) (.Attribute (.Name z p) f pos) Γ (.int n) := xf_of (pe_xf T hno hz hv (pe_var (X := X.suite a ((a, oe) :: pn)) hN hvi h1 h2) hb) fun F σ H r Q q => by
  obtain ⟨g1, g2⟩ := r.sl i _ e0
  refine ⟨_, g1, rfl, rfl, d, _, .int n, rfl, g2, ?_, q _ F H (.refl r.sub) (.int n)⟩
  rw [ef]
  rfl
theorem same_ans {x t : Value} {S : Heap → Prop} (ty : ∀ (M : Model) (h : Heap), S h → PySem.W.Looks M h (typeOf x) t) : PySem.Answers (fun s => S s.heap) x t true := by
  intro dep tk prog w A R s hs
  obtain ⟨h0, g, dr, tt, os⟩ := s
  obtain ⟨p, hq⟩ := hs
  have LT := ty (model prog w) h0 p
  unfold PySem.Builtin.«isinstance.nested»
  refine wpAny_bind (LT.at ?_)
  rw [if_pos (beq_self_eq_true t)]
  exact wpAny_bind (wpAny_rule (wpAny_pure (hq tt)))
def rIsX (a C : Addr) : List V → Hp → VK → Prop := fun xs H Q => xs = [.ref a, .ref C] ∧ Q (.bl true) H
theorem call_isX (hz : Zc (.ref C) (some d) oe) : CallR (X.suite a ((a, oe) :: pn)) (.builtin "isinstance") (rIsX a C) := by
  intro pins s σ H xs us Q I r h
  obtain ⟨rfl, q⟩ := h
  obtain ⟨u1, u2, rfl, r1, r2⟩ := vals2 r
  cases r1
  cases r2
  obtain ⟨hget, _⟩ := I.pin (a, oe) (List.mem_append.mpr (.inl List.mem_cons_self))
  refine PySem.call_isinstance (S := fun _ R s => s.heap.get? a = some oe ∧ ∀ tk, R (.ok (.ret (.bool true))) { s with toks := tk }) ?_ ⟨hget, fun tk => ⟨.bl true, H, I.kept (t' := tk) fun _ _ z => z, rfl, q⟩⟩
  intro prog w A R s hs
  refine PySem.isinstance_outer (same_ans (S := fun h => h.get? a = some oe) (fun M h g => ?_) 0 _ prog w A R s hs) (fun z => nomatch z)
  have e := hz.1
  rw [← e]
  exact (PySem.W.Looks.ld g).andThen .now
/-- isinstance(e, C), e an instance of just C -/
theorem xf_isX (i : Nat) (hz : Zc (.ref C) (some d) oe) (e0 : Γ[i]? = some (.xc a d n)) (hmC : X.mg x = some (.ref C)) (hm : X.mg "isinstance" = none) (hg : Gl X "isinstance" := by rfl) (hgC : Gl X x := by rfl) (hN : X.N[i]? = some z := by rfl) (hvi : Vis X.env.scope z := by first | exact Or.inl rfl | exact Or.inr (Or.inl rfl) | exact Or.inr (Or.inr rfl))
    (h1 : (z == ("__debug__" : Str)) = false := by decide) (h2 : (z == ("__classdict__" : Str)) = false := by decide) (h3 : (x == ("__debug__" : Str)) = false := by decide) (he : starEach [.Name z p1, .Name x p2] X.env = (false, eval (.Name z p1) X.env) :: starEach [.Name x p2] X.env := by rfl)
    (he2 : starEach [.Name x p2] X.env = (false, eval (.Name x p2) X.env) :: starEach [] X.env := by rfl) (hpl : (backTo pos (starEach [.Name x p2] X.env)).any (·.1) = false := by rfl) : XF B (X.suite a ((a, oe) :: pn)) (.Call (.Name "isinstance" p) [.Name z p1, .Name x p2] [] pos) Γ (.bool true) :=
  xf_of (pe_callB (call_isX hz) hg hm (by decide +kernel) (pa_cons (pe_var (X := X.suite a ((a, oe) :: pn)) hN hvi h1 h2) (pa_cons (pe_glob (v := .ref C) (u := .ref C) hgC hmC rfl h3) pa_nil he2) he) (by decide) (by decide) he hpl) fun F σ H r Q q => by
    obtain ⟨g1, g2⟩ := r.sl i _ e0
    exact ⟨_, g1, rfl, q _ F H (.refl r.sub) (.bl _)⟩
end
end G

/-! ## GL: the head: what is seen of the top; the law's call -/
namespace G
open PySem PySem.Spec PyProof.Rows L2

/-! ### an exception class with its own __init__, by a test -/
def oexB (K : PySem.W.Frag) (C : Addr) : Bool := (match K.lookup C with
  | some ⟨.type "type", _, .cls ⟨_, _, .ref C' :: bm, _, _, true, _, _, _, _, false⟩, ⟨[_, _, _, _, some (.builtin "ValueError.__new__"), _]⟩⟩ => C' == C && PySem.HandSPX.refsVE bm
  | _ => false) && decide (PySem.W.findIn K (.ref C) "__setattr__" = some (some (.builtin "object.__setattr__"))) && decide (PySem.W.subIn K (.ref C) (.type "BaseException") = some true) &&
  decide (PySem.W.typeIn K (.ref C) = some (.type "type")) && PySem.W.keepIn K (.ref C)
theorem oexB_ok {K : PySem.W.Frag} {C : Addr} (h : oexB K C = true) : OexC K C := by
  unfold oexB at h
  obtain ⟨h, h5⟩ := Bool.and_eq_true_iff.mp h
  obtain ⟨h, h4⟩ := Bool.and_eq_true_iff.mp h
  obtain ⟨h, h3⟩ := Bool.and_eq_true_iff.mp h
  obtain ⟨h1, h2⟩ := Bool.and_eq_true_iff.mp h
  refine ⟨?_, of_decide_eq_true h2, of_decide_eq_true h3, of_decide_eq_true h4, h5⟩
  split at h1
  · rename_i dd nm bs C' bm N qn sn sub ab col k0 k1 k2 k3 k5 e
    obtain ⟨a1, a2⟩ := Bool.and_eq_true_iff.mp h1
    obtain rfl := beq_iff_eq.mp a1
    exact ⟨nm, qn, N, bs, bm, sn, sub, ab, col, dd, k0, k1, k2, k3, k5, e, a2⟩
  · cases h1

/-! ### the Hook -/
/-- the module's part of the heap, without lists -/
def noL (K : PySem.W.Frag) : PySem.W.Frag := K.filter fun p => match p.2.cls with
  | .type "list" => false
  | _ => true
theorem look_filter (f : Addr × Obj → Bool) : ∀ (K : PySem.W.Frag) {a : Addr} {o : Obj}, (K.filter f).lookup a = some o → ∃ o', (a, o') ∈ K ∧ f (a, o') = true ∧ o' = o
  | [], _, _, e => nomatch (show (none : Option Obj) = some _ from e)
  | (b, ob) :: r, a, o, e => by
    rw [List.filter_cons] at e
    by_cases hf : f (b, ob) = true
    · rw [if_pos hf] at e
      have e2 : (match a == b with | true => some ob | false => (r.filter f).lookup a) = some o := e
      cases q : (a == b) with
      | true =>
        rw [q] at e2
        have eb := beq_iff_eq.mp q
        subst eb
        exact ⟨ob, List.mem_cons_self, hf, Option.some.inj e2⟩
      | false =>
        rw [q] at e2
        obtain ⟨o', m, h1, h2⟩ := look_filter f r e2
        exact ⟨o', List.mem_cons_of_mem _ m, h1, h2⟩
    · rw [if_neg hf] at e
      obtain ⟨o', m, h1, h2⟩ := look_filter f r e
      exact ⟨o', List.mem_cons_of_mem _ m, h1, h2⟩
theorem mem_frG {g : Addr → Option Obj} {as : List Addr} {a : Addr} {o : Obj} (h : (a, o) ∈ He.frG g as) : g a = some o := by
  unfold He.frG at h
  obtain ⟨b, _, e⟩ := List.mem_filterMap.mp h
  obtain ⟨o', e1, e2⟩ := Option.map_eq_some_iff.mp e
  cases e2
  exact e1
def hookG (n : Nat) (fa : List He.Fa) (fn : List He.DefD) (ex : PySem.W.Frag → Bool) : PySem.W.Hook where
  α := He.AlD × Bool
  obs := fun s => (He.obsD fa fn (noL (He.frG s.heap.get? (He.asD s.heap.get? n))), ex (noL (He.frG s.heap.get? (He.asD s.heap.get? n))))
  val := fun _ => (He.valD fn, true)
  says := fun _ h => ∃ K : PySem.W.Frag, K.In h ∧ He.SaysD fa fn K ∧ ex K = true ∧ ∀ a o, K.lookup a = some o → o.cls ≠ .type "list"
  of := fun _ s e => by
    refine ⟨noL (He.frG s.heap.get? (He.asD s.heap.get? n)), ?_, congrArg (fun z : He.AlD × Bool => z.1) e, congrArg (fun z : He.AlD × Bool => z.2) e, ?_⟩
    · intro a o h
      obtain ⟨o', m, _, rfl⟩ := look_filter _ _ h
      exact mem_frG m
    · intro a o h z
      obtain ⟨o', m, hf, rfl⟩ := look_filter _ _ h
      dsimp only at hf
      rw [z] at hf
      cases hf
  keeps := fun _ _ _ ⟨K, hK, c, d, l⟩ k => ⟨K, PySem.W.Frag.In.keeps hK k, c, d, l⟩
def obG (n : Nat) (fa : List He.Fa) (fn : List He.DefD) (ex : PySem.W.Frag → Bool) (g : Addr → Option Obj) : He.AlD × Bool := (He.obsD fa fn (noL (He.frG g (He.asD g n))), ex (noL (He.frG g (He.asD g n))))
theorem obG_eq {n : Nat} {fa : List He.Fa} {fn : List He.DefD} {ex : PySem.W.Frag → Bool} {g : Addr → Option Obj} {s : Shared} (h : ∀ a, g a = s.heap.get? a) : obG n fa fn ex g = (hookG n fa fn ex).obs s := by
  have e : g = s.heap.get? := funext h
  rw [e] <;> rfl

/-! ### the law's call -/
theorem law_runG {P : Program} {w : World} {K : PySem.W.Frag} {mg mb : Str → Option Value} {k : Nat} {fa a : Addr} {fd : FuncData} {x : Str} {sp : Sp} {s₁ : Shared} {vs : List Value} {ns : List Int}
    (KX : K.In s₁.heap) (nl : ∀ b o, K.lookup b = some o → o.cls ≠ .type "list") (hns : s₁.heap.Ns mainGlobals mg) (hb : s₁.heap.Ns builtinsNs mb) (hbb : ∀ x : Str, x ≠ "__name__" → mb x = bootBuiltins x) (hlim : s₁.heap.NoLimit) (hg : s₁.gens = #[])
    (ha : s₁.heap.get? a = some { cls := .type "list", data := .seq vs.toArray }) (hi : IntsAre vs ns) (hl : ns.length ≤ sizeLine) (hr : Rm k callerA)
    (F : ∀ base : Heap, K.In base → base.Ns mainGlobals mg → FnG P w K mg base k fa fd [x] sp) (hbind : ∀ (s : Shared) (u : Value), BindsTo s fd ⟨[u], []⟩ [(x, u)])
    (hsp : ∀ (H : Hp) (o : Obj), H a = some (.frz o (.lst (ns.map V.int))) → sp [.ref a] H (fun v _ => v = .bl true) E0) :
    codeAny (model P w) callerA (.call (.ref fa) ⟨[.ref a], []⟩) (fun r s' => r = .ok (.ret (.bool true)) ∧ OldK s₁.heap s'.heap ∧ s'.os = s₁.os ∧ AllBare s'.gens) s₁ := by
  have rv := vals_ints hi
  have lenV := hi.length
  have nK : K.lookup a = none := by
    cases e : K.lookup a with
    | none => rfl
    | some o =>
      have e2 := KX a o e
      rw [ha] at e2
      cases e2
      exact absurd rfl (nl a _ e)
  let ob : Obj := { cls := .type "list", data := .seq vs.toArray }
  let H : Hp := fun b => if b = a then some (.frz ob (.lst (ns.map V.int))) else none
  have Ha : H a = some (.frz ob (.lst (ns.map V.int))) := if_pos rfl
  have Hn : ∀ b, b ≠ a → H b = none := fun b hb => if_neg hb
  have hok : HOk P w H s₁.heap := by
    intro b u z
    by_cases hb : b = a
    · subst hb
      rw [Ha] at z
      cases z
      exact ⟨ha, by rw [List.length_map]; exact hl, vs, _, rv, ha⟩
    · rw [Hn b hb] at z
      cases z
  have hid : ∀ {b : Addr} {o : Obj}, s₁.heap.get? b = some o → b ≠ a → (hidT s₁.heap H).get? b = some o := fun e n => hidT_get e (Hn _ n)
  have dictNe : ∀ {b : Addr} {o : Obj} {es : Array DictEntry} {ep : Nat}, s₁.heap.get? b = some o → o.data = .dict es ep → b ≠ a := by
    intro b o es ep e d z
    subst z
    rw [ha] at e
    cases e
    cases d
  have nsK : ∀ {b : Addr} {m : Str → Option Value}, s₁.heap.Ns b m → (hidT s₁.heap H).Ns b m := by
    intro b m n
    obtain ⟨o, es, ep, e, d, r⟩ := n
    exact ⟨o, es, ep, hid e (dictNe e d), d, r⟩
  have hKb : K.In (hidT s₁.heap H) := by
    intro b o e
    refine hid (KX b o e) ?_
    intro z
    rw [z, nK] at e
    cases e
  have hM : Mod K mg (hidT s₁.heap H) := by
    refine ⟨hKb, nsK hns, ⟨mb, nsK hb, hbb⟩, ?_⟩
    obtain ⟨mc, h1, h2⟩ := hlim
    exact ⟨mc, nsK h1, h2⟩
  have e0 : Env0 P w K mg (hidT s₁.heap H) callerA [] s₁ H := ⟨rfl, hM, fun b o e => of_hidT e, Nat.le_of_eq (hidT_size _ _), True.intro, fun b hb => absurd (show b ∈ ([] : List Addr) from hb) (by simp), hok, .of_eq hg⟩
  refine codeAny_mono ((F _ hKb (nsK hns)).run callerA [] s₁ H ⟨[.ref a], []⟩ [.ref a] [.ref a] _ E0 hr e0 (hbind s₁ (.ref a)) (.cons rfl .nil) (hsp H ob Ha)) ?_
  intro r s' h
  cases r with
  | error e => exact (cx_no h).elim
  | ok fl =>
    cases fl with
    | next => exact False.elim h
    | brk => exact False.elim h
    | cont => exact False.elim h
    | ret u =>
      obtain ⟨v, H', os, bare, un, hok', r', q⟩ := h
      have q' : v = .bl true := q
      subst q'
      obtain rfl : u = Value.bool true := r'
      refine ⟨rfl, OldK.of_keep ?_, os, bare⟩
      intro b o e
      by_cases hb : b = a
      · subst hb
        obtain ⟨e2, _⟩ := hok' b _ (un.frzs b ob _ Ha)
        rw [ha] at e
        cases e
        exact e2
      · exact un.keep b o e (Hn b hb) (by intro z; exact absurd (show b ∈ ([] : List Addr) from z) (by simp)) (by simp)
theorem walk_G {l : PySem.W.OpenLaw} {n k : Nat} {q : Program} {loose : List Str} {XP : (Str → Option Value) → Heap → Prop} {fas : List He.Fa} {fns : List He.DefD} {ex : PySem.W.Frag → Bool} {m : Nat} {d : DefRec} {x : Str}
    (hn : l.most = some n) (hn2 : n ≤ sizeLine) (hdf : d.params.defaults = []) (hr : Rm k callerA)
    (F : ∀ (w : World) (K : PySem.W.Frag) (mg : Str → Option Value) (fa : Addr) (h : Heap), K.In h → He.SaysD fas fns K → ex K = true → h.Ns mainGlobals mg → mg d.name = some (.ref fa) →
      ∃ (fd : FuncData) (sp : Sp), (∀ (s : Shared) (u : Value), BindsTo s fd ⟨[u], []⟩ [(x, u)]) ∧
        (∀ (H : Hp) (a : Addr) (o : Obj) (ns : List Int), ns.length ≤ n → H a = some (.frz o (.lst (ns.map V.int))) → sp [.ref a] H (fun v _ => v = .bl true) E0) ∧
        ∀ base : Heap, K.In base → base.Ns mainGlobals mg → FnG l.prog w K mg base k fa fd [x] sp) :
    PySem.W.WalkO q loose XP (hookG m fas fns ex).says l.row.toRowW d [] (fun f vs => PySem.call f vs) := by
  refine Att.attach_call hn hdf ?_
  intro w s₀ s₁ mg mb fa o pm cd doc a vs ns G Y ho hd hcd hmg hobj hints hlen hg
  obtain ⟨K, KX, c, e, nl⟩ := Y
  obtain ⟨fd, sp, hb, hsp, hF⟩ := F w K mg fa _ KX c e G.T.g hmg
  exact law_runG KX nl G.T.g G.T.b G.T.builtins G.T.nolimit hg hobj hints (Nat.le_trans hlen hn2) hr hF hb fun H o z => hsp H a o ns hlen z
/-- the script as data -/
theorem script_rp {H : Hp} {a : Addr} {o : Obj} {ns : List Int} (h : H a = some (.frz o (.lst (ns.map V.int)))) : RpL H [.ref a] [.list (ns.map D.int)] := .cons (.lst (.inr ⟨o, h⟩) (RpL.mapInt ns)) .nil
end G

/-! ## GM: comprehensions without tests; any, all, sum of mapped things; bounds of sizes -/
namespace G
open PySem PySem.Spec PyProof.Rows L2
theorem lt_size {n : Nat} (h : n < 16777216) : n < sizeLine := by rw [sizeLine_eq]; exact h
theorem le_size {n : Nat} (h : n ≤ 16777216) : n ≤ sizeLine := by rw [sizeLine_eq]; exact h
def Turn1 (B : Bs) (X : Cx) (scope : Scope) (tg elt : Expr) (vs : List Nat) (Γ : Gm) {α : Type} (en : α → D) (f : α → D) (x : α) : Prop :=
  ∃ (js : List Nat) (Γ1 : Gm), (∀ j ∈ js, j ∈ vs) ∧ ∀ (s0 : Shared) (H0 : Hp) (C : Addr) (cl : List (Str × Addr)) (fp : List Addr),
    XG B (X.blk s0 H0 scope (compEnvC scope cl C X.env) fp) tg (en x) (wpG Γ vs) js Γ1 ∧ XF B (X.blk s0 H0 scope (compEnvC scope cl C X.env) fp) elt Γ1 (f x)
section
variable {B : Bs} {X : Cx} {scope : Scope} {tg iter elt e : Expr} {ifs : List Expr} {Γ : Gm} {p pos spos : Pos} {α : Type} {R : Po}
theorem filt_true {xs : List α} : xs.filter (fun _ => true) = xs := List.filter_eq_self.mpr fun _ _ => rfl
theorem Turn1.turns {vs : List Nat} {en : α → D} {f : α → D} {x : α} (h : Turn1 B X scope tg elt vs Γ en f x) : Turns B X scope tg elt [] vs Γ en (fun _ => true) f x := by
  obtain ⟨js, Γ1, h1, h2⟩ := h
  refine ⟨js, Γ1, h1, ?_⟩
  intro s0 H0 C cl fp
  obtain ⟨a, b⟩ := h2 s0 H0 C cl fp
  exact ⟨a, xts_nil, fun _ => b⟩
theorem xo_map (own : List (Str × Nat)) (xs : List α) (en : α → D) (f : α → D) (hN : X.N.Nodup) (hi : XJ B X tg iter Γ (xs.map en)) (ht : ∀ x ∈ xs, Turn1 B X scope tg elt (own.map (·.2)) Γ en f x) (hz : xs.length < sizeLine)
    (ok : blkC X.N X.env.scope scope own = true := by rfl) (hc : X.calm = true := by rfl) (hs : ∀ x, foldedSetIterable iter X.env x = pure x := by intro _; rfl) : XO B X (.ListComp elt [⟨tg, iter, [], 0⟩] scope pos) Γ (.list (xs.map f)) :=
  (xo_lc own xs en (fun _ => true) f hN hi (fun x hx => (ht x hx).turns) hz (blkOk_by ok) hc hs).to (by rw [filt_true])
theorem xo_filter (own : List (Str × Nat)) (xs : List α) (en : α → D) (p : α → Bool) (f : α → D) (hN : X.N.Nodup) (hi : XJ B X tg iter Γ (xs.map en)) (ht : ∀ x ∈ xs, Turns B X scope tg elt ifs (own.map (·.2)) Γ en p f x) (hz : xs.length < sizeLine)
    (ok : blkC X.N X.env.scope scope own = true := by rfl) (hc : X.calm = true := by rfl) (hs : ∀ x, foldedSetIterable iter X.env x = pure x := by intro _; rfl) : XO B X (.ListComp elt [⟨tg, iter, ifs, 0⟩] scope pos) Γ (.list ((xs.filter p).map f)) :=
  xo_lc own xs en p f hN hi ht hz (blkOk_by ok) hc hs
theorem xf_anyM {xs : List α} {g : α → Bool} (h : XB B X e Γ (.list (xs.map fun a => .bool (g a)))) (hm : X.mg "any" = none) (hc : X.calm = true := by rfl) (hg : Gl X "any" := by rfl) (he : starEach [e] X.env = (false, eval e X.env) :: starEach [] X.env := by rfl) : XF B X (.Call (.Name "any" p) [e] [] pos) Γ (.bool (xs.any g)) :=
  (xf_any (bs := xs.map g) (h.to (by rw [List.map_map]; rfl)) hm hc hg he).to (by rw [List.any_map]; rfl)
theorem xf_allM {xs : List α} {g : α → Bool} (h : XB B X e Γ (.list (xs.map fun a => .bool (g a)))) (hm : X.mg "all" = none) (hc : X.calm = true := by rfl) (hg : Gl X "all" := by rfl) (he : starEach [e] X.env = (false, eval e X.env) :: starEach [] X.env := by rfl) : XF B X (.Call (.Name "all" p) [e] [] pos) Γ (.bool (xs.all g)) :=
  (xf_all (bs := xs.map g) (h.to (by rw [List.map_map]; rfl)) hm hc hg he).to (by rw [List.all_map]; rfl)
theorem xf_sumM {xs : List α} {g : α → Int} (h : XB B X e Γ (.list (xs.map fun a => .int (g a)))) (hm : X.mg "sum" = none) (hc : X.calm = true := by rfl) (hg : Gl X "sum" := by rfl) (he : starEach [e] X.env = (false, eval e X.env) :: starEach [] X.env := by rfl) : XF B X (.Call (.Name "sum" p) [e] [] pos) Γ (.int (xs.map g).sum) :=
  xf_sum (ns := xs.map g) (h.to (by rw [List.map_map]; rfl)) hm hc hg he
theorem t1_name {vs : List Nat} {en : α → D} {f : α → D} {a : α} {x : Str} (i : Nat) (hN : X.N.Nodup) (hm : i ∈ vs) (h : ∀ (s0 : Shared) (H0 : Hp) (C : Addr) (cl : List (Str × Addr)) (fp : List Addr), XF B (X.blk s0 H0 scope (compEnvC scope cl C X.env) fp) elt ((wpG Γ vs).set i (.fr (en a))) (f a))
    (hi : X.N[i]? = some x := by rfl) (hx : Loc (PySem.relabel scope X.env) x := by first | exact Or.inl rfl | exact Or.inr rfl) (fx : (scope.names.lookup x == some .cell) = true ∨ (PySem.relabel scope X.env).names.lookup x = some .local := by first | exact .inl rfl | exact .inr rfl) : Turn1 B X scope (.Name x p) elt vs Γ en f a :=
  ⟨[i], _, fun j hj => by rw [List.mem_singleton.mp hj]; exact hm, fun s0 H0 C cl fp => ⟨xg_name i hN hi hx fx, h s0 H0 C cl fp⟩⟩
theorem t1_tup2 {vs : List Nat} {en : α → D} {f : α → D} {a : α} {x y : Str} {d1 d2 : D} {k : Nat} {q1 q2 : Pos} (i j : Nat) (hN : X.N.Nodup) (hc : X.calm = true) (hm : i ∈ vs) (hm2 : j ∈ vs) (he : en a = .tuple [d1, d2])
    (h : ∀ (s0 : Shared) (H0 : Hp) (C : Addr) (cl : List (Str × Addr)) (fp : List Addr), XF B (X.blk s0 H0 scope (compEnvC scope cl C X.env) fp) elt (((wpG Γ vs).set i (.fr d1)).set j (.fr d2)) (f a))
    (hi : X.N[i]? = some x := by rfl) (hj : X.N[j]? = some y := by rfl) (hx : Loc (PySem.relabel scope X.env) x := by first | exact Or.inl rfl | exact Or.inr rfl) (fx : (scope.names.lookup x == some .cell) = true ∨ (PySem.relabel scope X.env).names.lookup x = some .local := by first | exact .inl rfl | exact .inr rfl) (hy : Loc (PySem.relabel scope X.env) y := by first | exact Or.inl rfl | exact Or.inr rfl) (fy : (scope.names.lookup y == some .cell) = true ∨ (PySem.relabel scope X.env).names.lookup y = some .local := by first | exact .inl rfl | exact .inr rfl) : Turn1 B X scope (.Tuple [.Name x q1, .Name y q2] k p) elt vs Γ en f a := by
  refine ⟨[i, j], _, ?_, fun s0 H0 C cl fp => ⟨?_, h s0 H0 C cl fp⟩⟩
  · intro n hn
    rcases List.mem_cons.mp hn with e | e
    · rw [e]; exact hm
    · rw [List.mem_singleton.mp e]; exact hm2
  · rw [he]
    exact xg_tup (X := X.blk s0 H0 scope (compEnvC scope cl C X.env) fp) (n := 2) hc (xgs_cons (X := X.blk s0 H0 scope (compEnvC scope cl C X.env) fp) (xg_name (X := X.blk s0 H0 scope (compEnvC scope cl C X.env) fp) i hN hi hx fx)
      (xgs_cons (X := X.blk s0 H0 scope (compEnvC scope cl C X.env) fp) (xg_name (X := X.blk s0 H0 scope (compEnvC scope cl C X.env) fp) j hN hj hy fy) xgs_nil))
theorem ts_name {vs : List Nat} {en : α → D} {f : α → D} {t : α → Bool} {a : α} {x : Str} (i : Nat) (hN : X.N.Nodup) (hm : i ∈ vs) (ht : ∀ (s0 : Shared) (H0 : Hp) (C : Addr) (cl : List (Str × Addr)) (fp : List Addr), XTs B (X.blk s0 H0 scope (compEnvC scope cl C X.env) fp) ifs ((wpG Γ vs).set i (.fr (en a))) (t a))
    (h : t a = true → ∀ (s0 : Shared) (H0 : Hp) (C : Addr) (cl : List (Str × Addr)) (fp : List Addr), XF B (X.blk s0 H0 scope (compEnvC scope cl C X.env) fp) elt ((wpG Γ vs).set i (.fr (en a))) (f a))
    (hi : X.N[i]? = some x := by rfl) (hx : Loc (PySem.relabel scope X.env) x := by first | exact Or.inl rfl | exact Or.inr rfl) (fx : (scope.names.lookup x == some .cell) = true ∨ (PySem.relabel scope X.env).names.lookup x = some .local := by first | exact .inl rfl | exact .inr rfl) : Turns B X scope (.Name x p) elt ifs vs Γ en t f a :=
  ⟨[i], _, fun j hj => by rw [List.mem_singleton.mp hj]; exact hm, fun s0 H0 C cl fp => ⟨xg_name i hN hi hx fx, ht s0 H0 C cl fp, fun e => h e s0 H0 C cl fp⟩⟩
theorem ts_tup2 {vs : List Nat} {en : α → D} {f : α → D} {t : α → Bool} {a : α} {x y : Str} {d1 d2 : D} {k : Nat} {q1 q2 : Pos} (i j : Nat) (hN : X.N.Nodup) (hc : X.calm = true) (hm : i ∈ vs) (hm2 : j ∈ vs) (he : en a = .tuple [d1, d2])
    (ht : ∀ (s0 : Shared) (H0 : Hp) (C : Addr) (cl : List (Str × Addr)) (fp : List Addr), XTs B (X.blk s0 H0 scope (compEnvC scope cl C X.env) fp) ifs (((wpG Γ vs).set i (.fr d1)).set j (.fr d2)) (t a))
    (h : t a = true → ∀ (s0 : Shared) (H0 : Hp) (C : Addr) (cl : List (Str × Addr)) (fp : List Addr), XF B (X.blk s0 H0 scope (compEnvC scope cl C X.env) fp) elt (((wpG Γ vs).set i (.fr d1)).set j (.fr d2)) (f a))
    (hi : X.N[i]? = some x := by rfl) (hj : X.N[j]? = some y := by rfl) (hx : Loc (PySem.relabel scope X.env) x := by first | exact Or.inl rfl | exact Or.inr rfl) (fx : (scope.names.lookup x == some .cell) = true ∨ (PySem.relabel scope X.env).names.lookup x = some .local := by first | exact .inl rfl | exact .inr rfl) (hy : Loc (PySem.relabel scope X.env) y := by first | exact Or.inl rfl | exact Or.inr rfl) (fy : (scope.names.lookup y == some .cell) = true ∨ (PySem.relabel scope X.env).names.lookup y = some .local := by first | exact .inl rfl | exact .inr rfl) : Turns B X scope (.Tuple [.Name x q1, .Name y q2] k p) elt ifs vs Γ en t f a := by
  refine ⟨[i, j], _, ?_, fun s0 H0 C cl fp => ⟨?_, ht s0 H0 C cl fp, fun e => h e s0 H0 C cl fp⟩⟩
  · intro n hn
    rcases List.mem_cons.mp hn with e | e
    · rw [e]; exact hm
    · rw [List.mem_singleton.mp e]; exact hm2
  · rw [he]
    exact xg_tup (X := X.blk s0 H0 scope (compEnvC scope cl C X.env) fp) (n := 2) hc (xgs_cons (X := X.blk s0 H0 scope (compEnvC scope cl C X.env) fp) (xg_name (X := X.blk s0 H0 scope (compEnvC scope cl C X.env) fp) i hN hi hx fx)
      (xgs_cons (X := X.blk s0 H0 scope (compEnvC scope cl C X.env) fp) (xg_name (X := X.blk s0 H0 scope (compEnvC scope cl C X.env) fp) j hN hj hy fy) xgs_nil))
end
/-! ### dicts that keep words: found[w] = True -/
def ksD (ks : List (List Nat)) : D := .dK (ks.map fun w => (.inr (S w), .bool true))
def addW (ks : List (List Nat)) (w : List Nat) : List (List Nat) := if w ∈ ks then ks else ks ++ [w]
theorem put_ks (ks : List (List Nat)) (w : List Nat) : putM (ks.map fun w => ((.inr (S w) : Key), D.bool true)) (.inr (S w)) (.bool true) = (addW ks w).map fun w => ((.inr (S w) : Key), D.bool true) := by
  have hm : hasM (ks.map fun w => ((.inr (S w) : Key), D.bool true)) (.inr (S w)) = decide (w ∈ ks) := by
    unfold hasM
    rw [List.any_map, Bool.eq_iff_iff, List.any_eq_true, decide_eq_true_eq]
    constructor
    · rintro ⟨u, h1, h2⟩
      have e := of_decide_eq_true h2
      rw [S_inj (Sum.inr.inj e)] at h1
      exact h1
    · intro h
      exact ⟨w, h, decide_eq_true rfl⟩
  unfold putM addW
  rw [hm]
  by_cases h : w ∈ ks
  · rw [if_pos (decide_eq_true h), if_pos h, List.map_map]
    refine List.map_congr_left fun u hu => ?_
    show (if (Sum.inr (S u) : Key) = .inr (S w) then ((.inr (S u) : Key), D.bool true) else (.inr (S u), .bool true)) = _
    split <;> rfl
  · rw [if_neg (by rw [decide_eq_false h]; exact Bool.false_ne_true), if_neg h, List.map_append]
    rfl

section
variable {B : Bs} {X : Cx} {e e2 : Expr} {Γ : Gm} {R : Po} {pos pn : Pos} {x : Str} {d : D} {m : List (Key × D)}
theorem w1_addW {ks : List (List Nat)} {w : List Nat} {spos : Pos} (hu : X.A.units + 1 < cLine) (i : Nat) (e0 : Γ[i]? = some (.ow (ksD ks))) (h1 : XF B X e Γ (.bool true)) (h2 : XB B X e2 Γ (eW w)) (hz : ks.length < sizeLine) (h : R.nx (Γ.set i (.ow (ksD (addW ks w)))))
    (hN : X.N[i]? = some x := by rfl) (hv : Vis X.env.scope x := by first | exact Or.inl rfl | exact Or.inr (Or.inl rfl)) (k1 : (x == ("__debug__" : Str)) = false := by decide) (k2 : (x == ("__classdict__" : Str)) = false := by decide)
    (hs : swapsWith e (some (.Subscript (.Name x pn) e2 spos)) pos.line X.env = pure false := by rfl) : W1 B X (.Assign [.Subscript (.Name x pn) e2 spos] e pos) Γ R :=
  w1_putK (kk := .inr (S w)) hu i e0 h1 h2 (by rw [List.length_map]; exact hz) (by rw [put_ks]; exact h) hN hv k1 k2 hs
end
theorem xi_keysW {B : Bs} {X : Cx} {tg e : Expr} {Γ : Gm} {ks : List (List Nat)} (h : XF B X e Γ (ksD ks)) : XI B X tg e Γ (ks.map eW) := by
  have q := xi_keys (tg := tg) h
  rw [List.map_map] at q
  exact q
theorem xj_keysW {B : Bs} {X : Cx} {tg e : Expr} {Γ : Gm} {ks : List (List Nat)} (h : XF B X e Γ (ksD ks)) : XJ B X tg e Γ (ks.map eW) := XI.j (xi_keysW h)
theorem xj_tup {B : Bs} {X : Cx} {tg e : Expr} {Γ : Gm} {ds : List D} (h : XF B X e Γ (.tuple ds)) : XJ B X tg e Γ ds := XI.j (xi_tup h)
/-! ### loops that fold -/
section
variable {B : Bs} {X : Cx} {tg iter : Expr} {body : List Stmt} {Γ : Gm} {R : Po} {pos : Pos} {α σ : Type}
theorem w1_fold (xs : List α) (en : α → D) (st : σ → Gm → Prop) (f : σ → α → σ) (s0 : σ) (hi : XI B X tg iter Γ (xs.map en)) (h0 : st s0 Γ)
    (hs : ∀ pre a post Γ0, xs = pre ++ a :: post → st (pre.foldl f s0) Γ0 → ∃ js Γ1, XG B X tg (en a) Γ0 js Γ1 ∧ WP B X body Γ1 { nx := st (f (pre.foldl f s0) a), rt := R.rt, ro := R.ro, bk := R.nx, ct := st (f (pre.foldl f s0) a) })
    (hd : ∀ Γ0, st (xs.foldl f s0) Γ0 → R.nx Γ0) (hp : PassesOwn (model X.prog X.w) X.A X.env X.xe) (hc : X.calm = true := by rfl) (hf : ∀ x, foldedSetIterable iter X.env x = pure x := by intro _; rfl) : W1 B X (.For tg iter body [] pos) Γ R := by
  refine w1_for (fun i Γ' => st ((xs.take i).foldl f s0) Γ') hi h0 ?_ ?_ hc hp hf
  · intro i d Γ0 hd h
    rw [List.getElem?_map] at hd
    cases e : xs[i]? with
    | none => rw [e] at hd; cases hd
    | some a =>
      rw [e] at hd
      cases hd
      obtain ⟨hlt, ea⟩ := List.getElem?_eq_some_iff.mp e
      have split : xs = xs.take i ++ a :: xs.drop (i + 1) := by
        conv => lhs; rw [← List.take_append_drop i xs]
        rw [List.drop_eq_getElem_cons hlt, ea]
      have nxt : (xs.take (i + 1)).foldl f s0 = f ((xs.take i).foldl f s0) a := by
        rw [List.take_add_one, e, Option.toList_some, List.foldl_append]
        rfl
      obtain ⟨js, Γ1, h1, h2⟩ := hs _ a _ Γ0 split h
      refine ⟨js, Γ1, h1, ?_⟩
      rw [nxt]
      exact h2
  · intro Γ0 h
    rw [List.length_map, List.take_length] at h
    exact hd Γ0 h
end
theorem foldl_len {α β : Type} {f : List β → α → List β} {c : Nat} (h : ∀ ks x, (f ks x).length ≤ ks.length + c) : ∀ (l : List α) (ks : List β), (l.foldl f ks).length ≤ ks.length + c * l.length
  | [], ks => by simp
  | x :: l, ks => by
    have h1 := foldl_len h l (f ks x)
    have h2 := h ks x
    rw [List.foldl_cons, List.length_cons, Nat.mul_succ]
    omega
theorem addW_len (ks : List (List Nat)) (w : List Nat) : (addW ks w).length ≤ ks.length + 1 := by
  unfold addW
  split
  · omega
  · rw [List.length_append]; exact Nat.le_refl _
/-- range(n) as a list of numbers -/
theorem rg_map (lo : Int) (n : Nat) : rgD lo n = (List.range n).map fun i : Nat => D.int (lo + (i : Int)) := rfl

/-! ### what raises -/
/-- the expression raises: nothing behind it runs -/
def XD (B : Bs) (X : Cx) (e : Expr) (Γ : Gm) : Prop := ∀ F σ H, StR B F σ H Γ → ∀ Q : VK, sE X e σ H Q
section
variable {B : Bs} {X : Cx} {e : Expr} {es : List Expr} {tg : Expr} {Γ : Gm} {R : Po} {k m : Nat} {α : Type} {pre : α → Prop} {arg : α → List D} {res : α → Oc} {x : Str} {a : α} {d : D} {p pos pos' : Pos} {C : Addr} {n : Int}
theorem XD.f (h : XD B X e Γ) : XF B X e Γ d := fun F σ H r Q _ => h F σ H r Q
theorem xd_call {W : Addr → Int → Gm → Prop} (F : Fu X.prog X.w X.K X.mg X.base x k pre arg res) (hr : Rm m X.A) (hp : pre a) (hd : res a = .x C n) (hl : Lets B X W) (hR : W C n Γ) (ha : XL B X (e :: es) Γ (arg a)) (hk : k ≤ m := by decide) (hg : Gl X x := by rfl) (hdb : (x == ("__debug__" : Str)) = false := by decide)
    (he : starEach (e :: es) X.env = (false, eval e X.env) :: starEach es X.env := by rfl) (hpl : (backTo pos (starEach es X.env)).any (·.1) = false := by rfl) : XD B X (.Call (.Name x p) (e :: es) [] pos) Γ := fun _ _ _ r _ => sE_callX F hr hp hd hl hR ha hk hg hdb he hpl r
theorem w1_exprD (h1 : XD B X e Γ) (hs : swapsWith e none pos.line X.env = pure false := by rfl) : W1 B X (.Expr e pos) Γ R := w1_of (ps_expr pe_s hs) fun F σ H r D f => h1 F σ H r _
theorem w1_retD (h1 : XD B X e Γ) : W1 B X (.Return (some e) pos) Γ R := w1_of (ps_ret pe_s) fun F σ H r D f => h1 F σ H r _
theorem w1_setD (hN : X.N.Nodup) (h1 : XD B X e Γ) (i : Nat) (hi : X.N[i]? = some x := by rfl) (hx : Loc X.env.scope x := by first | exact Or.inl rfl | exact Or.inr rfl) (hs : swapsWith e (some (.Name x pos')) pos.line X.env = pure false := by rfl)
    (hf : X.fn x = true ∨ X.env.scope.names.lookup x = some .local := by first | exact .inl rfl | exact .inr rfl) : W1 B X (.Assign [.Name x pos'] e pos) Γ R := w1_of (ps_set hN hi hx pe_s hs hf) fun F σ H r D f => h1 F σ H r _
end
/-- places in a list -/
theorem atI_nat {α : Type} {xs : List α} {i : Nat} (h : i < xs.length) : atI xs (i : Int) = some xs[i] := by
  have e : ixN xs.length (i : Int) = some i := by
    unfold ixN
    simp [h]
  unfold atI
  rw [e]
  exact List.getElem?_eq_getElem h
theorem atI_int {α : Type} {xs : List α} {i : Int} {a : α} (h : 0 ≤ i) (e : xs[i.toNat]? = some a) : atI xs i = some a := by
  obtain ⟨n, rfl⟩ := Int.eq_ofNat_of_zero_le h
  obtain ⟨hl, e2⟩ := List.getElem?_eq_some_iff.mp e
  have := atI_nat (i := n) hl
  rw [this]
  exact congrArg some e2
theorem atI_0 {α : Type} {a : α} {xs : List α} : atI (a :: xs) 0 = some a := atI_int (by decide) rfl
theorem atI_map {α β : Type} {f : α → β} {xs : List α} {i : Int} {a : α} (h : atI xs i = some a) : atI (xs.map f) i = some (f a) := by
  unfold atI at h ⊢
  rw [List.length_map]
  cases e : ixN xs.length i with
  | none => rw [e] at h; cases h
  | some j =>
    rw [e] at h
    have h' : xs[j]? = some a := h
    show (xs.map f)[j]? = _
    rw [List.getElem?_map, h']
    rfl

/-! ### loops that look at each thing; ranges; orders -/
section
variable {B : Bs} {X : Cx} {tg iter e x1 x2 : Expr} {body : List Stmt} {Γ : Gm} {R : Po} {p pos : Pos} {α σ : Type} {n : Nat} {ea : α → D} {a b : α}
theorem w1_each (xs : List α) (en : α → D) (J : Gm → Prop) (ok : α → Bool) (hi : XI B X tg iter Γ (xs.map en)) (h0 : J Γ)
    (hs : ∀ pre a post Γ0, xs = pre ++ a :: post → (∀ b ∈ pre, ok b = true) → J Γ0 → ∃ js Γ1, XG B X tg (en a) Γ0 js Γ1 ∧ WP B X body Γ1 { nx := fun Γ' => J Γ' ∧ ok a = true, rt := R.rt, ro := R.ro, bk := R.nx, ct := fun Γ' => J Γ' ∧ ok a = true })
    (hd : ∀ Γ0, (∀ b ∈ xs, ok b = true) → J Γ0 → R.nx Γ0) (hp : PassesOwn (model X.prog X.w) X.A X.env X.xe) (hc : X.calm = true := by rfl) (hf : ∀ x, foldedSetIterable iter X.env x = pure x := by intro _; rfl) : W1 B X (.For tg iter body [] pos) Γ R := by
  refine w1_for (fun i Γ' => J Γ' ∧ ∀ b ∈ xs.take i, ok b = true) hi ⟨h0, fun _ z => nomatch z⟩ ?_ ?_ hc hp hf
  · intro i d Γ0 hd h
    obtain ⟨hJ, hall⟩ := h
    rw [List.getElem?_map] at hd
    cases e : xs[i]? with
    | none => rw [e] at hd; cases hd
    | some a =>
      rw [e] at hd
      cases hd
      obtain ⟨hlt, ea⟩ := List.getElem?_eq_some_iff.mp e
      have split : xs = xs.take i ++ a :: xs.drop (i + 1) := by
        conv => lhs; rw [← List.take_append_drop i xs]
        rw [List.drop_eq_getElem_cons hlt, ea]
      have nxt : ∀ Γ' : Gm, (J Γ' ∧ ok a = true) → J Γ' ∧ ∀ b ∈ xs.take (i + 1), ok b = true := by
        intro Γ' h
        refine ⟨h.1, ?_⟩
        intro b hb
        rw [List.take_add_one, e, Option.toList_some, List.mem_append, List.mem_singleton] at hb
        rcases hb with hb | hb
        · exact hall b hb
        · rw [hb]; exact h.2
      obtain ⟨js, Γ1, h1, h2⟩ := hs _ a _ Γ0 split hall hJ
      refine ⟨js, Γ1, h1, ?_⟩
      intro F σ' H r D f
      exact h2 F σ' H r D ⟨fun F' σ2 H' Γ' k r' w => f.nx F' σ2 H' Γ' k r' (nxt Γ' w), f.rt, f.ro, f.bk, fun F' σ2 H' Γ' k r' w => f.ct F' σ2 H' Γ' k r' (nxt Γ' w)⟩
  · intro Γ0 h
    rw [List.length_map, List.take_length] at h
    exact hd Γ0 h.2 h.1
theorem xi_rgN (h : XB B X e Γ (.int (n : Int))) (hn : n < 2 ^ 62) (hg : Gl X "range") (hm : X.mg "range" = none) (hs : starEach [e] X.env = (false, eval e X.env) :: starEach [] X.env := by rfl) : XI B X tg (.Call (.Name "range" p) [e] [] pos) Γ ((List.range n).map fun i : Nat => D.int (i : Int)) := by
  have q := xi_rng1 (tg := tg) (p := p) (pos := pos) h ⟨by omega, by omega⟩ hg hm hs
  unfold rgD at q
  rw [Int.toNat_natCast] at q
  have e : ((List.range n).map fun i : Nat => D.int (0 + (i : Int))) = (List.range n).map fun i : Nat => D.int (i : Int) := List.map_congr_left fun i _ => by rw [Int.zero_add]
  rw [e] at q
  exact q
def ltD (ea : α → D) (a b : α) : Bool := PySem.W.dataLt (ea a).py (ea b).py
theorem xt_geG (g : Good ea n) (al : Alk ea) (hn : n ≤ 60) (hu : X.A.units + 64 < cLine) (nn : (ea a).py ≠ .none) (h1 : XB B X x1 Γ (ea a)) (h2 : XB B X x2 Γ (ea b)) : XT B X (.Compare x1 [.GtE] [x2] pos) Γ (!ltD ea a b) :=
  xt_cx (opx_ge (by have := g.depth a; omega) (al a b) nn) h1 h2
theorem xt_ltG (g : Good ea n) (al : Alk ea) (hn : n ≤ 60) (hu : X.A.units + 64 < cLine) (nn : (ea a).py ≠ .none) (h1 : XB B X x1 Γ (ea a)) (h2 : XB B X x2 Γ (ea b)) : XT B X (.Compare x1 [.Lt] [x2] pos) Γ (ltD ea a b) :=
  xt_cx (opx_lt (by have := g.depth a; omega) (al a b) nn) h1 h2
theorem xt_gtG (g : Good ea n) (al : Alk ea) (hn : n ≤ 60) (hu : X.A.units + 64 < cLine) (nn : (ea a).py ≠ .none) (h1 : XB B X x1 Γ (ea a)) (h2 : XB B X x2 Γ (ea b)) : XT B X (.Compare x1 [.Gt] [x2] pos) Γ (ltD ea b a) :=
  xt_cx (opx_gt (by have := g.depth a; omega) (al a b) nn) h1 h2
theorem xt_leG (g : Good ea n) (al : Alk ea) (hn : n ≤ 60) (hu : X.A.units + 64 < cLine) (nn : (ea a).py ≠ .none) (h1 : XB B X x1 Γ (ea a)) (h2 : XB B X x2 Γ (ea b)) : XT B X (.Compare x1 [.LtE] [x2] pos) Γ (!ltD ea b a) :=
  xt_cx (opx_le (by have := g.depth a; omega) (al a b) nn) h1 h2
theorem xj_rgN (h : XB B X e Γ (.int (n : Int))) (hn : n < 2 ^ 62) (hg : Gl X "range") (hm : X.mg "range" = none) (hs : starEach [e] X.env = (false, eval e X.env) :: starEach [] X.env := by rfl) : XJ B X tg (.Call (.Name "range" p) [e] [] pos) Γ ((List.range n).map fun i : Nat => D.int (i : Int)) := XI.j (xi_rgN h hn hg hm hs)
end
end G

/-! ## PN: lists of things of one kind; the numbers that a law draws, in plain words -/
namespace G
open PySem PySem.Spec PyProof.Rows L2
theorem cutD_map {α β : Type} (f : α → β) (xs : List α) (a b : Option Int) : G.cutD (xs.map f) a b = (G.cutD xs a b).map f := by
  unfold G.cutD
  rw [List.length_map, ← List.map_drop, ← List.map_take]
theorem cutD_upto {α : Type} (xs : List α) (n : Nat) : G.cutD xs none (some (n : Int)) = xs.take n := by
  unfold G.cutD
  rw [HT.sIx_nat, HT.sIx_none, List.drop_zero, Nat.sub_zero, List.take_eq_take_iff]
  omega
theorem cutD_from {α : Type} (xs : List α) (n : Nat) : G.cutD xs (some (n : Int)) none = xs.drop n := by
  unfold G.cutD
  rw [HT.sIx_nat, HT.sIx_none]
  by_cases h : n ≤ xs.length
  · rw [Nat.min_eq_left h]
    exact List.take_of_length_le (by rw [List.length_drop]; exact Nat.le_refl _)
  · rw [Nat.min_eq_right (by omega), List.drop_of_length_le (Nat.le_refl _), List.drop_of_length_le (by omega)]
    simp
theorem cutD_mid {α : Type} (xs : List α) (m n : Nat) : G.cutD xs (some (m : Int)) (some (n : Int)) = (xs.take n).drop m := by
  unfold G.cutD
  rw [HT.sIx_nat, HT.sIx_nat, List.drop_take]
  by_cases h : m ≤ xs.length
  · rw [Nat.min_eq_left h, List.take_eq_take_iff, List.length_drop]
    omega
  · have e1 : xs.drop (min m xs.length) = [] := List.drop_of_length_le (by omega)
    have e2 : xs.drop m = [] := List.drop_of_length_le (by omega)
    rw [e1, e2]
    simp
theorem cutD_last {α : Type} (xs : List α) : G.cutD xs none (some (-1)) = xs.dropLast := by
  unfold G.cutD
  rw [List.dropLast_eq_take, HT.sIx_none, List.drop_zero, Nat.sub_zero]
  have e : HT.sIx xs.length xs.length (some (-1)) = xs.length - 1 := by
    unfold HT.sIx
    dsimp only
    rw [if_pos (by decide)]
    omega
  rw [e]
section
variable {B : Bs} {X : Cx} {e x1 x2 : Expr} {lo hi : Option Expr} {a b : Option Int} {Γ : Gm} {R : Po} {pos p2 pn apos cpos : Pos} {α : Type} {en : α → D} {xs ys : List α} {i : Int} {c : α} {x : Str}
theorem xf_ixE (h1 : XB B X x1 Γ (.list (xs.map en))) (h2 : XB B X x2 Γ (.int i)) (h : atI xs i = some c) (hs : PlainIx x2 := by intro _ _; rfl) : XF B X (.Subscript x1 x2 pos) Γ (en c) := xf_ixL h1 h2 (atI_map h) hs
theorem xo_slE (h : XB B X e Γ (.list (xs.map en))) (h1 : EvP B (sP X lo) Γ a) (h2 : EvP B (sP X hi) Γ b) : XO B X (.Subscript e (.Slice lo hi none p2) pos) Γ (.list ((G.cutD xs a b).map en)) := (xo_slL h h1 h2).to (by rw [cutD_map])
theorem xo_catE (h1 : XB B X x1 Γ (.list (xs.map en))) (h2 : XB B X x2 Γ (.list (ys.map en))) (hz : xs.length + ys.length ≤ sizeLine) : XO B X (.BinOp x1 .Add x2 pos) Γ (.list ((xs ++ ys).map en)) :=
  (xo_catL h1 h2 (by rw [List.length_map, List.length_map]; exact hz)).to (by rw [List.map_append])
theorem xf_lenE {p : Pos} (h : XB B X e Γ (.list (xs.map en))) (hm : X.mg "len" = none) (hg : Gl X "len" := by rfl) (he : starEach [e] X.env = (false, eval e X.env) :: starEach [] X.env := by rfl) : XF B X (.Call (.Name "len" p) [e] [] pos) Γ (.int xs.length) :=
  (xf_lenL h hm hg he).to (by rw [List.length_map])
theorem w1_appendE (j : Nat) (e0 : Γ[j]? = some (.ow (.list (xs.map en)))) (h1 : XF B X e Γ (en c)) (hz : xs.length < sizeLine) (h : R.nx (Γ.set j (.ow (.list ((xs ++ [c]).map en)))))
    (hN : X.N[j]? = some x := by rfl) (hv : Vis X.env.scope x := by first | exact Or.inl rfl | exact Or.inr (Or.inl rfl)) (k1 : (x == ("__debug__" : Str)) = false := by decide) (k2 : (x == ("__classdict__" : Str)) = false := by decide)
    (hbase : attributeBase (.Name x pn) "append" X.env (eval (.Name x pn) X.env) = eval (.Name x pn) X.env := by rfl)
    (hfew : ((backTo cpos (starEach [e] X.env)).all (fun x => !x.1) && (backToKw cpos (keywordEach [] X.env)).all (fun x => x.1.isSome) && decide ([e].length + ([] : List Keyword).length + (if ([] : List Keyword).isEmpty then 0 else 1) < 30)) = true := by rfl)
    (hline : (apos.endLine == cpos.line) = true := by rfl) (hs1 : starEach [e] X.env = (false, eval e X.env) :: starEach [] X.env := by rfl) (hpl : (backTo cpos (starEach [] X.env)).any (·.1) = false := by rfl)
    (hs : swapsWith (.Call (.Attribute (.Name x pn) "append" apos) [e] [] cpos) none pos.line X.env = pure false := by rfl) :
    W1 B X (.Expr (.Call (.Attribute (.Name x pn) "append" apos) [e] [] cpos) pos) Γ R :=
  w1_append j e0 h1 (by rw [List.length_map]; exact hz) (by rw [List.map_append] at h; exact h) hN hv k1 k2 hbase hfew hline hs1 hpl hs
theorem w1_setE (k : Nat) {n : Nat} {spos : Pos} (e0 : Γ[k]? = some (.ow (.list (xs.map en)))) (h1 : XF B X e Γ (en c)) (h2 : XB B X x2 Γ (.int i)) (hj : ixN xs.length i = some n) (h : R.nx (Γ.set k (.ow (.list ((xs.set n c).map en)))))
    (hN : X.N[k]? = some x := by rfl) (hv : Vis X.env.scope x := by first | exact Or.inl rfl | exact Or.inr (Or.inl rfl)) (k1 : (x == ("__debug__" : Str)) = false := by decide) (k2 : (x == ("__classdict__" : Str)) = false := by decide)
    (ha : ∀ v, assign (.Subscript (.Name x pn) x2 spos) X.env v = (do
      let ov ← holding [v] (eval (.Name x pn) X.env)
      let iv ← holding [v, ov] (eval x2 X.env)
      standAt spos
      holding [v, ov, iv] (setItem ov iv v)
      release [v, ov, iv] []) := by intro _; rfl)
    (hs : swapsWithSole [.Subscript (.Name x pn) x2 spos] e pos.line X.env = pure false := by rfl) (hw : swappedStores [.Subscript (.Name x pn) x2 spos] e X.env = pure none := by rfl) (h3 : (assignEach [.Subscript (.Name x pn) x2 spos] X.env).map (·.2) = [assign (.Subscript (.Name x pn) x2 spos) X.env] := by rfl) :
    W1 B X (.Assign [.Subscript (.Name x pn) x2 spos] e pos) Γ R :=
  w1_setL k e0 h1 h2 (by rw [List.length_map]; exact hj) (by rw [List.map_set] at h; exact h) hN hv k1 k2 ha hs hw h3
end
theorem ixN_ok {n : Nat} {i : Int} (h0 : 0 ≤ i) (h : i < n) : ixN n i = some i.toNat := by
  unfold ixN
  rw [if_pos h0, if_pos h]

/-! ### the numbers (cells by their digits, then mixed on) -/
def restD (script : List Int) : List Int := if script = [] then [0] else (script.take 63).map fun c => (c.natAbs : Int)
def mixD (c : Int) : Int := (c * 48271 + 11) % 2147483647
def stepD (s : List Int × List Int × List Int) (k : Nat) : List Int × List Int × List Int :=
  if (10 : Int) ^ 18 ≤ s.1.getD ((k : Int) % s.1.length).toNat 0 then
    (s.1.set ((k : Int) % s.1.length).toNat (s.1.getD ((k : Int) % s.1.length).toNat 0 / 65536), s.2.1, s.2.2 ++ [s.1.getD ((k : Int) % s.1.length).toNat 0 % 65536])
  else (s.1, s.2.1.set ((k : Int) % s.1.length).toNat ((s.2.1.getD ((k : Int) % s.1.length).toNat 0 * 16807 + 12345 + 7919 * k) % 2147483647),
    s.2.2 ++ [(s.1.getD ((k : Int) % s.1.length).toNat 0 + (s.2.1.getD ((k : Int) % s.1.length).toNat 0 * 16807 + 12345 + 7919 * k) % 2147483647 / 5) % 65536])
def numsD (script : List Int) (count : Nat) : List Int := ((List.range count).foldl stepD (restD script, (restD script).map mixD, [])).2.2
theorem restD_pos (script : List Int) : 0 < (restD script).length := by
  unfold restD
  split
  · decide
  · rename_i h
    rw [List.length_map, List.length_take]
    have := List.length_pos_iff.mpr h
    omega
theorem stepD_inv {n : Nat} {s : List Int × List Int × List Int} (k : Nat) (h : s.1.length = n ∧ s.2.1.length = n) : (stepD s k).1.length = n ∧ (stepD s k).2.1.length = n ∧ (stepD s k).2.2.length = s.2.2.length + 1 := by
  unfold stepD
  split
  · exact ⟨by rw [List.length_set]; exact h.1, h.2, by rw [List.length_append]; rfl⟩
  · exact ⟨h.1, by rw [List.length_set]; exact h.2, by rw [List.length_append]; rfl⟩
theorem foldD_inv {n : Nat} : ∀ (l : List Nat) {s : List Int × List Int × List Int}, s.1.length = n ∧ s.2.1.length = n → (l.foldl stepD s).1.length = n ∧ (l.foldl stepD s).2.1.length = n ∧ (l.foldl stepD s).2.2.length = s.2.2.length + l.length
  | [], s, h => ⟨h.1, h.2, rfl⟩
  | k :: l, s, h => by
    obtain ⟨a, b, c⟩ := stepD_inv k h
    obtain ⟨d, e, f⟩ := foldD_inv l (s := stepD s k) ⟨a, b⟩
    refine ⟨d, e, ?_⟩
    rw [List.foldl_cons, f, c, List.length_cons]
    omega
theorem stepD_rng {s : List Int × List Int × List Int} (k : Nat) (h : ∀ x ∈ s.2.2, 0 ≤ x ∧ x < 65536) : ∀ x ∈ (stepD s k).2.2, 0 ≤ x ∧ x < 65536 := by
  unfold stepD
  split
  · intro x hx
    rcases List.mem_append.mp hx with e | e
    · exact h x e
    · rw [List.mem_singleton.mp e]
      omega
  · intro x hx
    rcases List.mem_append.mp hx with e | e
    · exact h x e
    · rw [List.mem_singleton.mp e]
      omega
theorem foldD_rng : ∀ (l : List Nat) {s : List Int × List Int × List Int}, (∀ x ∈ s.2.2, 0 ≤ x ∧ x < 65536) → ∀ x ∈ (l.foldl stepD s).2.2, 0 ≤ x ∧ x < 65536
  | [], s, h => h
  | k :: l, s, h => foldD_rng l (stepD_rng k h)
theorem numsD_len (script : List Int) (count : Nat) : (numsD script count).length = count := by
  unfold numsD
  rw [(foldD_inv (n := (restD script).length) _ ⟨rfl, List.length_map ..⟩).2.2, List.length_range]
  exact Nat.zero_add _
theorem numsD_rng (script : List Int) (count : Nat) : ∀ x ∈ numsD script count, 0 ≤ x ∧ x < 65536 := foldD_rng _ fun _ z => nomatch z
end G

/-! ## PT: the texts and houses that a law draws, in plain words -/
namespace G
open PySem PySem.Spec PyProof.Rows L2
def drawnD (ns : List Int) (at_ : Int) : Int := ns.getD (at_ % ns.length).toNat 0
def signsD : List Nat := List.range' 32 5 ++ List.range' 38 89
def signD (at_ : Int) (many : Nat) : List Nat := G.cutD (G.cutD signsD (some (at_ % (95 - (many : Int)))) none) none (some (many : Int))
def lettersD (drawn : Int) : List Nat := [[97, 98], [97, 98, 99], [97], [97, 97, 98], [120, 121, 32, 122], [98, 97, 126, 33], [97, 98, 99, 100, 101, 102, 103, 104], signD (drawn / 8) 4].getD (drawn % 8).toNat []
def pickD (letters : List Nat) (v : Int) : Nat := letters.getD (v % letters.length).toNat 0
def rowD (ns : List Int) (letters : List Nat) (at_ : Int) (n : Nat) : List Nat := (List.range n).map fun j : Nat => pickD letters (drawnD ns (at_ + 1 + (j : Int)))
def textD (ns : List Int) (at_ : Int) (most : Nat) : List Nat :=
  if eqB (drawnD ns at_ / 400 % 4) 1 = true then
    G.cutD (mulL (rowD ns (lettersD (drawnD ns at_)) at_ (1 + drawnD ns at_ / 1600 % 5).toNat) ((most : Int) + 1)) none (some (drawnD ns at_ / 8 % ((most : Int) + 1)))
  else rowD ns (lettersD (drawnD ns at_)) at_ (drawnD ns at_ / 8 % ((most : Int) + 1)).toNat
/-- all are printable signs -/
def Pr (w : List Nat) : Prop := ∀ c ∈ w, 32 ≤ c ∧ c ≤ 126
def NsOk (ns : List Int) : Prop := 0 < ns.length ∧ ns.length ≤ 1000000 ∧ ∀ x ∈ ns, 0 ≤ x ∧ x < 65536
theorem drawnD_mem {ns : List Int} (h : NsOk ns) (at_ : Int) : 0 ≤ drawnD ns at_ ∧ drawnD ns at_ < 65536 := by
  unfold drawnD
  have hl : (0 : Int) < ns.length := by have := h.1; omega
  have h0 := Int.emod_nonneg at_ (b := (ns.length : Int)) (by omega)
  have h1 := Int.emod_lt_of_pos at_ hl
  have hj : (at_ % ns.length).toNat < ns.length := by omega
  rw [List.getD_eq_getElem?_getD, List.getElem?_eq_getElem hj]
  exact h.2.2 _ (List.getElem_mem hj)
theorem drawnD_at {ns : List Int} (h : NsOk ns) (at_ : Int) : atI ns (at_ % ns.length) = some (drawnD ns at_) := by
  have hl : (0 : Int) < ns.length := by have := h.1; omega
  have h0 := Int.emod_nonneg at_ (b := (ns.length : Int)) (by omega)
  have h1 := Int.emod_lt_of_pos at_ hl
  have hj : (at_ % ns.length).toNat < ns.length := by omega
  refine atI_int h0 ?_
  unfold drawnD
  rw [List.getD_eq_getElem?_getD, List.getElem?_eq_getElem hj]
  rfl
theorem nums_ok (script : List Int) {count : Nat} (h : 0 < count) (h2 : count ≤ 1000000) : NsOk (numsD script count) := ⟨by rw [numsD_len]; exact h, by rw [numsD_len]; exact h2, numsD_rng script count⟩
theorem signsD_pr : Pr signsD := by
  intro c hc
  unfold signsD at hc
  rw [List.mem_append, List.mem_range'_1, List.mem_range'_1] at hc
  omega
theorem Pr.cut {w : List Nat} (h : Pr w) (a b : Option Int) : Pr (G.cutD w a b) := fun c hc => h c (List.mem_of_mem_drop (List.mem_of_mem_take hc))
theorem Pr.app {u v : List Nat} (h : Pr u) (g : Pr v) : Pr (u ++ v) := fun c hc => (List.mem_append.mp hc).elim (h c) (g c)
theorem Pr.rev {u : List Nat} (h : Pr u) : Pr u.reverse := fun c hc => h c (List.mem_reverse.mp hc)
theorem Pr.mul {u : List Nat} (h : Pr u) (n : Int) : Pr (mulL u n) := by
  intro c hc
  unfold mulL at hc
  obtain ⟨l, h1, h2⟩ := List.mem_flatten.mp hc
  rw [List.mem_replicate] at h1
  rw [h1.2] at h2
  exact h c h2
theorem signD_pr (at_ : Int) (many : Nat) : Pr (signD at_ many) := (signsD_pr.cut _ _).cut _ _
theorem sliceLen {α : Type} (xs : List α) (v : Int) (h0 : 0 ≤ v) : (G.cutD xs (some v) none).length = xs.length - v.toNat := by
  obtain ⟨n, rfl⟩ := Int.eq_ofNat_of_zero_le h0
  show (G.cutD xs (some (n : Int)) none).length = _
  rw [cutD_from, List.length_drop]
  rfl
theorem signD_len (at_ : Int) (many : Nat) (h : 1 ≤ many ∧ many ≤ 94) : (signD at_ many).length = many := by
  unfold signD
  have h0 := Int.emod_nonneg at_ (b := 95 - (many : Int)) (by omega)
  have h1 := Int.emod_lt_of_pos at_ (b := 95 - (many : Int)) (by omega)
  rw [cutD_upto, List.length_take, sliceLen _ _ h0]
  unfold signsD
  rw [List.length_append, List.length_range', List.length_range']
  omega
theorem lettersD_ok (d : Int) (h : 0 ≤ d) : Pr (lettersD d) ∧ 0 < (lettersD d).length ∧ (lettersD d).length ≤ 100 := by
  have h0 := Int.emod_nonneg d (b := 8) (by decide)
  have h1 := Int.emod_lt_of_pos d (b := 8) (by decide)
  have e4 := signD_len (d / 8) 4 (by decide)
  have p4 := signD_pr (d / 8) 4
  have key : ∀ l ∈ [[97, 98], [97, 98, 99], [97], [97, 97, 98], [120, 121, 32, 122], [98, 97, 126, 33], [97, 98, 99, 100, 101, 102, 103, 104], signD (d / 8) 4], Pr l ∧ 0 < l.length ∧ l.length ≤ 100 := by
    intro l hl
    simp only [List.mem_cons, List.not_mem_nil, or_false] at hl
    rcases hl with rfl | rfl | rfl | rfl | rfl | rfl | rfl | rfl
    all_goals first
      | exact ⟨p4, by omega, by omega⟩
      | exact ⟨fun c hc => by simp at hc; omega, by decide, by decide⟩
  unfold lettersD
  rw [List.getD_eq_getElem?_getD, List.getElem?_eq_getElem (by simp; omega)]
  exact key _ (List.getElem_mem _)
theorem pickD_mem {l : List Nat} (h : 0 < l.length) (v : Int) : pickD l v ∈ l := by
  unfold pickD
  have h0 := Int.emod_nonneg v (b := (l.length : Int)) (by omega)
  have h1 := Int.emod_lt_of_pos v (b := (l.length : Int)) (by omega)
  have hj : (v % l.length).toNat < l.length := by omega
  rw [List.getD_eq_getElem?_getD, List.getElem?_eq_getElem hj]
  exact List.getElem_mem hj
theorem pickD_at {l : List Nat} (h : 0 < l.length) (v : Int) : atI l (v % l.length) = some (pickD l v) := by
  have h0 := Int.emod_nonneg v (b := (l.length : Int)) (by omega)
  have h1 := Int.emod_lt_of_pos v (b := (l.length : Int)) (by omega)
  have hj : (v % l.length).toNat < l.length := by omega
  refine atI_int h0 ?_
  unfold pickD
  rw [List.getD_eq_getElem?_getD, List.getElem?_eq_getElem hj]
  rfl
theorem rowD_pr {ns : List Int} {l : List Nat} (h : Pr l) (h0 : 0 < l.length) (at_ : Int) (n : Nat) : Pr (rowD ns l at_ n) := by
  intro c hc
  unfold rowD at hc
  obtain ⟨j, _, rfl⟩ := List.mem_map.mp hc
  exact h _ (pickD_mem h0 _)
theorem rowD_len {ns : List Int} {l : List Nat} (at_ : Int) (n : Nat) : (rowD ns l at_ n).length = n := by
  unfold rowD
  rw [List.length_map, List.length_range]
theorem flat1 {α β : Type} (f : α → β) : ∀ l : List α, (l.map fun a => [f a]).flatten = l.map f
  | [] => rfl
  | a :: l => by rw [List.map_cons, List.flatten_cons, flat1 f l]; rfl
theorem textD_ok {ns : List Int} (h : NsOk ns) (at_ : Int) (most : Nat) : Pr (textD ns at_ most) ∧ (textD ns at_ most).length ≤ most := by
  obtain ⟨d0, d1⟩ := drawnD_mem h at_
  obtain ⟨l1, l2, l3⟩ := lettersD_ok (drawnD ns at_) d0
  have h0 := Int.emod_nonneg (drawnD ns at_ / 8) (b := (most : Int) + 1) (by omega)
  have h1 := Int.emod_lt_of_pos (drawnD ns at_ / 8) (b := (most : Int) + 1) (by omega)
  unfold textD
  split
  · refine ⟨((rowD_pr l1 l2 _ _).mul _).cut _ _, ?_⟩
    obtain ⟨n, hn⟩ := Int.eq_ofNat_of_zero_le h0
    rw [hn]
    show (G.cutD _ none (some (n : Int))).length ≤ most
    rw [cutD_upto, List.length_take]
    omega
  · refine ⟨rowD_pr l1 l2 _ _, ?_⟩
    rw [rowD_len]
    omega
/-- a house -/
def houseStep (ns : List Int) (at_ : Int) (most : Nat) (s : List (Int × List Nat) × Int) (k : Nat) : List (Int × List Nat) × Int :=
  (s.1 ++ [(s.2 + 1 + drawnD ns (at_ + 1 + (k : Int)) % 12, if (decide (0 < (k : Int)) && eqB (drawnD ns (at_ + 400 + (k : Int)) % 4) 1) = true then G.cutD ((s.1.getD (k - 1) (0, [])).2 ++ textD ns (at_ + 10 + 43 * (k : Int)) most) none (some (most : Int)) else textD ns (at_ + 10 + 43 * (k : Int)) most)],
    s.2 + 1 + drawnD ns (at_ + 1 + (k : Int)) % 12)
def houseD (ns : List Int) (at_ : Int) (texts most : Nat) : List (Int × List Nat) := ((List.range (drawnD ns at_ % ((texts : Int) + 1)).toNat).foldl (houseStep ns at_ most) ([], -1)).1
/-- what is kept of a house that is being made: its size, its texts, its numbers -/
def HInv (most : Nat) (s : List (Int × List Nat) × Int) (n : Nat) : Prop := s.1.length = n ∧ (∀ p ∈ s.1, Pr p.2 ∧ p.2.length ≤ most ∧ 0 ≤ p.1 ∧ p.1 ≤ s.2) ∧ -1 ≤ s.2 ∧ s.2 ≤ 12 * n
theorem houseStep_inv {ns : List Int} (h : NsOk ns) (at_ : Int) (most : Nat) {s : List (Int × List Nat) × Int} {n : Nat} (k : Nat) (hi : HInv most s n) : HInv most (houseStep ns at_ most s k) (n + 1) := by
  obtain ⟨h1, h2, h3, h4⟩ := hi
  have d0 := Int.emod_nonneg (drawnD ns (at_ + 1 + (k : Int))) (b := 12) (by decide)
  have d1 := Int.emod_lt_of_pos (drawnD ns (at_ + 1 + (k : Int))) (b := 12) (by decide)
  obtain ⟨t1, t2⟩ := textD_ok h (at_ + 10 + 43 * (k : Int)) most
  refine ⟨by simp [houseStep, h1], ?_, by simp only [houseStep]; omega, by simp only [houseStep]; omega⟩
  intro p hp
  simp only [houseStep] at hp ⊢
  rcases List.mem_append.mp hp with e | e
  · obtain ⟨a, b, c, d⟩ := h2 p e
    exact ⟨a, b, c, by omega⟩
  · rw [List.mem_singleton.mp e]
    dsimp only
    refine ⟨?_, ?_, by omega, by omega⟩
    · split
      · refine Pr.cut (Pr.app ?_ t1) _ _
        rw [List.getD_eq_getElem?_getD]
        cases e2 : s.1[k - 1]? with
        | none => exact fun c hc => nomatch hc
        | some q => exact (h2 q (List.mem_of_getElem? e2)).1
      · exact t1
    · split
      · rw [cutD_upto, List.length_take]; omega
      · exact t2
theorem houseFold_inv {ns : List Int} (h : NsOk ns) (at_ : Int) (most : Nat) : ∀ (l : List Nat) {s : List (Int × List Nat) × Int} {n : Nat}, HInv most s n → HInv most (l.foldl (houseStep ns at_ most) s) (n + l.length)
  | [], s, n, hi => hi
  | k :: l, s, n, hi => by
    have := houseFold_inv h at_ most l (houseStep_inv h at_ most k hi)
    rw [List.length_cons, show n + (l.length + 1) = n + 1 + l.length by omega]
    exact this
/-- a house of at most t texts, none longer than m, its numbers from 0 to n -/
def HsB (t m : Nat) (n : Int) (h : List (Int × List Nat)) : Prop := h.length ≤ t ∧ ∀ p ∈ h, Pr p.2 ∧ p.2.length ≤ m ∧ 0 ≤ p.1 ∧ p.1 ≤ n
theorem houseD_ok {ns : List Int} (h : NsOk ns) (at_ : Int) (texts most : Nat) : HsB texts most (12 * texts) (houseD ns at_ texts most) := by
  have d0 := Int.emod_nonneg (drawnD ns at_) (b := (texts : Int) + 1) (by omega)
  have d1 := Int.emod_lt_of_pos (drawnD ns at_) (b := (texts : Int) + 1) (by omega)
  have q := houseFold_inv h at_ most (List.range (drawnD ns at_ % ((texts : Int) + 1)).toNat) (s := ([], -1)) (n := 0) ⟨rfl, (fun _ z => nomatch z), by decide, by decide⟩
  rw [List.length_range] at q
  obtain ⟨q1, q2, q3, q4⟩ := q
  unfold houseD
  refine ⟨by rw [q1]; omega, fun p hp => ?_⟩
  obtain ⟨a, b, c, d⟩ := q2 p hp
  exact ⟨a, b, c, by omega⟩
end G

/-! ## the text, its defs by their places; what is seen of the top -/
namespace K88
open PySem PySem.Spec PyProof.Rows L2 G
abbrev pw : Program := PySem.Challenge.pw_suffixhouse_k88_words_that_tell_houses
def tp (i : Nat) : Stmt := pw.main.body.getD i (.Pass ⟨0, 0, 0, 0⟩)
def clB (s : Stmt) : List Stmt := match s with
  | .ClassDef (body := b) .. => b
  | _ => []
abbrev s_HouseError_init : Stmt := (clB (tp 1)).getD 0 (.Pass ⟨0, 0, 0, 0⟩)
def d_HouseError_init : He.DefD := ⟨("HouseError", some "__init__"), "__init__", "HouseError.__init__", defArgs s_HouseError_init, defBody s_HouseError_init, defScope s_HouseError_init, [], []⟩
abbrev s_stretches : Stmt := tp 4
def d_stretches : He.DefD := ⟨("stretches", none), "stretches", "stretches", defArgs s_stretches, defBody s_stretches, defScope s_stretches, [], []⟩
abbrev s_is_stretch : Stmt := tp 6
def d_is_stretch : He.DefD := ⟨("is_stretch", none), "is_stretch", "is_stretch", defArgs s_is_stretch, defBody s_is_stretch, defScope s_is_stretch, [], []⟩
abbrev s_tells : Stmt := tp 7
def d_tells : He.DefD := ⟨("tells", none), "tells", "tells", defArgs s_tells, defBody s_tells, defScope s_tells, [], []⟩
abbrev s_check_inner : Stmt := tp 8
def d_check_inner : He.DefD := ⟨("check_inner", none), "check_inner", "check_inner", defArgs s_check_inner, defBody s_check_inner, defScope s_check_inner, [], []⟩
abbrev s_is_least : Stmt := tp 9
def d_is_least : He.DefD := ⟨("is_least", none), "is_least", "is_least", defArgs s_is_least, defBody s_is_least, defScope s_is_least, [], []⟩
abbrev s_telling_words : Stmt := tp 10
def d_telling_words : He.DefD := ⟨("telling_words", none), "telling_words", "telling_words", defArgs s_telling_words, defBody s_telling_words, defScope s_telling_words, [], []⟩
abbrev s_first_telling : Stmt := tp 11
def d_first_telling : He.DefD := ⟨("first_telling", none), "first_telling", "first_telling", defArgs s_first_telling, defBody s_first_telling, defScope s_first_telling, [], []⟩
abbrev s_check_telling : Stmt := tp 12
def d_check_telling : He.DefD := ⟨("check_telling", none), "check_telling", "check_telling", defArgs s_check_telling, defBody s_check_telling, defScope s_check_telling, [], []⟩
abbrev s_law_numbers : Stmt := tp 14
def d_law_numbers : He.DefD := ⟨("_law_numbers", none), "_law_numbers", "_law_numbers", defArgs s_law_numbers, defBody s_law_numbers, defScope s_law_numbers, [], []⟩
abbrev s_law_drawn : Stmt := tp 15
def d_law_drawn : He.DefD := ⟨("_law_drawn", none), "_law_drawn", "_law_drawn", defArgs s_law_drawn, defBody s_law_drawn, defScope s_law_drawn, [], []⟩
abbrev s_law_signs : Stmt := tp 16
def d_law_signs : He.DefD := ⟨("_law_signs", none), "_law_signs", "_law_signs", defArgs s_law_signs, defBody s_law_signs, defScope s_law_signs, [], []⟩
abbrev s_law_text : Stmt := tp 17
def d_law_text : He.DefD := ⟨("_law_text", none), "_law_text", "_law_text", defArgs s_law_text, defBody s_law_text, defScope s_law_text, [], []⟩
abbrev s_law_house : Stmt := tp 18
def d_law_house : He.DefD := ⟨("_law_house", none), "_law_house", "_law_house", defArgs s_law_house, defBody s_law_house, defScope s_law_house, [], []⟩
abbrev s_law_stretches : Stmt := tp 19
def d_law_stretches : He.DefD := ⟨("_law_stretches", none), "_law_stretches", "_law_stretches", defArgs s_law_stretches, defBody s_law_stretches, defScope s_law_stretches, [], []⟩
abbrev s_law_near : Stmt := tp 20
def d_law_near : He.DefD := ⟨("_law_near", none), "_law_near", "_law_near", defArgs s_law_near, defBody s_law_near, defScope s_law_near, [], []⟩
abbrev s_law_telling : Stmt := tp 21
def d_law_telling : He.DefD := ⟨("_law_telling", none), "_law_telling", "_law_telling", defArgs s_law_telling, defBody s_law_telling, defScope s_law_telling, [], []⟩
abbrev s_law_least : Stmt := tp 22
def d_law_least : He.DefD := ⟨("_law_least", none), "_law_least", "_law_least", defArgs s_law_least, defBody s_law_least, defScope s_law_least, [], []⟩
abbrev s_law_changed : Stmt := tp 23
def d_law_changed : He.DefD := ⟨("_law_changed", none), "_law_changed", "_law_changed", defArgs s_law_changed, defBody s_law_changed, defScope s_law_changed, [], []⟩
abbrev s_law_refused : Stmt := tp 24
def d_law_refused : He.DefD := ⟨("_law_refused", none), "_law_refused", "_law_refused", defArgs s_law_refused, defBody s_law_refused, defScope s_law_refused, [], []⟩
abbrev s_law : Stmt := tp 25
def d_law : He.DefD := ⟨("law", none), "law", "law", defArgs s_law, defBody s_law, defScope s_law, [], []⟩
def fns : List He.DefD := [d_HouseError_init, d_stretches, d_is_stretch, d_tells, d_check_inner, d_is_least, d_telling_words, d_first_telling, d_check_telling, d_law_numbers, d_law_drawn, d_law_signs, d_law_text, d_law_house, d_law_stretches, d_law_near, d_law_telling, d_law_least, d_law_changed, d_law_refused, d_law]
def fas : List He.Fa := [.glo "stretches", .glo "is_stretch", .glo "tells", .glo "check_inner", .glo "is_least", .glo "telling_words", .glo "first_telling", .glo "check_telling", .glo "_law_numbers", .glo "_law_drawn", .glo "_law_signs", .glo "_law_text", .glo "_law_house", .glo "_law_stretches", .glo "_law_near", .glo "_law_telling", .glo "_law_least", .glo "_law_changed", .glo "_law_refused", .glo "law", .glo "HouseError", .glo "OutOfRange", .free "ValueError", .free "abs", .free "all", .free "any", .free "dict", .free "int", .free "isinstance", .free "len", .free "list", .free "max", .free "range", .free "repr", .free "sorted"]
def exB (K : PySem.W.Frag) (x : Str) : Bool := oexB K (He.ga K x) && decide (PySem.W.findIn K (.ref (He.ga K x)) "at" = some none) && decide (PySem.W.findIn K (.ref (He.ga K x)) "__init__" = some (some (.ref (He.ma K (He.ga K "HouseError") "__init__")))) &&
  decide (PySem.W.typeIn K (.ref (He.ma K (He.ga K "HouseError") "__init__")) = some (.type "function")) && xfB K (He.ga K x) && decide (PySem.W.exmOne K (.ref (He.ga K x)) (.ref (He.ga K "HouseError")) = some true)
def veB (K : PySem.W.Frag) : Bool := match PySem.W.findCls K (.type "ValueError") (.type "type") "__init__" with
  | some (.val (.builtin "ValueError.__init__")) => true
  | _ => false
def ex (K : PySem.W.Frag) : Bool := exB K "OutOfRange" &&  veB K
abbrev R : PySem.W.OpenRow := PySem.W.OpenLaw.row PySem.Challenge.rw_suffixhouse_k88_words_that_tell_houses
abbrev hk : PySem.W.Hook := hookG 5 fas fns ex
def ob (s : PySem.W.SharedT) : He.AlD × Bool := obG 5 fas fns ex (HandSHeadRun.getT s)
theorem ob_eq (s : PySem.W.SharedT) : ob s = hk.obs s.abs := obG_eq (HandSHeadRun.getT_eq s)
def loose : List PySem.Str := ["stretches", "is_stretch", "tells", "check_inner", "is_least", "telling_words", "first_telling", "check_telling", "_law_numbers", "_law_drawn", "_law_signs", "_law_text", "_law_house", "_law_stretches", "_law_near", "_law_telling", "_law_least", "_law_changed", "_law_refused", "HouseError", "OutOfRange"]
theorem run (w : World) : HandSHeadRun.RunEq R (PySem.W.view R.prog [25]) hk ob 4000 loose w := by
  intro os
  kernel_rfl
def lawI : Nat := 25
/-- what the top says -/
structure Tx (K : PySem.W.Frag) (mg : Str → Option Value) : Prop where
  c : He.SaysD fas fns K
  e : ex K = true
  g : ∃ h : Heap, K.In h ∧ h.Ns mainGlobals mg
section
variable {K : PySem.W.Frag} {mg : Str → Option Value} (T : Tx K mg)
include T
theorem g_stretches : mg "stretches" = some (.ref (He.ga K "stretches")) := by
  obtain ⟨h, X, G⟩ := T.g
  exact He.glo_ok X G (T.c.fact 0 rfl)
theorem g_is_stretch : mg "is_stretch" = some (.ref (He.ga K "is_stretch")) := by
  obtain ⟨h, X, G⟩ := T.g
  exact He.glo_ok X G (T.c.fact 1 rfl)
theorem g_tells : mg "tells" = some (.ref (He.ga K "tells")) := by
  obtain ⟨h, X, G⟩ := T.g
  exact He.glo_ok X G (T.c.fact 2 rfl)
theorem g_check_inner : mg "check_inner" = some (.ref (He.ga K "check_inner")) := by
  obtain ⟨h, X, G⟩ := T.g
  exact He.glo_ok X G (T.c.fact 3 rfl)
theorem g_is_least : mg "is_least" = some (.ref (He.ga K "is_least")) := by
  obtain ⟨h, X, G⟩ := T.g
  exact He.glo_ok X G (T.c.fact 4 rfl)
theorem g_telling_words : mg "telling_words" = some (.ref (He.ga K "telling_words")) := by
  obtain ⟨h, X, G⟩ := T.g
  exact He.glo_ok X G (T.c.fact 5 rfl)
theorem g_first_telling : mg "first_telling" = some (.ref (He.ga K "first_telling")) := by
  obtain ⟨h, X, G⟩ := T.g
  exact He.glo_ok X G (T.c.fact 6 rfl)
theorem g_check_telling : mg "check_telling" = some (.ref (He.ga K "check_telling")) := by
  obtain ⟨h, X, G⟩ := T.g
  exact He.glo_ok X G (T.c.fact 7 rfl)
theorem g_law_numbers : mg "_law_numbers" = some (.ref (He.ga K "_law_numbers")) := by
  obtain ⟨h, X, G⟩ := T.g
  exact He.glo_ok X G (T.c.fact 8 rfl)
theorem g_law_drawn : mg "_law_drawn" = some (.ref (He.ga K "_law_drawn")) := by
  obtain ⟨h, X, G⟩ := T.g
  exact He.glo_ok X G (T.c.fact 9 rfl)
theorem g_law_signs : mg "_law_signs" = some (.ref (He.ga K "_law_signs")) := by
  obtain ⟨h, X, G⟩ := T.g
  exact He.glo_ok X G (T.c.fact 10 rfl)
theorem g_law_text : mg "_law_text" = some (.ref (He.ga K "_law_text")) := by
  obtain ⟨h, X, G⟩ := T.g
  exact He.glo_ok X G (T.c.fact 11 rfl)
theorem g_law_house : mg "_law_house" = some (.ref (He.ga K "_law_house")) := by
  obtain ⟨h, X, G⟩ := T.g
  exact He.glo_ok X G (T.c.fact 12 rfl)
theorem g_law_stretches : mg "_law_stretches" = some (.ref (He.ga K "_law_stretches")) := by
  obtain ⟨h, X, G⟩ := T.g
  exact He.glo_ok X G (T.c.fact 13 rfl)
theorem g_law_near : mg "_law_near" = some (.ref (He.ga K "_law_near")) := by
  obtain ⟨h, X, G⟩ := T.g
  exact He.glo_ok X G (T.c.fact 14 rfl)
theorem g_law_telling : mg "_law_telling" = some (.ref (He.ga K "_law_telling")) := by
  obtain ⟨h, X, G⟩ := T.g
  exact He.glo_ok X G (T.c.fact 15 rfl)
theorem g_law_least : mg "_law_least" = some (.ref (He.ga K "_law_least")) := by
  obtain ⟨h, X, G⟩ := T.g
  exact He.glo_ok X G (T.c.fact 16 rfl)
theorem g_law_changed : mg "_law_changed" = some (.ref (He.ga K "_law_changed")) := by
  obtain ⟨h, X, G⟩ := T.g
  exact He.glo_ok X G (T.c.fact 17 rfl)
theorem g_law_refused : mg "_law_refused" = some (.ref (He.ga K "_law_refused")) := by
  obtain ⟨h, X, G⟩ := T.g
  exact He.glo_ok X G (T.c.fact 18 rfl)
theorem g_law : mg "law" = some (.ref (He.ga K "law")) := by
  obtain ⟨h, X, G⟩ := T.g
  exact He.glo_ok X G (T.c.fact 19 rfl)
theorem g_HouseError : mg "HouseError" = some (.ref (He.ga K "HouseError")) := by
  obtain ⟨h, X, G⟩ := T.g
  exact He.glo_ok X G (T.c.fact 20 rfl)
theorem g_OutOfRange : mg "OutOfRange" = some (.ref (He.ga K "OutOfRange")) := by
  obtain ⟨h, X, G⟩ := T.g
  exact He.glo_ok X G (T.c.fact 21 rfl)
theorem b_ValueError : mg "ValueError" = none := by
  obtain ⟨h, X, G⟩ := T.g
  exact He.free_ok X G (T.c.fact 22 rfl)
theorem b_abs : mg "abs" = none := by
  obtain ⟨h, X, G⟩ := T.g
  exact He.free_ok X G (T.c.fact 23 rfl)
theorem b_all : mg "all" = none := by
  obtain ⟨h, X, G⟩ := T.g
  exact He.free_ok X G (T.c.fact 24 rfl)
theorem b_any : mg "any" = none := by
  obtain ⟨h, X, G⟩ := T.g
  exact He.free_ok X G (T.c.fact 25 rfl)
theorem b_dict : mg "dict" = none := by
  obtain ⟨h, X, G⟩ := T.g
  exact He.free_ok X G (T.c.fact 26 rfl)
theorem b_int : mg "int" = none := by
  obtain ⟨h, X, G⟩ := T.g
  exact He.free_ok X G (T.c.fact 27 rfl)
theorem b_isinstance : mg "isinstance" = none := by
  obtain ⟨h, X, G⟩ := T.g
  exact He.free_ok X G (T.c.fact 28 rfl)
theorem b_len : mg "len" = none := by
  obtain ⟨h, X, G⟩ := T.g
  exact He.free_ok X G (T.c.fact 29 rfl)
theorem b_list : mg "list" = none := by
  obtain ⟨h, X, G⟩ := T.g
  exact He.free_ok X G (T.c.fact 30 rfl)
theorem b_max : mg "max" = none := by
  obtain ⟨h, X, G⟩ := T.g
  exact He.free_ok X G (T.c.fact 31 rfl)
theorem b_range : mg "range" = none := by
  obtain ⟨h, X, G⟩ := T.g
  exact He.free_ok X G (T.c.fact 32 rfl)
theorem b_repr : mg "repr" = none := by
  obtain ⟨h, X, G⟩ := T.g
  exact He.free_ok X G (T.c.fact 33 rfl)
theorem b_sorted : mg "sorted" = none := by
  obtain ⟨h, X, G⟩ := T.g
  exact He.free_ok X G (T.c.fact 34 rfl)
theorem k_HouseError_init : ∃ fd, FunD K d_HouseError_init.name d_HouseError_init.qual (defArgs s_HouseError_init) (defBody s_HouseError_init) (defScope s_HouseError_init) [] [] (He.fAd K d_HouseError_init.at_) fd := T.c.def_ 0 rfl
theorem k_stretches : ∃ fd, FunD K d_stretches.name d_stretches.qual (defArgs s_stretches) (defBody s_stretches) (defScope s_stretches) [] [] (He.fAd K d_stretches.at_) fd := T.c.def_ 1 rfl
theorem k_is_stretch : ∃ fd, FunD K d_is_stretch.name d_is_stretch.qual (defArgs s_is_stretch) (defBody s_is_stretch) (defScope s_is_stretch) [] [] (He.fAd K d_is_stretch.at_) fd := T.c.def_ 2 rfl
theorem k_tells : ∃ fd, FunD K d_tells.name d_tells.qual (defArgs s_tells) (defBody s_tells) (defScope s_tells) [] [] (He.fAd K d_tells.at_) fd := T.c.def_ 3 rfl
theorem k_check_inner : ∃ fd, FunD K d_check_inner.name d_check_inner.qual (defArgs s_check_inner) (defBody s_check_inner) (defScope s_check_inner) [] [] (He.fAd K d_check_inner.at_) fd := T.c.def_ 4 rfl
theorem k_is_least : ∃ fd, FunD K d_is_least.name d_is_least.qual (defArgs s_is_least) (defBody s_is_least) (defScope s_is_least) [] [] (He.fAd K d_is_least.at_) fd := T.c.def_ 5 rfl
theorem k_telling_words : ∃ fd, FunD K d_telling_words.name d_telling_words.qual (defArgs s_telling_words) (defBody s_telling_words) (defScope s_telling_words) [] [] (He.fAd K d_telling_words.at_) fd := T.c.def_ 6 rfl
theorem k_first_telling : ∃ fd, FunD K d_first_telling.name d_first_telling.qual (defArgs s_first_telling) (defBody s_first_telling) (defScope s_first_telling) [] [] (He.fAd K d_first_telling.at_) fd := T.c.def_ 7 rfl
theorem k_check_telling : ∃ fd, FunD K d_check_telling.name d_check_telling.qual (defArgs s_check_telling) (defBody s_check_telling) (defScope s_check_telling) [] [] (He.fAd K d_check_telling.at_) fd := T.c.def_ 8 rfl
theorem k_law_numbers : ∃ fd, FunD K d_law_numbers.name d_law_numbers.qual (defArgs s_law_numbers) (defBody s_law_numbers) (defScope s_law_numbers) [] [] (He.fAd K d_law_numbers.at_) fd := T.c.def_ 9 rfl
theorem k_law_drawn : ∃ fd, FunD K d_law_drawn.name d_law_drawn.qual (defArgs s_law_drawn) (defBody s_law_drawn) (defScope s_law_drawn) [] [] (He.fAd K d_law_drawn.at_) fd := T.c.def_ 10 rfl
theorem k_law_signs : ∃ fd, FunD K d_law_signs.name d_law_signs.qual (defArgs s_law_signs) (defBody s_law_signs) (defScope s_law_signs) [] [] (He.fAd K d_law_signs.at_) fd := T.c.def_ 11 rfl
theorem k_law_text : ∃ fd, FunD K d_law_text.name d_law_text.qual (defArgs s_law_text) (defBody s_law_text) (defScope s_law_text) [] [] (He.fAd K d_law_text.at_) fd := T.c.def_ 12 rfl
theorem k_law_house : ∃ fd, FunD K d_law_house.name d_law_house.qual (defArgs s_law_house) (defBody s_law_house) (defScope s_law_house) [] [] (He.fAd K d_law_house.at_) fd := T.c.def_ 13 rfl
theorem k_law_stretches : ∃ fd, FunD K d_law_stretches.name d_law_stretches.qual (defArgs s_law_stretches) (defBody s_law_stretches) (defScope s_law_stretches) [] [] (He.fAd K d_law_stretches.at_) fd := T.c.def_ 14 rfl
theorem k_law_near : ∃ fd, FunD K d_law_near.name d_law_near.qual (defArgs s_law_near) (defBody s_law_near) (defScope s_law_near) [] [] (He.fAd K d_law_near.at_) fd := T.c.def_ 15 rfl
theorem k_law_telling : ∃ fd, FunD K d_law_telling.name d_law_telling.qual (defArgs s_law_telling) (defBody s_law_telling) (defScope s_law_telling) [] [] (He.fAd K d_law_telling.at_) fd := T.c.def_ 16 rfl
theorem k_law_least : ∃ fd, FunD K d_law_least.name d_law_least.qual (defArgs s_law_least) (defBody s_law_least) (defScope s_law_least) [] [] (He.fAd K d_law_least.at_) fd := T.c.def_ 17 rfl
theorem k_law_changed : ∃ fd, FunD K d_law_changed.name d_law_changed.qual (defArgs s_law_changed) (defBody s_law_changed) (defScope s_law_changed) [] [] (He.fAd K d_law_changed.at_) fd := T.c.def_ 18 rfl
theorem k_law_refused : ∃ fd, FunD K d_law_refused.name d_law_refused.qual (defArgs s_law_refused) (defBody s_law_refused) (defScope s_law_refused) [] [] (He.fAd K d_law_refused.at_) fd := T.c.def_ 19 rfl
theorem k_law : ∃ fd, FunD K d_law.name d_law.qual (defArgs s_law) (defBody s_law) (defScope s_law) [] [] (He.fAd K d_law.at_) fd := T.c.def_ 20 rfl
end
def n_HouseError_init : List Str := ["self", "at"]
theorem sc_HouseError_init : FnScope n_HouseError_init ["self", "at"] (defScope s_HouseError_init) := ⟨rfl, rfl, rfl, by decide +kernel, rfl, by decide +kernel, by decide +kernel⟩
theorem nd_HouseError_init : n_HouseError_init.Nodup := by decide +kernel
def n_stretches : List Str := ["house", "found", "_", "text", "start", "stop", "word"]
theorem sc_stretches : FnScope n_stretches ["house"] (defScope s_stretches) := ⟨rfl, rfl, rfl, by decide +kernel, rfl, by decide +kernel, by decide +kernel⟩
theorem nd_stretches : n_stretches.Nodup := by decide +kernel
def n_is_stretch : List Str := ["house", "word", "_", "text"]
theorem sc_is_stretch : FnScope n_is_stretch ["house", "word"] (defScope s_is_stretch) := ⟨rfl, rfl, rfl, by decide +kernel, rfl, by decide +kernel, by decide +kernel⟩
theorem nd_is_stretch : n_is_stretch.Nodup := by decide +kernel
def n_tells : List Str := ["inner", "outer", "word", "house"]
theorem sc_tells : FnScope n_tells ["inner", "outer", "word"] (defScope s_tells) := ⟨rfl, rfl, rfl, by decide +kernel, rfl, by decide +kernel, by decide +kernel⟩
theorem nd_tells : n_tells.Nodup := by decide +kernel
def n_check_inner : List Str := ["inner"]
theorem sc_check_inner : FnScope n_check_inner ["inner"] (defScope s_check_inner) := ⟨rfl, rfl, rfl, by decide +kernel, rfl, by decide +kernel, by decide +kernel⟩
theorem nd_check_inner : n_check_inner.Nodup := by decide +kernel
def n_is_least : List Str := ["inner", "outer", "word", "part"]
theorem sc_is_least : FnScope n_is_least ["inner", "outer", "word"] (defScope s_is_least) := ⟨rfl, rfl, rfl, by decide +kernel, rfl, by decide +kernel, by decide +kernel⟩
theorem nd_is_least : n_is_least.Nodup := by decide +kernel
def n_telling_words : List Str := ["inner", "outer", "word"]
theorem sc_telling_words : FnScope n_telling_words ["inner", "outer"] (defScope s_telling_words) := ⟨rfl, rfl, rfl, by decide +kernel, rfl, by decide +kernel, by decide +kernel⟩
theorem nd_telling_words : n_telling_words.Nodup := by decide +kernel
def n_first_telling : List Str := ["inner", "outer", "found"]
theorem sc_first_telling : FnScope n_first_telling ["inner", "outer"] (defScope s_first_telling) := ⟨rfl, rfl, rfl, by decide +kernel, rfl, by decide +kernel, by decide +kernel⟩
theorem nd_first_telling : n_first_telling.Nodup := by decide +kernel
def n_check_telling : List Str := ["inner", "outer", "words", "k", "word", "other"]
theorem sc_check_telling : FnScope n_check_telling ["inner", "outer", "words"] (defScope s_check_telling) := ⟨rfl, rfl, rfl, by decide +kernel, rfl, by decide +kernel, by decide +kernel⟩
theorem nd_check_telling : n_check_telling.Nodup := by decide +kernel
def n_law_numbers : List Str := ["script", "count", "rest", "cell", "mixed", "numbers", "k", "at"]
theorem sc_law_numbers : FnScope n_law_numbers ["script", "count"] (defScope s_law_numbers) := ⟨rfl, rfl, rfl, by decide +kernel, rfl, by decide +kernel, by decide +kernel⟩
theorem nd_law_numbers : n_law_numbers.Nodup := by decide +kernel
def n_law_drawn : List Str := ["numbers", "at"]
theorem sc_law_drawn : FnScope n_law_drawn ["numbers", "at"] (defScope s_law_drawn) := ⟨rfl, rfl, rfl, by decide +kernel, rfl, by decide +kernel, by decide +kernel⟩
theorem nd_law_drawn : n_law_drawn.Nodup := by decide +kernel
def n_law_signs : List Str := ["at", "many", "signs"]
theorem sc_law_signs : FnScope n_law_signs ["at", "many"] (defScope s_law_signs) := ⟨rfl, rfl, rfl, by decide +kernel, rfl, by decide +kernel, by decide +kernel⟩
theorem nd_law_signs : n_law_signs.Nodup := by decide +kernel
def n_law_text : List Str := ["numbers", "at", "most", "drawn", "letters", "size", "word", "unit", "j"]
theorem sc_law_text : FnScope n_law_text ["numbers", "at", "most"] (defScope s_law_text) := ⟨rfl, rfl, rfl, by decide +kernel, rfl, by decide +kernel, by decide +kernel⟩
theorem nd_law_text : n_law_text.Nodup := by decide +kernel
def n_law_house : List Str := ["numbers", "at", "texts", "most", "house", "number", "k", "text"]
theorem sc_law_house : FnScope n_law_house ["numbers", "at", "texts", "most"] (defScope s_law_house) := ⟨rfl, rfl, rfl, by decide +kernel, rfl, by decide +kernel, by decide +kernel⟩
theorem nd_law_house : n_law_house.Nodup := by decide +kernel
def n_law_stretches : List Str := ["house", "found", "number", "text", "i", "j", "size", "word"]
theorem sc_law_stretches : FnScope n_law_stretches ["house"] (defScope s_law_stretches) := ⟨rfl, rfl, rfl, by decide +kernel, rfl, by decide +kernel, by decide +kernel⟩
theorem nd_law_stretches : n_law_stretches.Nodup := by decide +kernel
def n_law_near : List Str := ["numbers", "at", "house", "out", "k", "number", "text", "drawn", "spot", "texts"]
theorem sc_law_near : FnScope n_law_near ["numbers", "at", "house"] (defScope s_law_near) := ⟨rfl, rfl, rfl, by decide +kernel, rfl, by decide +kernel, by decide +kernel⟩
theorem nd_law_near : n_law_near.Nodup := by decide +kernel
def n_law_telling : List Str := ["inner", "outer", "others", "house", "words", "here", "word"]
theorem sc_law_telling : FnScope n_law_telling ["inner", "outer"] (defScope s_law_telling) := ⟨rfl, rfl, rfl, by decide +kernel, rfl, by decide +kernel, by decide +kernel⟩
theorem nd_law_telling : n_law_telling.Nodup := by decide +kernel
def n_law_least : List Str := ["words", "word", "other"]
theorem sc_law_least : FnScope n_law_least ["words"] (defScope s_law_least) := ⟨rfl, rfl, rfl, by decide +kernel, rfl, by decide +kernel, by decide +kernel⟩
theorem nd_law_least : n_law_least.Nodup := by decide +kernel
def n_law_changed : List Str := ["numbers", "at", "words", "every", "drawn", "k", "more", "word", "other"]
theorem sc_law_changed : FnScope n_law_changed ["numbers", "at", "words", "every"] (defScope s_law_changed) := ⟨rfl, rfl, rfl, by decide +kernel, rfl, by decide +kernel, by decide +kernel⟩
theorem nd_law_changed : n_law_changed.Nodup := by decide +kernel
def n_law_refused : List Str := ["way", "outer", "e"]
theorem sc_law_refused : FnScope n_law_refused ["way", "outer"] (defScope s_law_refused) := ⟨rfl, rfl, rfl, by decide +kernel, rfl, by decide +kernel, by decide +kernel⟩
theorem nd_law_refused : n_law_refused.Nodup := by decide +kernel
def n_law : List Str := ["script", "numbers", "shape", "house", "houses", "k", "order", "inner", "outer", "kept", "every", "due", "told", "tries", "turn", "words", "before", "way"]
theorem sc_law : FnScope n_law ["script"] (defScope s_law) := ⟨rfl, rfl, rfl, by decide +kernel, rfl, by decide +kernel, by decide +kernel⟩
theorem nd_law : n_law.Nodup := by decide +kernel
/-! ## the exceptions -/
section
variable {P : Program} {w : World} {K : PySem.W.Frag} {mg : Str → Option Value} {base : Heap}
theorem veB_ok (h : veB K = true) : PySem.W.findCls K (.type "ValueError") (.type "type") "__init__" = some (.val (.builtin "ValueError.__init__")) := by
  unfold veB at h
  split at h
  · assumption
  · cases h
theorem init_ok (T : Tx K mg) (hv : veB K = true) (C : Addr) : ∃ (fd : FuncData), FnOk P w K mg base (L2.CX P w) 1 (He.ma K (He.ga K "HouseError") "__init__") fd ["self", "at"] (spInit K C) ∧ Binds K fd ["self", "at"] [] := by
  obtain ⟨fd, F⟩ := k_HouseError_init T
  refine ⟨fd, F.ok sc_HouseError_init ?_ ?_, F.bindsN fun _ _ _ _ _ _ us hl => match us, hl with | [_, _], _ => rfl⟩
  · intro vs H Q E h
    obtain ⟨a, n, rfl, _⟩ := h
    rfl
  · intro cdv A outer s H vs Q E hr h
    refine ⟨_, pss_cons (ps_expr (pe_veinit rfl (b_ValueError T) (veB_ok hv) (pa_cons (pe_var (i := 0) rfl (Or.inl rfl)) (pa_cons pe_str pa_nil))) rfl) (pss_one (ps_ost (pe_var (i := 0) rfl (Or.inl rfl)) (pe_var (i := 1) rfl (Or.inl rfl)))), ?_⟩
    obtain ⟨a, n, rfl, h1, h2, h3, h4⟩ := h
    exact ⟨_, rfl, a, C, _, rfl, by decide, h1, h3, _, rfl, _, rfl, a, C, rfl, h1, h2, .inl ⟨h3, h4⟩⟩
theorem e_OutOfRange (T : Tx K mg) : exB K "OutOfRange" = true ∧ veB K = true := by
  have h := T.e
  unfold ex at h
  simp only [Bool.and_eq_true] at h
  exact ⟨h.1, h.2⟩
theorem x_OutOfRange (T : Tx K mg) : Exn P w K mg base "OutOfRange" (He.ga K "OutOfRange") := by
  obtain ⟨h, hv⟩ := e_OutOfRange T
  unfold exB at h
  simp only [Bool.and_eq_true, decide_eq_true_eq] at h
  obtain ⟨⟨⟨⟨⟨h1, h2⟩, h3⟩, h4⟩, h5⟩, h6⟩ := h
  obtain ⟨fd, F, b⟩ := init_ok (P := P) (w := w) (base := base) T hv (He.ga K "OutOfRange")
  exact ⟨oexB_ok h1, h2, g_OutOfRange T, _, fd, _, h3, h4, F, b⟩
theorem y_OutOfRange (T : Tx K mg) : XfC K (He.ga K "OutOfRange") ∧ PySem.W.findIn K (.ref (He.ga K "OutOfRange")) "at" = some none ∧ PySem.W.exmOne K (.ref (He.ga K "OutOfRange")) (.ref (He.ga K "HouseError")) = some true := by
  obtain ⟨h, hv⟩ := e_OutOfRange T
  unfold exB at h
  simp only [Bool.and_eq_true, decide_eq_true_eq] at h
  obtain ⟨⟨⟨⟨⟨h1, h2⟩, h3⟩, h4⟩, h5⟩, h6⟩ := h
  exact ⟨xfB_ok h5, h2, h6⟩
end
end K88

/-! ## k88: the program's defs -/
namespace K88
open PySem PySem.Spec PyProof.Rows L2 G
abbrev Wd := List Nat
abbrev Hs := List (Int × Wd)
def eH : Hs → D := eL (e2 D.int eW)
def eHs : List Hs → D := eL eH
def hOk (h : Hs) : Prop := h.length ≤ 16 ∧ ∀ p ∈ h, p.2.length ≤ 100
def hsOk (hs : List Hs) : Prop := hs.length ≤ 1000 ∧ ∀ h ∈ hs, hOk h
def isStretch (h : Hs) (w : Wd) : Bool := h.any fun p => inW w p.2
def tells (inn out : List Hs) (w : Wd) : Bool := (inn.all fun h => isStretch h w) && !(out.any fun h => isStretch h w)
def isLeast (inn out : List Hs) (w : Wd) : Bool := [cutD w (some 1) none, cutD w none (some (-1))].all fun p => eqB p [] || !tells inn out p
/-- the words of a text that begin at i and stop at i + 1 + j -/
def addStop (t : Wd) (i : Int) (ks : List Wd) (j : Nat) : List Wd := addW ks (cutD t (some i) (some (i + 1 + (j : Int))))
def addStart (t : Wd) (ks : List Wd) (i : Nat) : List Wd := (List.range ((t.length : Int) + 1 - (0 + (i : Int) + 1)).toNat).foldl (addStop t (0 + (i : Int))) ks
def addText (ks : List Wd) (p : Int × Wd) : List Wd := (List.range (p.2.length : Int).toNat).foldl (addStart p.2) ks
def allSub (h : Hs) : List Wd := h.foldl addText []
def lw (w : Wd) : Int × Wd := ((w.length : Int), w)
def stretches (h : Hs) : List Wd := (((allSub h).map lw).mergeSort (leD (e2 D.int eW))).map (·.2)
theorem addStop_len (t : Wd) (i : Int) (ks : List Wd) (j : Nat) : (addStop t i ks j).length ≤ ks.length + 1 := addW_len _ _
theorem addStart_len (t : Wd) (ht : t.length ≤ 100) (ks : List Wd) (i : Nat) : (addStart t ks i).length ≤ ks.length + 100 := by
  have h := foldl_len (addStop_len t (0 + (i : Int))) (List.range ((t.length : Int) + 1 - (0 + (i : Int) + 1)).toNat) ks
  rw [List.length_range] at h
  unfold addStart
  omega
theorem addText_len (ks : List Wd) (p : Int × Wd) (ht : p.2.length ≤ 100) : (addText ks p).length ≤ ks.length + 10000 := by
  have h := foldl_len (addStart_len p.2 ht) (List.range (p.2.length : Int).toNat) ks
  rw [List.length_range] at h
  unfold addText
  omega
theorem allSub_len : ∀ (h : Hs) (ks : List Wd), (∀ p ∈ h, p.2.length ≤ 100) → (h.foldl addText ks).length ≤ ks.length + 10000 * h.length
  | [], ks, _ => by simp
  | p :: h, ks, hb => by
    have h1 := allSub_len h (addText ks p) fun q hq => hb q (List.mem_cons_of_mem _ hq)
    have h2 := addText_len ks p (hb p List.mem_cons_self)
    rw [List.foldl_cons, List.length_cons, Nat.mul_succ]
    omega
theorem cutD_le {α : Type} (t : List α) (a b : Option Int) : (cutD t a b).length ≤ t.length := by
  unfold G.cutD
  rw [List.length_take, List.length_drop]
  omega
theorem foldl_all {α β : Type} {Q : β → Prop} {f : List β → α → List β} : ∀ (l : List α) (ks : List β), (∀ x ∈ l, ∀ ks, (∀ b ∈ ks, Q b) → ∀ b ∈ f ks x, Q b) → (∀ b ∈ ks, Q b) → ∀ b ∈ l.foldl f ks, Q b
  | [], ks, _, hk => hk
  | x :: l, ks, h, hk => foldl_all l (f ks x) (fun y hy => h y (List.mem_cons_of_mem _ hy)) (h x List.mem_cons_self ks hk)
theorem addW_all {Q : Wd → Prop} {ks : List Wd} {w : Wd} (hk : ∀ b ∈ ks, Q b) (hw : Q w) : ∀ b ∈ addW ks w, Q b := by
  unfold addW
  split
  · exact hk
  · intro b hb
    rcases List.mem_append.mp hb with e | e
    · exact hk b e
    · rw [List.mem_singleton.mp e]; exact hw
theorem allSub_le (h : Hs) (ks : List Wd) (n : Nat) (hb : ∀ p ∈ h, p.2.length ≤ n) (hk : ∀ w ∈ ks, w.length ≤ n) : ∀ w ∈ h.foldl addText ks, w.length ≤ n :=
  foldl_all h ks (fun p hp ks hk => foldl_all _ ks (fun i _ ks hk => foldl_all _ ks (fun j _ ks hk => addW_all hk (Nat.le_trans (cutD_le _ _ _) (hb p hp))) hk) hk) hk
section
variable {P : Program} {w : World} {K : PySem.W.Frag} {mg : Str → Option Value} {base : Heap}
theorem sz1 {n : Nat} (h : n ≤ 1000) : n < sizeLine := lt_size (Nat.lt_of_le_of_lt h (by decide))
theorem f_is_stretch (T : Tx K mg) : Fu P w K mg base "is_stretch" 1 (fun a : Hs × Wd => hOk a.1) (fun a => [eH a.1, eW a.2]) (fun a => .f (.bool (isStretch a.1 a.2))) := by
  obtain ⟨fd, F⟩ := k_is_stretch T
  refine fu_of (g_is_stretch T) F sc_is_stretch (fun _ => rfl) (fun _ _ _ _ _ _ us hl => match us, hl with | [_, _], _ => rfl) ?_
  rintro q B ⟨h, wd⟩ rfl rfl rfl rfl rfl hr hp hl
  refine wp_one (w1_ret (xf_anyM (xo_map [("_", 2), ("text", 3)] h (e2 D.int eW) (fun p => .bool (inW wd p.2)) nd_is_stretch (xj_list (xf_var 0).b) ?_ (sz1 (Nat.le_trans hp.1 (by decide)))).b (b_any T)) rfl)
  intro p hm
  refine ⟨_, _, ?_, fun s0 H0 C cl fp => ⟨xg_tup rfl (xgs_cons (xg_name 2 nd_is_stretch) (xgs_cons (xg_name 3 nd_is_stretch) xgs_nil)), xf_inW (xf_var 1).b (xf_var 3).b⟩⟩
  decide
theorem f_tells (T : Tx K mg) : Fu P w K mg base "tells" 2 (fun a : List Hs × List Hs × Wd => hsOk a.1 ∧ hsOk a.2.1) (fun a => [eHs a.1, eHs a.2.1, eW a.2.2]) (fun a => .f (.bool (tells a.1 a.2.1 a.2.2))) := by
  obtain ⟨fd, F⟩ := k_tells T
  refine fu_of (g_tells T) F sc_tells (fun _ => rfl) (fun _ _ _ _ _ _ us hl => match us, hl with | [_, _, _], _ => rfl) ?_
  rintro q B ⟨inn, out, wd⟩ rfl rfl rfl rfl rfl hr hp hl
  refine wp_one (w1_ret (xf_and (xf_allM (xo_map [("house", 3)] inn eH (fun h => .bool (isStretch h wd)) nd_tells (xj_list (xf_var 0).b) ?_ (sz1 hp.1.1)).b (b_all T))
    fun _ => xf_one (xf_not (xf_anyM (xo_map [("house", 3)] out eH (fun h => .bool (isStretch h wd)) nd_tells (xj_list (xf_var 1).b) ?_ (sz1 hp.2.1)).b (b_any T)))) rfl)
  · intro h hm
    refine ⟨_, _, ?_, fun s0 H0 C cl fp => ⟨xg_name 3 nd_tells, xf_call (a := (h, wd)) (f_is_stretch T) hr (hp.1.2 h hm) rfl (xl_cons (xf_var 3) (xl_cons (xf_var 2) xl_nil))⟩⟩
    decide
  · intro h hm
    refine ⟨_, _, ?_, fun s0 H0 C cl fp => ⟨xg_name 3 nd_tells, xf_call (a := (h, wd)) (f_is_stretch T) hr (hp.2.2 h hm) rfl (xl_cons (xf_var 3) (xl_cons (xf_var 2) xl_nil))⟩⟩
    decide
theorem f_is_least (T : Tx K mg) : Fu P w K mg base "is_least" 3 (fun a : List Hs × List Hs × Wd => hsOk a.1 ∧ hsOk a.2.1 ∧ a.2.2.length ≤ 1000) (fun a => [eHs a.1, eHs a.2.1, eW a.2.2]) (fun a => .f (.bool (isLeast a.1 a.2.1 a.2.2))) := by
  obtain ⟨fd, F⟩ := k_is_least T
  refine fu_of (g_is_least T) F sc_is_least (fun _ => rfl) (fun _ _ _ _ _ _ us hl => match us, hl with | [_, _, _], _ => rfl) ?_
  rintro q B ⟨inn, out, wd⟩ rfl rfl rfl rfl rfl hr hp hl
  have hz : wd.length ≤ sizeLine := Nat.le_of_lt (sz1 hp.2.2)
  refine wp_one (w1_ret (xf_allM (xo_map [("part", 3)] [cutD wd (some 1) none, cutD wd none (some (-1))] eW (fun p => .bool (eqB p [] || !tells inn out p)) nd_is_least
    (xj_tup (xf_tup (xl_cons (xf_slW (xf_var 2).b (xp_some xf_int.b) xp_none hz) (xl_cons (xf_slW (xf_var 2).b xp_none (xp_some (xf_neg xf_int.b).b) hz) xl_nil)))) ?_ (sz1 (by simp))).b (b_all T)) rfl)
  intro p hm
  refine t1_name 3 nd_is_least (by decide) fun s0 H0 C cl fp => ?_
  exact xf_or (xf_eqG gW (by decide) hr.rm.units (xf_var 3).b (xf_strW (w := [])).b) fun _ => xf_one (xf_not (xf_call (a := (inn, out, p)) (f_tells T) hr ⟨hp.1, hp.2.1⟩ rfl (xl_cons (xf_var 0) (xl_cons (xf_var 1) (xl_cons (xf_var 3) xl_nil)))))
/-- found, behind the houses so far -/
def stF (h : Hs) (ks : List Wd) (Γ : Gm) : Prop := ∃ a b c d : Cl, Γ = [.fr (eH h), .ow (ksD ks), a, b, c, d, .no]
theorem f_stretches (T : Tx K mg) : Fu P w K mg base "stretches" 1 hOk (fun a => [eH a]) (fun a => .o (eL eW (stretches a))) := by
  obtain ⟨fd, F⟩ := k_stretches T
  refine fu_of (g_stretches T) F sc_stretches (fun _ => rfl) (fun _ _ _ _ _ _ us hl => match us, hl with | [_], _ => rfl) ?_
  rintro q B h rfl rfl rfl rfl rfl hr hp hl
  have hu : (q.X n_stretches d_stretches.qual (defScope s_stretches)).A.units + 1 < cLine := by have := hr.rm.units; omega
  refine wp_cons (w1_own 1 nd_stretches xo_dnew ?_)
  refine wp_cons (w1_fold h (e2 D.int eW) (stF h) addText [] (xi_list (xf_var 0)) ⟨.no, .no, .no, .no, rfl⟩ ?_ ?_ q.own)
  · rintro pre ⟨nu, t⟩ post Γ0 es ⟨a, b, c, d, rfl⟩
    have hpre : pre.length ≤ 16 ∧ (∀ p ∈ pre, p.2.length ≤ 100) ∧ t.length ≤ 100 := by
      have h1 := hp.1
      rw [es, List.length_append, List.length_cons] at h1
      refine ⟨by omega, fun p hm => hp.2 p (by rw [es]; exact List.mem_append_left _ hm), hp.2 (nu, t) (by rw [es]; simp)⟩
    have hks := allSub_len pre [] hpre.2.1
    have ht : t.length ≤ sizeLine := le_size (by omega)
    refine ⟨_, _, xg_tup rfl (xgs_cons (xg_name 2 nd_stretches) (xgs_cons (xg_name 3 nd_stretches) xgs_nil)), ?_⟩
    refine wp_one (w1_fold (List.range (t.length : Int).toNat) (fun i : Nat => D.int (0 + (i : Int))) (fun ks Γ => ∃ c d : Cl, Γ = [.fr (eH h), .ow (ksD ks), .fr (.int nu), .fr (eW t), c, d, .no]) (addStart t) (pre.foldl addText []) (xi_rng1 (xf_lenW (xf_var 3).b ht (b_len T)).b ⟨by omega, by omega⟩ rfl (b_range T)) ⟨c, d, rfl⟩ ?_ ?_ q.own)
    · rintro pre2 i post2 Γ0 es2 ⟨c, d, rfl⟩
      have hi : i < t.length := by
        have : i ∈ List.range (t.length : Int).toNat := by rw [es2]; simp
        rw [List.mem_range] at this
        omega
      have hks2 := foldl_len (addStart_len t hpre.2.2) pre2 (pre.foldl addText [])
      have l2 : pre2.length ≤ 100 := by
        have := congrArg List.length es2
        rw [List.length_range, List.length_append, List.length_cons] at this
        omega
      refine ⟨_, _, xg_name 4 nd_stretches, ?_⟩
      refine wp_one (w1_fold (List.range ((t.length : Int) + 1 - (0 + (i : Int) + 1)).toNat) (fun j : Nat => D.int (0 + (i : Int) + 1 + (j : Int))) (fun ks Γ => ∃ d : Cl, Γ = [.fr (eH h), .ow (ksD ks), .fr (.int nu), .fr (eW t), .fr (.int (0 + (i : Int))), d, .no]) (addStop t (0 + (i : Int))) (pre2.foldl (addStart t) (pre.foldl addText []))
        (xi_rng2 (xf_add (xf_var 4).b xf_int.b).b (xf_add (xf_lenW (xf_var 3).b ht (b_len T)).b xf_int.b).b ⟨by omega, by omega, by omega, by omega⟩ rfl (b_range T)) ⟨d, rfl⟩ ?_ ?_ q.own)
      · rintro pre3 j post3 Γ0 es3 ⟨d, rfl⟩
        have hks3 := foldl_len (addStop_len t (0 + (i : Int))) pre3 (pre2.foldl (addStart t) (pre.foldl addText []))
        have l3 : pre3.length ≤ 101 := by
          have := congrArg List.length es3
          rw [List.length_range, List.length_append, List.length_cons] at this
          omega
        refine ⟨_, _, xg_name 5 nd_stretches, ?_⟩
        refine wp_one (w1_addW hu 1 rfl xf_bool (xf_slW (xf_var 3).b (xp_some (xf_var 4).b) (xp_some (xf_var 5).b) ht).b (lt_size ?_) ⟨.fr (.int (0 + (i : Int) + 1 + (j : Int))), rfl⟩)
        simp only [List.length_nil] at hks
        omega
      · rintro Γ0 ⟨d, rfl⟩
        exact ⟨.fr (.int (0 + (i : Int))), d, rfl⟩
    · rintro Γ0 ⟨c, d, rfl⟩
      exact ⟨_, _, _, _, rfl⟩
  · rintro Γ0 ⟨a, b, c, d, rfl⟩
    have hks := allSub_len h [] hp.2
    have hk2 : (h.foldl addText []).length < 16777216 := by have := hp.1; simp only [List.length_nil] at hks; omega
    refine wp_freeze 1 rfl (wp_one (w1_retO (xo_map [("_", 2), ("word", 6)] (((allSub h).map lw).mergeSort (leD (e2 D.int eW))) (e2 D.int eW) (fun p => eW p.2) nd_stretches
      (xj_list (XO.b (xo_sorted (bs := (allSub h).map lw) (g2 gI gW) (a2 aI aW) s2 (by decide) hr.rm.units ((xo_map [("word", 6)] (allSub h) eW (fun w => e2 D.int eW (lw w)) nd_stretches (xj_keysW (xf_var 1)) ?_ (lt_size hk2)).b.to (by rw [List.map_map]; rfl)) (b_sorted T)))) ?_ (lt_size ?_)) (.inl ?_)))
    · intro w hw
      have hwl : w.length ≤ 100 := allSub_le h [] 100 hp.2 (fun _ z => nomatch z) w hw
      exact t1_name 6 nd_stretches (by decide) fun s0 H0 C cl fp => xf_tup (xl_cons (xf_lenW (xf_var 6).b (le_size (by omega)) (b_len T)) (xl_cons (xf_var 6) xl_nil))
    · intro p hpm
      exact t1_tup2 2 6 nd_stretches rfl (by decide) (by decide) rfl fun s0 H0 C cl fp => xf_var 6
    · rw [List.length_mergeSort, List.length_map]
      exact hk2
    · unfold stretches eL
      rw [List.map_map]
      rfl
end
end K88

/-! ## k88: telling_words, first_telling, check_telling -/
namespace K88
open PySem PySem.Spec PyProof.Rows L2 G
/-- what is told where there are inner houses, else the error -/
def ocI (K : PySem.W.Frag) (inn : List Hs) (o : Oc) : Oc := if inn = [] then .x (He.ga K "OutOfRange") 0 else o
def telling (inn out : List Hs) : List Wd := (stretches (inn.headD [])).filter fun w => tells inn out w && isLeast inn out w
def ltW (a b : Wd) : Bool := ltD (e2 D.int eW) (lw a) (lw b)
def goodAt (inn out : List Hs) (ws : List Wd) (k : Nat) : Bool := match ws[k]? with
  | none => true
  | some w => !(eqB w [] || (!tells inn out w || !isLeast inn out w)) && (match k with
    | 0 => true
    | j + 1 => ltW (ws.getD j []) w)
def checkT (inn out : List Hs) (ws : List Wd) : Bool := (List.range ws.length).all (goodAt inn out ws) && (stretches (inn.headD [])).all fun w => !(tells inn out w && !(ws.any fun o => inW o w))
theorem stretches_len (h : Hs) (hp : hOk h) : (stretches h).length ≤ 160000 := by
  have hks := allSub_len h [] hp.2
  have := hp.1
  unfold stretches allSub
  rw [List.length_map, List.length_mergeSort, List.length_map]
  simp only [List.length_nil] at hks
  omega
theorem stretches_le (h : Hs) (hp : hOk h) : ∀ w ∈ stretches h, w.length ≤ 100 := by
  intro w hw
  unfold stretches at hw
  obtain ⟨p, hp1, rfl⟩ := List.mem_map.mp hw
  obtain ⟨v, hv, rfl⟩ := List.mem_map.mp (List.mem_mergeSort.mp hp1)
  exact allSub_le h [] 100 hp.2 (fun _ z => nomatch z) v hv
section
variable {P : Program} {w : World} {K : PySem.W.Frag} {mg : Str → Option Value} {base : Heap}
theorem f_check_inner (T : Tx K mg) : Fu P w K mg base "check_inner" 3 (fun a : List Hs => a.length ≤ 1000) (fun a => [eHs a]) (fun a => ocI K a (.f .none)) := by
  obtain ⟨fd, F⟩ := k_check_inner T
  refine fu_of (g_check_inner T) F sc_check_inner (fun _ => rfl) (fun _ _ _ _ _ _ us hl => match us, hl with | [_], _ => rfl) ?_
  rintro q B inn rfl rfl rfl rfl rfl hr hp hl
  refine wp_one (w1_if (xt_eqG gI (by decide) hr.rm.units (xf_lenL (xf_var 0).b (b_len T)).b xf_int.b) (fun e => ?_) fun e => ?_)
  · have e0 : inn = [] := by
      rw [eqB_iff, List.length_map] at e
      exact List.length_eq_zero_iff.mp (by omega)
    exact wp_one (w1_raise (x_OutOfRange T) hr.rm xf_int.b hl (if_pos e0))
  · have e0 : inn ≠ [] := by
      rintro rfl
      exact absurd e (by decide)
    exact wp_nil (if_neg e0)
theorem head_ok {inn : List Hs} (h : hsOk inn) : hOk (inn.headD []) := by
  cases inn with
  | nil => exact ⟨by decide, fun _ z => nomatch z⟩
  | cons a r => exact h.2 a List.mem_cons_self
theorem f_telling_words (T : Tx K mg) : Fu P w K mg base "telling_words" 4 (fun a : List Hs × List Hs => hsOk a.1 ∧ hsOk a.2) (fun a => [eHs a.1, eHs a.2]) (fun a => ocI K a.1 (.o (eL eW (telling a.1 a.2)))) := by
  obtain ⟨fd, F⟩ := k_telling_words T
  refine fu_of (g_telling_words T) F sc_telling_words (fun _ => rfl) (fun _ _ _ _ _ _ us hl => match us, hl with | [_, _], _ => rfl) ?_
  rintro q B ⟨inn, out⟩ rfl rfl rfl rfl rfl hr hp hl
  by_cases h0 : inn = []
  · exact wp_cons (w1_exprD (xd_call (a := inn) (f_check_inner T) hr hp.1.1 (if_pos h0) hl (if_pos h0) (xl_cons (xf_var 0) xl_nil)))
  · refine wp_cons (w1_expr (xf_call (a := inn) (d := .none) (f_check_inner T) hr hp.1.1 (if_neg h0) (xl_cons (xf_var 0) xl_nil)).b ?_)
    obtain ⟨h, r, rfl⟩ := List.exists_cons_of_ne_nil h0
    have hh := hp.1.2 h List.mem_cons_self
    refine wp_one (w1_retO (xo_filter [("word", 2)] (stretches h) eW (fun w => tells (h :: r) out w && isLeast (h :: r) out w) eW nd_telling_words
      (xj_list (XO.b (xo_call (a := h) (f_stretches T) hr hh rfl (xl_cons (xf_ixL (xf_var 0).b xf_int.b atI_0) xl_nil)))) ?_ (lt_size (Nat.lt_of_le_of_lt (stretches_len h hh) (by decide)))) (.inl (if_neg h0)))
    intro w hw
    have hwl := stretches_le h hh w hw
    refine ts_name 2 nd_telling_words (by decide) (fun s0 H0 C cl fp => ?_) fun e s0 H0 C cl fp => xf_var 2
    exact xts_one (XW.test (xw_and (xt_val (xf_call (a := (h :: r, out, w)) (f_tells T) hr hp rfl (xl_cons (xf_var 0) (xl_cons (xf_var 1) (xl_cons (xf_var 2) xl_nil)))))
      fun _ => xw_and1 (xt_val (xf_call (a := (h :: r, out, w)) (f_is_least T) hr ⟨hp.1, hp.2, Nat.le_trans hwl (by decide)⟩ rfl (xl_cons (xf_var 0) (xl_cons (xf_var 1) (xl_cons (xf_var 2) xl_nil)))))))
def firstT (inn out : List Hs) : Option Wd := (telling inn out).head?
theorem f_first_telling (T : Tx K mg) : Fu P w K mg base "first_telling" 5 (fun a : List Hs × List Hs => hsOk a.1 ∧ hsOk a.2) (fun a => [eHs a.1, eHs a.2]) (fun a => ocI K a.1 (.f (eO eW (firstT a.1 a.2)))) := by
  obtain ⟨fd, F⟩ := k_first_telling T
  refine fu_of (g_first_telling T) F sc_first_telling (fun _ => rfl) (fun _ _ _ _ _ _ us hl => match us, hl with | [_, _], _ => rfl) ?_
  rintro q B ⟨inn, out⟩ rfl rfl rfl rfl rfl hr hp hl
  by_cases h0 : inn = []
  · exact wp_cons (w1_setD nd_first_telling (xd_call (a := (inn, out)) (f_telling_words T) hr hp (if_pos h0) hl (if_pos h0) (xl_cons (xf_var 0) (xl_cons (xf_var 1) xl_nil))) 2)
  · refine wp_cons (w1_set 2 nd_first_telling (xo_call (a := (inn, out)) (f_telling_words T) hr hp (if_neg h0) (xl_cons (xf_var 0) (xl_cons (xf_var 1) xl_nil))).f ?_)
    refine wp_one (w1_ret (d := eO eW (firstT inn out)) (xf_ife (xt_gt (xf_lenL (xf_var 2).b (b_len T)).b xf_int.b) (fun e => ?_) fun e => ?_) (if_neg h0))
    · rw [decide_eq_true_eq, List.length_map] at e
      unfold firstT
      cases ht : telling inn out with
      | nil => rw [ht] at e; exact absurd e (by decide)
      | cons a r => exact xf_ixL (xf_var 2).b xf_int.b atI_0
    · rw [decide_eq_false_iff_not, List.length_map] at e
      unfold firstT
      cases ht : telling inn out with
      | nil => exact xf_none
      | cons a r => rw [ht] at e; exact absurd (by simp) e
def wsOk (ws : List Wd) : Prop := ws.length ≤ 1000000 ∧ ∀ w ∈ ws, w.length ≤ 1000
theorem goodAt_eq {inn out : List Hs} {ws : List Wd} {k : Nat} {w : Wd} (h : ws[k]? = some w) : goodAt inn out ws k = (!(eqB w [] || (!tells inn out w || !isLeast inn out w)) && !(decide (0 < (k : Int)) && !ltW (ws.getD (k - 1) []) w)) := by
  unfold goodAt
  rw [h]
  cases k with
  | zero => rfl
  | succ j =>
    have : decide (0 < ((j + 1 : Nat) : Int)) = true := decide_eq_true (by omega)
    rw [this, Bool.true_and, Bool.not_not]
    rfl
theorem f_check_telling (T : Tx K mg) : Fu P w K mg base "check_telling" 4 (fun a : List Hs × List Hs × List Wd => hsOk a.1 ∧ hsOk a.2.1 ∧ wsOk a.2.2) (fun a => [eHs a.1, eHs a.2.1, eL eW a.2.2]) (fun a => ocI K a.1 (.f (.bool (checkT a.1 a.2.1 a.2.2)))) := by
  obtain ⟨fd, F⟩ := k_check_telling T
  refine fu_of (g_check_telling T) F sc_check_telling (fun _ => rfl) (fun _ _ _ _ _ _ us hl => match us, hl with | [_, _, _], _ => rfl) ?_
  rintro q B ⟨inn, out, ws⟩ rfl rfl rfl rfl rfl hr hp hl
  by_cases h0 : inn = []
  · exact wp_cons (w1_exprD (xd_call (a := inn) (f_check_inner T) hr hp.1.1 (if_pos h0) hl (if_pos h0) (xl_cons (xf_var 0) xl_nil)))
  obtain ⟨h, r, rfl⟩ := List.exists_cons_of_ne_nil h0
  have hh := hp.1.2 h List.mem_cons_self
  have hwz : ws.length < 2 ^ 62 := Nat.lt_of_le_of_lt hp.2.2.1 (by decide)
  refine wp_cons (w1_expr (xf_call (a := h :: r) (d := .none) (f_check_inner T) hr hp.1.1 (if_neg h0) (xl_cons (xf_var 0) xl_nil)).b ?_)
  refine wp_cons (w1_each (List.range ws.length) (fun i : Nat => D.int (i : Int)) (fun Γ => ∃ a : Cl, Γ = [.fr (eHs (h :: r)), .fr (eHs out), .fr (eL eW ws), a, .no, .no]) (goodAt (h :: r) out ws) (xi_rgN ((xf_lenL (xf_var 2).b (b_len T)).b.to (by rw [List.length_map])) hwz rfl (b_range T)) ⟨.no, rfl⟩ ?_ ?_ q.own)
  · rintro pre k post Γ0 es hpre ⟨a, rfl⟩
    have hk : k < ws.length := by
      have : k ∈ List.range ws.length := by rw [es]; simp
      exact List.mem_range.mp this
    obtain ⟨wd, hwd⟩ : ∃ wd, ws[k]? = some wd := ⟨_, List.getElem?_eq_getElem hk⟩
    have hwm : wd ∈ ws := List.mem_of_getElem? hwd
    have hwl := hp.2.2.2 wd hwm
    have fin : goodAt (h :: r) out ws k = false → checkT (h :: r) out ws = false := fun e => by
      unfold checkT
      rw [Bool.and_eq_false_iff, List.all_eq_false]
      exact .inl ⟨k, List.mem_range.mpr hk, by rw [e]; exact Bool.false_ne_true⟩
    refine ⟨_, _, xg_name 3 nd_check_telling, ?_⟩
    have at_k : atI (ws.map eW) (k : Int) = some (eW wd) := atI_map (atI_int (by omega) (by rw [Int.toNat_natCast]; exact hwd))
    have wx : ∀ {pn p2 p3 : Pos}, XF B (q.X n_check_telling d_check_telling.qual (defScope s_check_telling)) (.Subscript (.Name "words" pn) (.Name "k" p2) p3) [.fr (eHs (h :: r)), .fr (eHs out), .fr (eL eW ws), .fr (.int (k : Int)), .no, .no] (eW wd) := xf_ixL (xf_var 2).b (xf_var 3).b at_k
    refine wp_cons (w1_if (XW.test (xw_or (xt_eqG gW (by decide) hr.rm.units wx.b (xf_strW (w := [])).b) fun _ => xw_or (xt_not (xt_val (xf_call (a := (h :: r, out, wd)) (f_tells T) hr ⟨hp.1, hp.2.1⟩ rfl (xl_cons (xf_var 0) (xl_cons (xf_var 1) (xl_cons wx xl_nil))))))
        fun _ => xw_or1 (xt_not (xt_val (xf_call (a := (h :: r, out, wd)) (f_is_least T) hr ⟨hp.1, hp.2.1, hwl⟩ rfl (xl_cons (xf_var 0) (xl_cons (xf_var 1) (xl_cons wx xl_nil)))))))) (fun e => ?_) fun e => ?_)
    · exact wp_one (w1_ret xf_bool ((if_neg h0).trans (by rw [fin (by rw [goodAt_eq hwd, e]; rfl)])))
    · refine wp_nil ?_
      refine wp_one (w1_if (XW.test (xw_and (l := !ltW (ws.getD (k - 1) []) wd) (xt_gt (xf_var 3).b xf_int.b) fun hk0 => ?_)) (fun e2 => ?_) fun e2 => ?_)
      · have hk1 : k - 1 < ws.length := by omega
        have h0k : 0 < (k : Int) := of_decide_eq_true hk0
        obtain ⟨pv, hpv⟩ : ∃ pv, ws[k - 1]? = some pv := ⟨_, List.getElem?_eq_getElem hk1⟩
        have epv : ws.getD (k - 1) [] = pv := by rw [List.getD_eq_getElem?_getD, hpv]; rfl
        have hpl := hp.2.2.2 pv (List.mem_of_getElem? hpv)
        have at_p : atI (ws.map eW) ((k : Int) - 1) = some (eW pv) := atI_map (atI_int (by omega) (by rw [show ((k : Int) - 1).toNat = k - 1 by omega]; exact hpv))
        have px : ∀ {pn p2 p3 p4 p5 : Pos} {j : Nat}, XF B (q.X n_check_telling d_check_telling.qual (defScope s_check_telling)) (.Subscript (.Name "words" pn) (.BinOp (.Name "k" p2) .Sub (.Constant (.int 1) j p5) p4) p3) [.fr (eHs (h :: r)), .fr (eHs out), .fr (eL eW ws), .fr (.int (k : Int)), .no, .no] (eW pv) := xf_ixL (xf_var 2).b (xf_sub (xf_var 3).b xf_int.b).b at_p
        rw [epv]
        exact xw_and1 (xt_geG (ea := e2 D.int eW) (a := lw pv) (b := lw wd) (g2 gI gW) (a2 aI aW) (by decide) hr.rm.units (by simp [e2, D.py]) (XF.b (xf_tup (xl_cons (xf_lenW px.b (le_size (Nat.le_trans hpl (by decide))) (b_len T)) (xl_cons px xl_nil)))) (XF.b (xf_tup (xl_cons (xf_lenW wx.b (le_size (Nat.le_trans hwl (by decide))) (b_len T)) (xl_cons wx xl_nil)))))
      · exact wp_one (w1_ret xf_bool ((if_neg h0).trans (by rw [fin (by rw [goodAt_eq hwd, e2, Bool.not_true, Bool.and_false])])))
      · exact wp_nil ⟨⟨_, rfl⟩, by rw [goodAt_eq hwd, e, e2]; rfl⟩
  · rintro Γ0 hall ⟨a, rfl⟩
    refine wp_cons (w1_each (stretches h) eW (fun Γ => ∃ a b : Cl, Γ = [.fr (eHs (h :: r)), .fr (eHs out), .fr (eL eW ws), a, b, .no]) (fun w => !(tells (h :: r) out w && !(ws.any fun o => inW o w)))
      (xi_list (xo_call (a := h) (f_stretches T) hr hh rfl (xl_cons (xf_ixL (xf_var 0).b xf_int.b atI_0) xl_nil)).f) ⟨_, _, rfl⟩ ?_ ?_ q.own)
    · rintro pre wd post Γ0 es hpre ⟨a, b, rfl⟩
      have hwm : wd ∈ stretches h := by rw [es]; simp
      refine ⟨_, _, xg_name 4 nd_check_telling, ?_⟩
      refine wp_one (w1_if (XW.test (xw_and (xt_val (xf_call (a := (h :: r, out, wd)) (f_tells T) hr ⟨hp.1, hp.2.1⟩ rfl (xl_cons (xf_var 0) (xl_cons (xf_var 1) (xl_cons (xf_var 4) xl_nil)))))
        fun _ => xw_and1 (xt_not (xt_val (xf_anyM (xo_map [("other", 5)] ws eW (fun o => .bool (inW o wd)) nd_check_telling (xj_list (xf_var 2).b) ?_ (lt_size (Nat.lt_of_le_of_lt hp.2.2.1 (by decide)))).b (b_any T)))))) (fun e => ?_) fun e => ?_)
      · intro o ho
        exact t1_name 5 nd_check_telling (by decide) fun s0 H0 C cl fp => xf_inW (xf_var 5).b (xf_var 4).b
      · refine wp_one (w1_ret xf_bool ((if_neg h0).trans ?_))
        have : checkT (h :: r) out ws = false := by
          unfold checkT
          rw [Bool.and_eq_false_iff]
          refine .inr (List.all_eq_false.mpr ⟨wd, hwm, ?_⟩)
          rw [e]
          decide
        rw [this]
      · exact wp_nil ⟨⟨_, _, rfl⟩, by rw [e]; rfl⟩
    · rintro Γ0 hall2 ⟨a, b, rfl⟩
      refine wp_one (w1_ret xf_bool ((if_neg h0).trans ?_))
      have : checkT (h :: r) out ws = true := by
        unfold checkT
        rw [Bool.and_eq_true]
        exact ⟨List.all_eq_true.mpr hall, List.all_eq_true.mpr hall2⟩
      rw [this]
end
end K88

/-! ## k88: what the law draws -/
namespace K88
open PySem PySem.Spec PyProof.Rows L2 G
section
variable {P : Program} {w : World} {K : PySem.W.Frag} {mg : Str → Option Value} {base : Heap}
theorem f_law_numbers (T : Tx K mg) : Fu P w K mg base "_law_numbers" 1 (fun a : List Int × Nat => a.1.length ≤ 63 ∧ a.2 ≤ 1000000) (fun a => [.list (a.1.map D.int), .int a.2]) (fun a => .o (.list ((numsD a.1 a.2).map D.int))) := by
  obtain ⟨fd, F⟩ := k_law_numbers T
  refine fu_of (g_law_numbers T) F sc_law_numbers (fun _ => rfl) (fun _ _ _ _ _ _ us hl => match us, hl with | [_, _], _ => rfl) ?_
  rintro q B ⟨script, count⟩ rfl rfl rfl rfl rfl hr hp hl
  have hsl : script.length ≤ 63 := hp.1
  have hcl : count ≤ 1000000 := hp.2
  refine wp_cons (w1_own (d := .list (((script.take 63).map fun c : Int => (c.natAbs : Int)) ++ [0] |>.map D.int)) 2 nd_law_numbers (xo_catE (ys := [0]) ((xo_map [("cell", 3)] (script.take 63) D.int (fun c : Int => D.int (c.natAbs : Int)) nd_law_numbers
    (xj_list ((xo_slE (xf_var 0).b xp_none (xp_some xf_int.b)).b.to (by rw [← cutD_upto]; rfl))) ?_ (lt_size (by rw [List.length_take]; omega))).b.to (by rw [List.map_map]; rfl)) (XO.b (xo_lst (xl_cons xf_int xl_nil))) (le_size (by simp; omega))) ?_)
  · intro c hc
    exact t1_name 3 nd_law_numbers (by decide) fun s0 H0 C cl fp => xf_abs (xf_var 3).b (b_abs T)
  refine wp_cut (fun Γ => Γ = [.fr (.list (script.map D.int)), .fr (.int count), .ow (.list ((restD script).map D.int)), .no, .no, .no, .no, .no]) ?_ ?_
  · refine w1_if (xt_gt (xf_lenE (xf_var 0).b (b_len T)).b xf_int.b) (fun e => ?_) fun e => ?_
    · refine wp_one (w1_own 2 nd_law_numbers (xo_slE (xb_own 2) xp_none (xp_some (xf_neg xf_int.b).b)) ?_)
      rw [cutD_last, List.dropLast_concat]
      unfold restD
      rw [if_neg (by rintro rfl; exact absurd e (by simp))]
      rfl
    · refine wp_nil ?_
      have : script = [] := by
        have e2 : ¬ (0 < (script.length : Int)) := of_decide_eq_false e
        exact List.length_eq_zero_iff.mp (by omega)
      subst this
      rfl
  rintro Γ rfl
  have hn : 0 < (restD script).length := restD_pos script
  have hn63 : (restD script).length ≤ 63 := by
    unfold restD
    split
    · decide
    · rw [List.length_map, List.length_take]; omega
  refine wp_cons (w1_lc 4 [("cell", 3)] (restD script) D.int (fun _ => true) (fun c => D.int (mixD c)) nd_law_numbers (xj_list (xb_own 2)) ?_ (lt_size (by omega)) ?_ (blkOk_by rfl))
  · intro c hc
    exact Turn1.turns (t1_name 3 nd_law_numbers (by decide) fun s0 H0 C cl fp => xf_mod (xf_int1 (XF.b (xf_add (XF.b (xf_mul (xf_var 3).b xf_int.b (.inr (by decide)))) xf_int.b)) (b_int T)).b xf_int.b (by decide))
  rw [filt_true]
  refine wp_cons (w1_own 5 nd_law_numbers (xo_lst xl_nil) ?_)
  refine wp_cons (w1_fold (List.range count) (fun i : Nat => D.int (i : Int)) (fun s Γ => s.1.length = (restD script).length ∧ s.2.1.length = (restD script).length ∧ ∃ a b : Cl, Γ = [.fr (.list (script.map D.int)), .fr (.int count), .ow (.list (s.1.map D.int)), .no, .ow (.list (s.2.1.map D.int)), .ow (.list (s.2.2.map D.int)), a, b])
    stepD (restD script, (restD script).map mixD, []) (xi_rgN (xf_var 1).b (Nat.lt_of_le_of_lt hcl (by decide)) rfl (b_range T)) ⟨rfl, List.length_map .., .no, .no, ?_⟩ ?_ ?_ q.own)
  · show [_, _, _, _, _, _, _, _] = _
    rw [List.map_map]
    rfl
  · rintro pre k post Γ0 es ⟨h1, h2, a, b, rfl⟩
    have hpre := (foldD_inv pre (s := (restD script, (restD script).map mixD, [])) ⟨rfl, List.length_map ..⟩).2.2
    have hpl : pre.length ≤ count := by
      have := congrArg List.length es
      rw [List.length_range, List.length_append, List.length_cons] at this
      omega
    generalize List.foldl stepD (restD script, (restD script).map mixD, []) pre = s at *
    obtain ⟨rest, mixed, nums⟩ := s
    dsimp only at h1 h2 hpre
    have hm0 : 0 ≤ (k : Int) % rest.length := Int.emod_nonneg _ (by omega)
    have hm1 : (k : Int) % rest.length < rest.length := Int.emod_lt_of_pos _ (by omega)
    have hj : ((k : Int) % rest.length).toNat < rest.length := by omega
    have hrp : (0 : Int) < rest.length := by rw [h1]; omega
    have hm2 : (k : Int) % rest.length < mixed.length := by rw [h2, ← h1]; exact hm1
    have hj2 : ((k : Int) % rest.length).toNat < mixed.length := by rw [h2, ← h1]; exact hj
    have hnl : nums.length < sizeLine := lt_size (by rw [hpre]; simp; omega)
    refine ⟨_, _, xg_name 6 nd_law_numbers, ?_⟩
    refine wp_cons (w1_set 7 nd_law_numbers (xf_mod (xf_int1 (xf_var 6).b (b_int T)).b (xf_lenE (xb_own 2) (b_len T)).b hrp) ?_)
    have at_r : atI rest ((k : Int) % rest.length) = some (rest.getD ((k : Int) % rest.length).toNat 0) := atI_int hm0 (by rw [List.getD_eq_getElem?_getD, List.getElem?_eq_getElem hj]; rfl)
    have at_m : atI mixed ((k : Int) % rest.length) = some (mixed.getD ((k : Int) % rest.length).toNat 0) := atI_int hm0 (by rw [List.getD_eq_getElem?_getD, List.getElem?_eq_getElem hj2]; rfl)
    refine wp_one (w1_if (xt_ge (xf_ixE (xb_own 2) (xf_var 7).b at_r).b (xf_pow xf_int.b xf_int.b ⟨by decide, by decide, by decide⟩).b) (fun e => ?_) fun e => ?_)
    · have e' : (10 : Int) ^ 18 ≤ rest.getD ((k : Int) % rest.length).toNat 0 := of_decide_eq_true e
      refine wp_cons (w1_appendE 5 rfl (xf_mod (xf_int1 (xf_ixE (xb_own 2) (xf_var 7).b at_r).b (b_int T)).b xf_int.b (by decide)) hnl ?_)
      refine wp_one (w1_setE 2 rfl (xf_div (xf_ixE (xb_own 2) (xf_var 7).b at_r).b xf_int.b ⟨by decide, by decide⟩) (xf_var 7).b (ixN_ok hm0 hm1) ?_)
      have hs : stepD (rest, mixed, nums) k = (rest.set ((k : Int) % rest.length).toNat (rest.getD ((k : Int) % rest.length).toNat 0 / 65536), mixed, nums ++ [rest.getD ((k : Int) % rest.length).toNat 0 % 65536]) := by
        unfold stepD
        rw [if_pos e']
      rw [hs]
      exact ⟨by rw [List.length_set]; exact h1, h2, _, _, rfl⟩
    · have e' : ¬ (10 : Int) ^ 18 ≤ rest.getD ((k : Int) % rest.length).toNat 0 := of_decide_eq_false e
      refine wp_cons (w1_setE 4 rfl (xf_mod (xf_int1 (xf_add (xf_add (xf_mul (xf_ixE (xb_own 4) (xf_var 7).b at_m).b xf_int.b (.inr (by decide))).b xf_int.b).b (xf_mul xf_int.b (xf_var 6).b (.inl (by decide))).b).b (b_int T)).b xf_int.b (by decide)) (xf_var 7).b (ixN_ok hm0 hm2) ?_)
      have at_m2 : ∀ v : Int, atI (mixed.set ((k : Int) % rest.length).toNat v) ((k : Int) % rest.length) = some v := fun v => atI_int hm0 (List.getElem?_set_self hj2)
      refine wp_one (w1_appendE 5 rfl (xf_mod (xf_int1 (xf_add (xf_ixE (xb_own 2) (xf_var 7).b at_r).b (xf_div (xf_ixE (xb_own 4) (xf_var 7).b (at_m2 _)).b xf_int.b ⟨by decide, by decide⟩).b).b (b_int T)).b xf_int.b (by decide)) hnl ?_)
      have hs : stepD (rest, mixed, nums) k = (rest, mixed.set ((k : Int) % rest.length).toNat ((mixed.getD ((k : Int) % rest.length).toNat 0 * 16807 + 12345 + 7919 * k) % 2147483647),
          nums ++ [(rest.getD ((k : Int) % rest.length).toNat 0 + (mixed.getD ((k : Int) % rest.length).toNat 0 * 16807 + 12345 + 7919 * k) % 2147483647 / 5) % 65536]) := by
        unfold stepD
        rw [if_neg e']
      rw [hs]
      exact ⟨h1, by rw [List.length_set]; exact h2, _, _, rfl⟩
  · rintro Γ0 ⟨h1, h2, a, b, rfl⟩
    exact wp_one (w1_retW 5 rfl (.inl rfl))
end
end K88

/-! ## k88: texts and houses that the law draws -/
namespace K88
open PySem PySem.Spec PyProof.Rows L2 G
section
variable {P : Program} {w : World} {K : PySem.W.Frag} {mg : Str → Option Value} {base : Heap}
theorem f_law_drawn (T : Tx K mg) : Fu P w K mg base "_law_drawn" 1 (fun a : List Int × Int => NsOk a.1) (fun a => [.list (a.1.map D.int), .int a.2]) (fun a => .f (.int (drawnD a.1 a.2))) := by
  obtain ⟨fd, F⟩ := k_law_drawn T
  refine fu_of (g_law_drawn T) F sc_law_drawn (fun _ => rfl) (fun _ _ _ _ _ _ us hl => match us, hl with | [_, _], _ => rfl) ?_
  rintro q B ⟨ns, at_⟩ rfl rfl rfl rfl rfl hr hp hl
  have h0 : (0 : Int) < ns.length := by have := hp.1; exact Int.ofNat_lt.mpr this
  exact wp_one (w1_ret (xf_ixE (xf_var 0).b (XF.b (xf_mod (xf_int1 (xf_var 1).b (b_int T)).b (xf_lenE (xf_var 0).b (b_len T)).b h0)) (drawnD_at hp at_)) rfl)
theorem f_law_signs (T : Tx K mg) : Fu P w K mg base "_law_signs" 1 (fun a : Int × Nat => a.2 ≤ 94) (fun a => [.int a.1, .int a.2]) (fun a => .f (eW (signD a.1 a.2))) := by
  obtain ⟨fd, F⟩ := k_law_signs T
  refine fu_of (g_law_signs T) F sc_law_signs (fun _ => rfl) (fun _ _ _ _ _ _ us hl => match us, hl with | [_, _], _ => rfl) ?_
  rintro q B ⟨at_, many⟩ rfl rfl rfl rfl rfl hr hp hl
  have hm : many ≤ 94 := hp
  refine wp_cons (w1_set 2 nd_law_signs (xf_strW (w := signsD)) ?_)
  have hq : (0 : Int) < 95 - (many : Int) := by omega
  have z1 : signsD.length ≤ sizeLine := le_size (by decide)
  generalize hg : signsD = sg at z1 ⊢
  have z2 : ∀ a b, (G.cutD sg a b).length ≤ sizeLine := fun a b => Nat.le_trans (cutD_le _ _ _) z1
  refine wp_one (w1_ret (d := eW (G.cutD (G.cutD sg (some (at_ % (95 - (many : Int)))) none) none (some (many : Int)))) (xf_slW (XF.b (xf_slW (xf_var 2).b (xp_some (XF.b (xf_mod (xf_int1 (xf_var 0).b (b_int T)).b (XF.b (xf_sub xf_int.b (xf_var 1).b)) hq))) xp_none z1)) xp_none (xp_some (xf_var 1).b) (z2 _ _)) ?_)
  show Oc.f (eW (signD at_ many)) = _
  unfold signD
  rw [hg]
theorem f_law_text (T : Tx K mg) : Fu P w K mg base "_law_text" 2 (fun a : List Int × Int × Nat => NsOk a.1 ∧ a.2.2 ≤ 1000) (fun a => [.list (a.1.map D.int), .int a.2.1, .int a.2.2]) (fun a => .f (eW (textD a.1 a.2.1 a.2.2))) := by
  obtain ⟨fd, F⟩ := k_law_text T
  refine fu_of (g_law_text T) F sc_law_text (fun _ => rfl) (fun _ _ _ _ _ _ us hl => match us, hl with | [_, _, _], _ => rfl) ?_
  rintro q B ⟨ns, at_, most⟩ rfl rfl rfl rfl rfl hr hp hl
  have hm : most ≤ 1000 := hp.2
  obtain ⟨d0, d1⟩ := drawnD_mem hp.1 at_
  obtain ⟨l1, l2, l3⟩ := lettersD_ok (drawnD ns at_) d0
  refine wp_cons (w1_set 3 nd_law_text (xf_call (a := (ns, at_)) (f_law_drawn T) hr hp.1 rfl (xl_cons (xf_var 0) (xl_cons (xf_var 1) xl_nil))) ?_)
  refine wp_cons (w1_set (d := eW (lettersD (drawnD ns at_))) 4 nd_law_text (xf_ixE (en := eW) (XO.b (xo_lst (ds := [[97, 98], [97, 98, 99], [97], [97, 97, 98], [120, 121, 32, 122], [98, 97, 126, 33], [97, 98, 99, 100, 101, 102, 103, 104], signD (drawnD ns at_ / 8) 4].map eW)
    (xl_cons xf_strW (xl_cons xf_strW (xl_cons xf_strW (xl_cons xf_strW (xl_cons xf_strW (xl_cons xf_strW (xl_cons xf_strW (xl_cons (xf_call (a := (drawnD ns at_ / 8, 4)) (f_law_signs T) hr (show 4 ≤ 94 by decide) rfl (xl_cons (xf_div (xf_var 3).b xf_int.b ⟨by decide, by decide⟩) (xl_cons xf_int xl_nil))) xl_nil))))))))))
    (XF.b (xf_mod (xf_int1 (xf_var 3).b (b_int T)).b xf_int.b (by decide))) ?_) ?_)
  · have h0 := Int.emod_nonneg (drawnD ns at_) (b := 8) (by decide)
    have h1 := Int.emod_lt_of_pos (drawnD ns at_) (b := 8) (by decide)
    refine atI_int h0 ?_
    unfold lettersD
    rw [List.getD_eq_getElem?_getD, List.getElem?_eq_getElem (by simp; omega)]
    rfl
  generalize hL : lettersD (drawnD ns at_) = L at *
  have hlz : L.length ≤ sizeLine := le_size (by omega)
  have hm1 : (0 : Int) < (most : Int) + 1 := by omega
  have hs0 := Int.emod_nonneg (drawnD ns at_ / 8) (b := (most : Int) + 1) (by omega)
  have hs1 := Int.emod_lt_of_pos (drawnD ns at_ / 8) hm1
  refine wp_cons (w1_set 5 nd_law_text (xf_mod (xf_int1 (XF.b (xf_div (xf_var 3).b xf_int.b ⟨by decide, by decide⟩)) (b_int T)).b (XF.b (xf_add (xf_var 2).b xf_int.b)) hm1) ?_)
  refine wp_cons (w1_set 6 nd_law_text (xf_mod (xf_int1 (XF.b (xf_div (xf_var 3).b xf_int.b ⟨by decide, by decide⟩)) (b_int T)).b xf_int.b (by decide)) ?_)
  have hu0 := Int.emod_nonneg (drawnD ns at_ / 1600) (b := 5) (by decide)
  have hu1 := Int.emod_lt_of_pos (drawnD ns at_ / 1600) (b := 5) (by decide)
  refine wp_cons (w1_if (xt_eqG gI (by decide) hr.rm.units (xf_var 6).b xf_int.b) (fun e => ?_) fun e => ?_)
  · refine wp_cons (w1_set (d := eW (rowD ns L at_ (1 + drawnD ns at_ / 1600 % 5).toNat)) 7 nd_law_text (XF.to (xf_joinW (ws := (List.range (1 + drawnD ns at_ / 1600 % 5).toNat).map fun j : Nat => [pickD L (drawnD ns (at_ + 1 + (j : Int)))]) (xf_strW (w := [])).b
      (XB.to (XO.b (xo_map [("j", 8)] (List.range (1 + drawnD ns at_ / 1600 % 5).toNat) (fun j : Nat => D.int (j : Int)) (fun j : Nat => eW [pickD L (drawnD ns (at_ + 1 + (j : Int)))]) nd_law_text
        (xj_rgN (XB.to (XF.b (xf_add xf_int.b (XF.b (xf_mod (xf_int1 (XF.b (xf_div (xf_var 3).b xf_int.b ⟨by decide, by decide⟩)) (b_int T)).b xf_int.b (by decide))))) (by rw [Int.toNat_of_nonneg (by omega)])) (by omega) rfl (b_range T)) ?_ (lt_size (by rw [List.length_range]; omega)))) (by rw [List.map_map]; rfl)) ?_) (by rw [flat1]; rfl)) ?_)
    · intro j hj
      exact t1_name 8 nd_law_text (by decide) fun s0 H0 C cl fp => xf_ixW (xf_var 4).b (XF.b (xf_mod (XF.b (xf_int1 (XF.b (xf_call (a := (ns, at_ + 1 + (j : Int))) (f_law_drawn T) hr hp.1 rfl (xl_cons (xf_var 0) (xl_cons (xf_add (XF.b (xf_add (xf_var 1).b xf_int.b)) (xf_var 8).b) xl_nil)))) (b_int T)))
        (XF.b (xf_lenW (xf_var 4).b hlz (b_len T))) (by omega))) hlz (pickD_at l2 _)
    · rw [flat1, List.length_map, List.length_range]
      omega
    · have hrl : (rowD ns L at_ (1 + drawnD ns at_ / 1600 % 5).toNat).length ≤ 5 := by rw [rowD_len]; omega
      refine wp_one (w1_ret (xf_slW (XF.b (xf_mulW (xf_var 7).b (XF.b (xf_add (xf_var 2).b xf_int.b)) ⟨by omega, by omega⟩ (le_size ?_))) xp_none (xp_some (xf_var 5).b) (le_size ?_)) ?_)
      · have : (rowD ns L at_ (1 + drawnD ns at_ / 1600 % 5).toNat).length * ((most : Int) + 1).toNat ≤ 5 * 1001 := Nat.mul_le_mul hrl (by omega)
        exact Nat.le_trans this (by decide)
      · rw [mul_len]
        have : ((most : Int) + 1).toNat * (rowD ns L at_ (1 + drawnD ns at_ / 1600 % 5).toNat).length ≤ 1001 * 5 := Nat.mul_le_mul (by omega) hrl
        exact Nat.le_trans this (by decide)
      · show Oc.f (eW (textD ns at_ most)) = _
        unfold textD
        rw [if_pos e, hL]
  · refine wp_nil (wp_one (w1_ret (d := eW (rowD ns L at_ (drawnD ns at_ / 8 % ((most : Int) + 1)).toNat)) (XF.to (xf_joinW (ws := (List.range (drawnD ns at_ / 8 % ((most : Int) + 1)).toNat).map fun j : Nat => [pickD L (drawnD ns (at_ + 1 + (j : Int)))]) (xf_strW (w := [])).b
      (XB.to (XO.b (xo_map [("j", 8)] (List.range (drawnD ns at_ / 8 % ((most : Int) + 1)).toNat) (fun j : Nat => D.int (j : Int)) (fun j : Nat => eW [pickD L (drawnD ns (at_ + 1 + (j : Int)))]) nd_law_text
        (xj_rgN (XB.to (xf_var 5).b (by rw [Int.toNat_of_nonneg (by omega)])) (by omega) rfl (b_range T)) ?_ (lt_size (by rw [List.length_range]; omega)))) (by rw [List.map_map]; rfl)) ?_) (by rw [flat1]; rfl)) ?_))
    · intro j hj
      exact t1_name 8 nd_law_text (by decide) fun s0 H0 C cl fp => xf_ixW (xf_var 4).b (XF.b (xf_mod (XF.b (xf_int1 (XF.b (xf_call (a := (ns, at_ + 1 + (j : Int))) (f_law_drawn T) hr hp.1 rfl (xl_cons (xf_var 0) (xl_cons (xf_add (XF.b (xf_add (xf_var 1).b xf_int.b)) (xf_var 8).b) xl_nil)))) (b_int T)))
        (XF.b (xf_lenW (xf_var 4).b hlz (b_len T))) (by omega))) hlz (pickD_at l2 _)
    · rw [flat1, List.length_map, List.length_range]
      omega
    · show Oc.f (eW (textD ns at_ most)) = _
      unfold textD
      rw [if_neg (by rw [e]; exact Bool.false_ne_true), hL]
end
end K88

/-! ## k88: houses that the law draws -/
namespace K88
open PySem PySem.Spec PyProof.Rows L2 G
section
variable {P : Program} {w : World} {K : PySem.W.Frag} {mg : Str → Option Value} {base : Heap}
theorem eqM {x : Int} : PyData.eqv (D.int x).py (D.int x).py = true := by simp [D.py, PyData.eqv]
theorem f_law_house (T : Tx K mg) : Fu P w K mg base "_law_house" 3 (fun a : List Int × Int × Nat × Nat => NsOk a.1 ∧ a.2.2.1 ≤ 1000 ∧ a.2.2.2 ≤ 1000) (fun a => [.list (a.1.map D.int), .int a.2.1, .int a.2.2.1, .int a.2.2.2]) (fun a => .f (eH (houseD a.1 a.2.1 a.2.2.1 a.2.2.2))) := by
  obtain ⟨fd, F⟩ := k_law_house T
  refine fu_of (g_law_house T) F sc_law_house (fun _ => rfl) (fun _ _ _ _ _ _ us hl => match us, hl with | [_, _, _, _], _ => rfl) ?_
  rintro q B ⟨ns, at_, texts, most⟩ rfl rfl rfl rfl rfl hr hp hl
  have hN : NsOk ns := hp.1
  have ht : texts ≤ 1000 := hp.2.1
  have hm : most ≤ 1000 := hp.2.2
  have hz0 := Int.emod_nonneg (drawnD ns at_) (b := (texts : Int) + 1) (by omega)
  have hz1 := Int.emod_lt_of_pos (drawnD ns at_) (b := (texts : Int) + 1) (by omega)
  have hpos : (0 : Int) < (texts : Int) + 1 := by omega
  refine wp_cons (w1_own 4 nd_law_house (xo_lst xl_nil) ?_)
  refine wp_cons (w1_set 5 nd_law_house (xf_neg xf_int.b) ?_)
  refine wp_cons (w1_fold (List.range (drawnD ns at_ % ((texts : Int) + 1)).toNat) (fun i : Nat => D.int (i : Int)) (fun s Γ => ∃ a b : Cl, Γ = [.fr (.list (ns.map D.int)), .fr (.int at_), .fr (.int texts), .fr (.int most), .ow (.list (s.1.map (e2 D.int eW))), .fr (.int s.2), a, b])
    (houseStep ns at_ most) ([], -1) (xi_rgN (XB.to (XF.b (xf_mod (XF.b (xf_int1 (XF.b (xf_call (a := (ns, at_)) (f_law_drawn T) hr hN rfl (xl_cons (xf_var 0) (xl_cons (xf_var 1) xl_nil)))) (b_int T))) (XF.b (xf_add (xf_var 2).b xf_int.b)) hpos)) (by rw [Int.toNat_of_nonneg hz0])) (by omega) rfl (b_range T)) ⟨.no, .no, rfl⟩ ?_ ?_ q.own)
  · rintro pre k post Γ0 es ⟨a, b, rfl⟩
    have hinv := houseFold_inv hN at_ most pre (s := ([], -1)) (n := 0) ⟨rfl, (fun _ z => nomatch z), by decide, by decide⟩
    have hpl : pre.length < (drawnD ns at_ % ((texts : Int) + 1)).toNat := by
      have := congrArg List.length es
      rw [List.length_range, List.length_append, List.length_cons] at this
      omega
    have hk : k = pre.length := by
      have e1 : (List.range (drawnD ns at_ % ((texts : Int) + 1)).toNat)[pre.length]? = some k := by rw [es]; simp
      rw [List.getElem?_range hpl] at e1
      exact (Option.some.inj e1).symm
    generalize List.foldl (houseStep ns at_ most) ([], -1) pre = s at *
    obtain ⟨hs, num⟩ := s
    obtain ⟨i1, i2, i3, i4⟩ := hinv
    dsimp only at i1 i2 i3 i4
    rw [Nat.zero_add] at i1
    have dk := drawnD_mem hN (at_ + 1 + (k : Int))
    obtain ⟨t1, t2⟩ := textD_ok hN (at_ + 10 + 43 * (k : Int)) most
    refine ⟨_, _, xg_name 6 nd_law_house, ?_⟩
    refine wp_cons (w1_set 5 nd_law_house (xf_add (XF.b (xf_add (xf_var 5).b xf_int.b)) (XF.b (xf_mod (XF.b (xf_int1 (XF.b (xf_call (a := (ns, at_ + 1 + (k : Int))) (f_law_drawn T) hr hN rfl (xl_cons (xf_var 0) (xl_cons (xf_add (XF.b (xf_add (xf_var 1).b xf_int.b)) (xf_var 6).b) xl_nil)))) (b_int T))) xf_int.b (by decide)))) ?_)
    refine wp_cons (w1_set 7 nd_law_house (xf_call (a := (ns, at_ + 10 + 43 * (k : Int), most)) (f_law_text T) hr ⟨hN, hm⟩ rfl (xl_cons (xf_var 0) (xl_cons (xf_add (XF.b (xf_add (xf_var 1).b xf_int.b)) (XF.b (xf_mul xf_int.b (xf_var 6).b (.inl (by decide))))) (xl_cons (xf_var 3) xl_nil)))) ?_)
    refine wp_cut (fun Γ => Γ = [.fr (.list (ns.map D.int)), .fr (.int at_), .fr (.int texts), .fr (.int most), .ow (.list (hs.map (e2 D.int eW))), .fr (.int (num + 1 + drawnD ns (at_ + 1 + (k : Int)) % 12)), .fr (.int (k : Int)),
      .fr (eW (if (decide (0 < (k : Int)) && eqB (drawnD ns (at_ + 400 + (k : Int)) % 4) 1) = true then G.cutD ((hs.getD (k - 1) (0, [])).2 ++ textD ns (at_ + 10 + 43 * (k : Int)) most) none (some (most : Int)) else textD ns (at_ + 10 + 43 * (k : Int)) most))]) ?_ ?_
    · refine w1_if (XW.test (xw_and (xt_gt (xf_var 6).b xf_int.b) fun _ => xw_and1 (xt_eqG gI (by decide) hr.rm.units (XF.b (xf_mod (XF.b (xf_int1 (XF.b (xf_call (a := (ns, at_ + 400 + (k : Int))) (f_law_drawn T) hr hN rfl (xl_cons (xf_var 0) (xl_cons (xf_add (XF.b (xf_add (xf_var 1).b xf_int.b)) (xf_var 6).b) xl_nil)))) (b_int T))) xf_int.b (by decide))) xf_int.b))) (fun e => ?_) fun e => ?_
      · rw [if_pos e]
        have hk0 : 0 < k := by
          have := (Bool.and_eq_true_iff.mp e).1
          have := of_decide_eq_true this
          omega
        have hk1 : k - 1 < hs.length := by omega
        obtain ⟨p, hpk⟩ : ∃ p, hs[k - 1]? = some p := ⟨_, List.getElem?_eq_getElem hk1⟩
        have ep : hs.getD (k - 1) (0, []) = p := by rw [List.getD_eq_getElem?_getD, hpk]; rfl
        rw [ep]
        obtain ⟨p1, p2, _, _⟩ := i2 p (List.mem_of_getElem? hpk)
        have at_p : atI hs ((k : Int) - 1) = some p := atI_int (by omega) (by rw [show ((k : Int) - 1).toNat = k - 1 by omega]; exact hpk)
        refine wp_one (w1_set 7 nd_law_house (xf_slW (XF.b (xf_catW (XF.b (xf_ixT (i := 1) (XF.b (xf_ixE (en := e2 D.int eW) (xb_own 4) (XF.b (xf_sub (xf_var 6).b xf_int.b)) at_p)) xf_int.b rfl)) (xf_var 7).b (le_size (by omega)))) xp_none (xp_some (xf_var 3).b) (le_size (by rw [List.length_append]; omega))) rfl)
      · rw [if_neg (by rw [e]; exact Bool.false_ne_true)]
        exact wp_nil rfl
    · rintro Γ rfl
      exact wp_one (w1_appendE (en := e2 D.int eW) (c := (num + 1 + drawnD ns (at_ + 1 + (k : Int)) % 12, if (decide (0 < (k : Int)) && eqB (drawnD ns (at_ + 400 + (k : Int)) % 4) 1) = true then G.cutD ((hs.getD (k - 1) (0, [])).2 ++ textD ns (at_ + 10 + 43 * (k : Int)) most) none (some (most : Int)) else textD ns (at_ + 10 + 43 * (k : Int)) most))
        4 rfl (xf_tup (xl_cons (xf_var 5) (xl_cons (xf_var 7) xl_nil))) (lt_size (by omega)) ⟨_, _, rfl⟩)
  · rintro Γ0 ⟨a, b, rfl⟩
    exact wp_freeze 4 rfl (wp_one (w1_ret (xf_var 4) rfl))
end
end K88

/-! ## k88: what the law says is due -/
namespace K88
open PySem PySem.Spec PyProof.Rows L2 G
section
variable {P : Program} {w : World} {K : PySem.W.Frag} {mg : Str → Option Value} {base : Heap}
/-- found, behind the houses so far -/
def stG (h : Hs) (ks : List Wd) (Γ : Gm) : Prop := ∃ a b c d : Cl, Γ = [.fr (eH h), .ow (ksD ks), a, b, c, d, .no, .no]
theorem f_law_stretches (T : Tx K mg) : Fu P w K mg base "_law_stretches" 1 hOk (fun a => [eH a]) (fun a => .o (eL eW (stretches a))) := by
  obtain ⟨fd, F⟩ := k_law_stretches T
  refine fu_of (g_law_stretches T) F sc_law_stretches (fun _ => rfl) (fun _ _ _ _ _ _ us hl => match us, hl with | [_], _ => rfl) ?_
  rintro q B h rfl rfl rfl rfl rfl hr hp hl
  have hu : (q.X n_law_stretches d_law_stretches.qual (defScope s_law_stretches)).A.units + 1 < cLine := by have := hr.rm.units; omega
  refine wp_cons (w1_own 1 nd_law_stretches (xo_dict0 (XO.b (xo_lst xl_nil)) (b_dict T)) ?_)
  refine wp_cons (w1_fold h (e2 D.int eW) (stG h) addText [] (xi_list (xf_var 0)) ⟨.no, .no, .no, .no, rfl⟩ ?_ ?_ q.own)
  · rintro pre ⟨nu, t⟩ post Γ0 es ⟨a, b, c, d, rfl⟩
    have hpre : pre.length ≤ 16 ∧ (∀ p ∈ pre, p.2.length ≤ 100) ∧ t.length ≤ 100 := by
      have h1 := hp.1
      rw [es, List.length_append, List.length_cons] at h1
      refine ⟨by omega, fun p hm => hp.2 p (by rw [es]; exact List.mem_append_left _ hm), hp.2 (nu, t) (by rw [es]; simp)⟩
    have hks := allSub_len pre [] hpre.2.1
    have ht : t.length ≤ sizeLine := le_size (by omega)
    refine ⟨_, _, xg_tup rfl (xgs_cons (xg_name 2 nd_law_stretches) (xgs_cons (xg_name 3 nd_law_stretches) xgs_nil)), ?_⟩
    refine wp_one (w1_fold (List.range (t.length : Int).toNat) (fun i : Nat => D.int (0 + (i : Int))) (fun ks Γ => ∃ c d : Cl, Γ = [.fr (eH h), .ow (ksD ks), .fr (.int nu), .fr (eW t), c, d, .no, .no]) (addStart t) (pre.foldl addText []) (xi_rng1 (xf_lenW (xf_var 3).b ht (b_len T)).b ⟨by omega, by omega⟩ rfl (b_range T)) ⟨c, d, rfl⟩ ?_ ?_ q.own)
    · rintro pre2 i post2 Γ0 es2 ⟨c, d, rfl⟩
      have hi : i < t.length := by
        have : i ∈ List.range (t.length : Int).toNat := by rw [es2]; simp
        rw [List.mem_range] at this
        omega
      have hks2 := foldl_len (addStart_len t hpre.2.2) pre2 (pre.foldl addText [])
      have l2 : pre2.length ≤ 100 := by
        have := congrArg List.length es2
        rw [List.length_range, List.length_append, List.length_cons] at this
        omega
      refine ⟨_, _, xg_name 4 nd_law_stretches, ?_⟩
      refine wp_one (w1_fold (List.range ((t.length : Int) + 1 - (0 + (i : Int) + 1)).toNat) (fun j : Nat => D.int (0 + (i : Int) + 1 + (j : Int))) (fun ks Γ => ∃ d : Cl, Γ = [.fr (eH h), .ow (ksD ks), .fr (.int nu), .fr (eW t), .fr (.int (0 + (i : Int))), d, .no, .no]) (addStop t (0 + (i : Int))) (pre2.foldl (addStart t) (pre.foldl addText []))
        (xi_rng2 (xf_add (xf_var 4).b xf_int.b).b (xf_add (xf_lenW (xf_var 3).b ht (b_len T)).b xf_int.b).b ⟨by omega, by omega, by omega, by omega⟩ rfl (b_range T)) ⟨d, rfl⟩ ?_ ?_ q.own)
      · rintro pre3 j post3 Γ0 es3 ⟨d, rfl⟩
        have hks3 := foldl_len (addStop_len t (0 + (i : Int))) pre3 (pre2.foldl (addStart t) (pre.foldl addText []))
        have l3 : pre3.length ≤ 101 := by
          have := congrArg List.length es3
          rw [List.length_range, List.length_append, List.length_cons] at this
          omega
        refine ⟨_, _, xg_name 5 nd_law_stretches, ?_⟩
        refine wp_one (w1_addW hu 1 rfl xf_bool (xf_slW (xf_var 3).b (xp_some (xf_var 4).b) (xp_some (xf_var 5).b) ht).b (lt_size ?_) ⟨.fr (.int (0 + (i : Int) + 1 + (j : Int))), rfl⟩)
        simp only [List.length_nil] at hks
        omega
      · rintro Γ0 ⟨d, rfl⟩
        exact ⟨.fr (.int (0 + (i : Int))), d, rfl⟩
    · rintro Γ0 ⟨c, d, rfl⟩
      exact ⟨_, _, _, _, rfl⟩
  · rintro Γ0 ⟨a, b, c, d, rfl⟩
    have hks := allSub_len h [] hp.2
    have hk2 : (h.foldl addText []).length < 16777216 := by have := hp.1; simp only [List.length_nil] at hks; omega
    refine wp_freeze 1 rfl (wp_one (w1_retO (xo_map [("size", 6), ("word", 7)] (((allSub h).map lw).mergeSort (leD (e2 D.int eW))) (e2 D.int eW) (fun p => eW p.2) nd_law_stretches
      (xj_list (XO.b (xo_sorted (bs := (allSub h).map lw) (g2 gI gW) (a2 aI aW) s2 (by decide) hr.rm.units ((xo_map [("word", 7)] (allSub h) eW (fun w => e2 D.int eW (lw w)) nd_law_stretches (xj_keysW (xf_var 1)) ?_ (lt_size hk2)).b.to (by rw [List.map_map]; rfl)) (b_sorted T)))) ?_ (lt_size ?_)) (.inl ?_)))
    · intro w hw
      have hwl : w.length ≤ 100 := allSub_le h [] 100 hp.2 (fun _ z => nomatch z) w hw
      exact t1_name 7 nd_law_stretches (by decide) fun s0 H0 C cl fp => xf_tup (xl_cons (xf_lenW (xf_var 7).b (le_size (by omega)) (b_len T)) (xl_cons (xf_var 7) xl_nil))
    · intro p hpm
      exact t1_tup2 6 7 nd_law_stretches rfl (by decide) (by decide) rfl fun s0 H0 C cl fp => xf_var 7
    · rw [List.length_mergeSort, List.length_map]
      exact hk2
    · unfold stretches eL
      rw [List.map_map]
      rfl
end
end K88

/-! ## k88: houses near by; the least telling words; lists with a thing changed; the refused calls -/
namespace K88
open PySem PySem.Spec PyProof.Rows L2 G
theorem getD_mem {α : Type} {l : List α} {i : Nat} {d : α} (h : i < l.length) : l.getD i d ∈ l := by
  rw [List.getD_eq_getElem?_getD, List.getElem?_eq_getElem h]
  exact List.getElem_mem h
def spotD (t : Wd) (d : Int) : Int := d / 8 % ((t.length : Int) + 1)
def nearT (t : Wd) (d : Int) : List Wd := [t, t, G.cutD t none (some (spotD t d)), G.cutD t (some (spotD t d)) none, G.cutD t none (some (spotD t d)) ++ [pickD [97, 98] (d / 99)] ++ G.cutD t (some (spotD t d)) none, t.reverse]
def nearStep (ns : List Int) (at_ : Int) (h : Hs) (out : Hs) (k : Nat) : Hs :=
  if drawnD ns (at_ + (k : Int)) % 8 < 6 then out ++ [((h.getD k (0, [])).1, (nearT (h.getD k (0, [])).2 (drawnD ns (at_ + (k : Int)))).getD (drawnD ns (at_ + (k : Int)) % 8).toNat [])] else out
def nearD (ns : List Int) (at_ : Int) (h : Hs) : Hs := (List.range h.length).foldl (nearStep ns at_ h) []
theorem nearT_ok {t : Wd} {m : Nat} (d : Int) (hp : Pr t) (hm : t.length ≤ m) : ∀ w ∈ nearT t d, Pr w ∧ w.length ≤ m + m + 1 := by
  intro w hw
  unfold nearT at hw
  simp only [List.mem_cons, List.not_mem_nil, or_false] at hw
  have c1 : (G.cutD t none (some (spotD t d))).length ≤ m := Nat.le_trans (cutD_le _ _ _) hm
  have c2 : (G.cutD t (some (spotD t d)) none).length ≤ m := Nat.le_trans (cutD_le _ _ _) hm
  have hab : Pr [pickD [97, 98] (d / 99)] := by
    intro c hc
    rw [List.mem_singleton] at hc
    have := pickD_mem (l := [97, 98]) (by decide) (d / 99)
    simp only [List.mem_cons, List.not_mem_nil, or_false] at this
    omega
  rcases hw with rfl | rfl | rfl | rfl | rfl | rfl
  · exact ⟨hp, by omega⟩
  · exact ⟨hp, by omega⟩
  · exact ⟨hp.cut _ _, by omega⟩
  · exact ⟨hp.cut _ _, by omega⟩
  · exact ⟨((hp.cut _ _).app hab).app (hp.cut _ _), by rw [List.length_append, List.length_append, List.length_singleton]; omega⟩
  · exact ⟨hp.rev, by rw [List.length_reverse]; omega⟩
theorem nearD_ok {ns : List Int} (at_ : Int) {t m : Nat} {n : Int} {h : Hs} (hb : HsB t m n h) : HsB t (m + m + 1) n (nearD ns at_ h) := by
  have step : ∀ (out : Hs) (k : Nat), (nearStep ns at_ h out k).length ≤ out.length + 1 := fun out k => by
    unfold nearStep
    split
    · rw [List.length_append]; exact Nat.le_refl _
    · omega
  have hl := foldl_len step (List.range h.length) []
  rw [List.length_range] at hl
  refine ⟨by unfold nearD; have := hb.1; simp only [List.length_nil] at hl; omega, ?_⟩
  refine foldl_all (List.range h.length) [] (fun k hk out ho => ?_) (fun _ z => nomatch z)
  rw [List.mem_range] at hk
  unfold nearStep
  split
  · rename_i h6
    intro p hp
    rcases List.mem_append.mp hp with e | e
    · exact ho p e
    · rw [List.mem_singleton.mp e]
      have hq : h.getD k (0, []) ∈ h := by
        rw [List.getD_eq_getElem?_getD, List.getElem?_eq_getElem hk]
        exact List.getElem_mem hk
      obtain ⟨a, b, c, d⟩ := hb.2 _ hq
      have h0 := Int.emod_nonneg (drawnD ns (at_ + (k : Int))) (b := 8) (by decide)
      have hm : (nearT (h.getD k (0, [])).2 (drawnD ns (at_ + (k : Int)))).getD (drawnD ns (at_ + (k : Int)) % 8).toNat [] ∈ nearT (h.getD k (0, [])).2 (drawnD ns (at_ + (k : Int))) := by
        exact getD_mem (by unfold nearT; simp; omega)
      obtain ⟨e1, e2⟩ := nearT_ok (m := m) (drawnD ns (at_ + (k : Int))) a b _ hm
      exact ⟨e1, e2, c, d⟩
  · exact ho
def othersD (out : List Hs) : List Wd := out.foldl (fun acc h => acc ++ stretches h) []
def wordsStep (ws : List Wd) (h : Hs) : List Wd := ws.filter fun w => memB w (stretches h)
def wordsD (inn : List Hs) : List Wd := (inn.drop 1).foldl wordsStep (stretches (inn.headD []))
def everyD (inn out : List Hs) : List Wd := (wordsD inn).filter fun w => !memB w (othersD out)
def leastD (ws : List Wd) : List Wd := ws.filter fun w => eqB (ws.filter fun o => !eqB o w && inW o w) []
theorem others_len : ∀ (out : List Hs) (acc : List Wd), (∀ h ∈ out, hOk h) → (out.foldl (fun acc h => acc ++ stretches h) acc).length ≤ acc.length + 160000 * out.length
  | [], acc, _ => by simp
  | h :: out, acc, hb => by
    have h1 := others_len out (acc ++ stretches h) fun q hq => hb q (List.mem_cons_of_mem _ hq)
    have h2 := stretches_len h (hb h List.mem_cons_self)
    rw [List.foldl_cons, List.length_cons, Nat.mul_succ]
    rw [List.length_append] at h1
    omega
theorem words_len : ∀ (l : List Hs) (ws : List Wd), (l.foldl wordsStep ws).length ≤ ws.length
  | [], ws => Nat.le_refl _
  | h :: l, ws => Nat.le_trans (words_len l (wordsStep ws h)) (List.length_filter_le _ _)
theorem every_len {inn out : List Hs} (h : hOk (inn.headD [])) : (everyD inn out).length ≤ 160000 := Nat.le_trans (List.length_filter_le _ _) (Nat.le_trans (words_len _ _) (stretches_len _ h))
section
variable {P : Program} {w : World} {K : PySem.W.Frag} {mg : Str → Option Value} {base : Heap}
theorem f_law_near (T : Tx K mg) : Fu P w K mg base "_law_near" 3 (fun a : List Int × Int × Hs => NsOk a.1 ∧ a.2.2.length ≤ 1000 ∧ ∀ p ∈ a.2.2, p.2.length ≤ 1000) (fun a => [.list (a.1.map D.int), .int a.2.1, eH a.2.2]) (fun a => .f (eH (nearD a.1 a.2.1 a.2.2))) := by
  obtain ⟨fd, F⟩ := k_law_near T
  refine fu_of (g_law_near T) F sc_law_near (fun _ => rfl) (fun _ _ _ _ _ _ us hl => match us, hl with | [_, _, _], _ => rfl) ?_
  rintro q B ⟨ns, at_, h⟩ rfl rfl rfl rfl rfl hr hp hl
  have hN : NsOk ns := hp.1
  have hl1 : h.length ≤ 1000 := hp.2.1
  have hl2 : ∀ p ∈ h, p.2.length ≤ 1000 := hp.2.2
  refine wp_cons (w1_own 3 nd_law_near (xo_lst xl_nil) ?_)
  refine wp_cons (w1_fold (List.range h.length) (fun i : Nat => D.int (i : Int)) (fun s Γ => ∃ a b c d e f : Cl, Γ = [.fr (.list (ns.map D.int)), .fr (.int at_), .fr (eH h), .ow (.list (s.map (e2 D.int eW))), a, b, c, d, e, f])
    (nearStep ns at_ h) [] (xi_rgN (XF.b (xf_lenE (xf_var 2).b (b_len T))) (by omega) rfl (b_range T)) ⟨.no, .no, .no, .no, .no, .no, rfl⟩ ?_ ?_ q.own)
  · rintro pre k post Γ0 es ⟨a, b, c, d, e, f, rfl⟩
    have hk : k < h.length := by
      have : k ∈ List.range h.length := by rw [es]; simp
      exact List.mem_range.mp this
    have hpl : pre.length ≤ h.length := by
      have := congrArg List.length es
      rw [List.length_range, List.length_append, List.length_cons] at this
      omega
    have hlen := foldl_len (f := nearStep ns at_ h) (c := 1) (fun out k => by
      unfold nearStep
      split
      · rw [List.length_append]; exact Nat.le_refl _
      · omega) pre []
    generalize List.foldl (nearStep ns at_ h) [] pre = out at *
    obtain ⟨⟨nu, t⟩, hpk⟩ : ∃ p, h[k]? = some p := ⟨_, List.getElem?_eq_getElem hk⟩
    have ep : h.getD k (0, []) = (nu, t) := by rw [List.getD_eq_getElem?_getD, hpk]; rfl
    have htl : t.length ≤ 1000 := hl2 _ (List.mem_of_getElem? hpk)
    have htz : t.length ≤ sizeLine := le_size (by omega)
    have at_k : atI h (k : Int) = some (nu, t) := atI_int (by omega) (by rw [Int.toNat_natCast]; exact hpk)
    have hsp : (0 : Int) < (t.length : Int) + 1 := by omega
    have h0 := Int.emod_nonneg (drawnD ns (at_ + (k : Int))) (b := 8) (by decide)
    have hz : ∀ a b, (G.cutD t a b).length ≤ 1000 := fun a b => Nat.le_trans (cutD_le _ _ _) htl
    refine ⟨_, _, xg_name 4 nd_law_near, ?_⟩
    refine wp_cons (w1_asg (d := e2 D.int eW (nu, t)) (xf_ixE (en := e2 D.int eW) (xf_var 2).b (xf_var 4).b at_k) (xg_tup rfl (xgs_cons (xg_name 5 nd_law_near) (xgs_cons (xg_name 6 nd_law_near) xgs_nil))) ?_)
    refine wp_cons (w1_set 7 nd_law_near (xf_call (a := (ns, at_ + (k : Int))) (f_law_drawn T) hr hN rfl (xl_cons (xf_var 0) (xl_cons (xf_add (xf_var 1).b (xf_var 4).b) xl_nil))) ?_)
    refine wp_cons (w1_set 8 nd_law_near (xf_mod (XF.b (xf_int1 (XF.b (xf_div (xf_var 7).b xf_int.b ⟨by decide, by decide⟩)) (b_int T))) (XF.b (xf_add (XF.b (xf_lenW (xf_var 6).b htz (b_len T))) xf_int.b)) hsp) ?_)
    refine wp_cons (w1_set (d := eL eW (nearT t (drawnD ns (at_ + (k : Int))))) 9 nd_law_near (XO.f (xo_lst (ds := (nearT t (drawnD ns (at_ + (k : Int)))).map eW) (xl_cons (xf_var 6) (xl_cons (xf_var 6) (xl_cons (xf_slW (xf_var 6).b xp_none (xp_some (xf_var 8).b) htz) (xl_cons (xf_slW (xf_var 6).b (xp_some (xf_var 8).b) xp_none htz)
      (xl_cons (xf_catW (XF.b (xf_catW (XF.b (xf_slW (xf_var 6).b xp_none (xp_some (xf_var 8).b) htz)) (XF.b (xf_ixW (w := [97, 98]) (XF.b xf_strW) (XF.b (xf_mod (XF.b (xf_int1 (XF.b (xf_div (xf_var 7).b xf_int.b ⟨by decide, by decide⟩)) (b_int T))) xf_int.b (by decide))) (le_size (by decide)) (pickD_at (l := [97, 98]) (by decide) _))) (le_size (by have := hz none (some (spotD t (drawnD ns (at_ + (k : Int))))); simp only [List.length_singleton]; omega))))
        (XF.b (xf_slW (xf_var 6).b (xp_some (xf_var 8).b) xp_none htz)) (le_size (by have := hz none (some (spotD t (drawnD ns (at_ + (k : Int))))); have := hz (some (spotD t (drawnD ns (at_ + (k : Int))))) none; rw [List.length_append]; simp only [List.length_singleton]; omega))) (xl_cons (xf_revW (xf_var 6).b htz) xl_nil)))))) (hz := by rw [List.length_map]; exact le_size (by unfold nearT; simp)))) ?_)
    have h1 := Int.emod_lt_of_pos (drawnD ns (at_ + (k : Int))) (b := 8) (by decide)
    refine wp_one (w1_if (xt_lt (XF.b (xf_mod (XF.b (xf_int1 (xf_var 7).b (b_int T))) xf_int.b (by decide))) xf_int.b) (fun e => ?_) fun e => ?_)
    · have e' : drawnD ns (at_ + (k : Int)) % 8 < 6 := of_decide_eq_true e
      have hsN : nearStep ns at_ h out k = out ++ [(nu, (nearT t (drawnD ns (at_ + (k : Int)))).getD (drawnD ns (at_ + (k : Int)) % 8).toNat [])] := by
        unfold nearStep
        rw [if_pos e', ep]
      have at_t : atI (nearT t (drawnD ns (at_ + (k : Int)))) (drawnD ns (at_ + (k : Int)) % 8) = some ((nearT t (drawnD ns (at_ + (k : Int)))).getD (drawnD ns (at_ + (k : Int)) % 8).toNat []) := by
        refine atI_int h0 ?_
        rw [List.getD_eq_getElem?_getD, List.getElem?_eq_getElem (by unfold nearT; simp; omega)]
        rfl
      refine wp_one (w1_appendE (en := e2 D.int eW) (c := (nu, (nearT t (drawnD ns (at_ + (k : Int)))).getD (drawnD ns (at_ + (k : Int)) % 8).toNat [])) 3 rfl (xf_tup (xl_cons (xf_var 5) (xl_cons (xf_ixE (en := eW) (xf_var 9).b (XF.b (xf_mod (XF.b (xf_int1 (xf_var 7).b (b_int T))) xf_int.b (by decide))) at_t) xl_nil))) (lt_size (by simp only [List.length_nil] at hlen; omega)) ?_)
      rw [hsN]
      exact ⟨_, _, _, _, _, _, rfl⟩
    · have e' : ¬ drawnD ns (at_ + (k : Int)) % 8 < 6 := of_decide_eq_false e
      refine wp_nil ?_
      have hsN : nearStep ns at_ h out k = out := by
        unfold nearStep
        rw [if_neg e']
      rw [hsN]
      exact ⟨_, _, _, _, _, _, rfl⟩
  · rintro Γ0 ⟨a, b, c, d, e, f, rfl⟩
    exact wp_freeze 3 rfl (wp_one (w1_ret (xf_var 3) rfl))
theorem f_law_telling (T : Tx K mg) : Fu P w K mg base "_law_telling" 2 (fun a : List Hs × List Hs => hsOk a.1 ∧ hsOk a.2 ∧ a.1 ≠ [] ∧ a.2.length ≤ 10) (fun a => [eHs a.1, eHs a.2]) (fun a => .f (eL eW (everyD a.1 a.2))) := by
  obtain ⟨fd, F⟩ := k_law_telling T
  refine fu_of (g_law_telling T) F sc_law_telling (fun _ => rfl) (fun _ _ _ _ _ _ us hl => match us, hl with | [_, _], _ => rfl) ?_
  rintro q B ⟨inn, out⟩ rfl rfl rfl rfl rfl hr hp hl
  obtain ⟨hi, ho, hne, h10⟩ := hp
  obtain ⟨h, r, rfl⟩ := List.exists_cons_of_ne_nil hne
  have hh : hOk h := hi.2 h List.mem_cons_self
  have ho2 : ∀ g ∈ out, hOk g := ho.2
  have h10' : out.length ≤ 10 := h10
  refine wp_cons (w1_own 2 nd_law_telling (xo_lst xl_nil) ?_)
  refine wp_cons (w1_fold out eH (fun s Γ => ∃ a : Cl, Γ = [.fr (eHs (h :: r)), .fr (eHs out), .ow (.list (s.map eW)), a, .no, .no, .no]) (fun acc g => acc ++ stretches g) [] (xi_list (xf_var 1)) ⟨.no, rfl⟩ ?_ ?_ q.own)
  · rintro pre g post Γ0 es ⟨a, rfl⟩
    have hg : hOk g := ho2 g (by rw [es]; simp)
    have hpl : pre.length + 1 ≤ out.length := by rw [es, List.length_append, List.length_cons]; omega
    have hlen := others_len pre [] fun g hg => ho2 g (by rw [es]; exact List.mem_append_left _ hg)
    have hsl := stretches_len g hg
    refine ⟨_, _, xg_name 3 nd_law_telling, ?_⟩
    exact wp_one (w1_own 2 nd_law_telling (xo_catE (xb_own 2) (XO.b (xo_call (a := g) (f_law_stretches T) hr hg rfl (xl_cons (xf_var 3) xl_nil))) (le_size (by simp only [List.length_nil] at hlen; omega))) ⟨_, rfl⟩)
  · rintro Γ0 ⟨a, rfl⟩
    refine wp_freeze 2 rfl ?_
    refine wp_cons (w1_set 4 nd_law_telling (XO.f (xo_call (a := h) (f_law_stretches T) hr hh rfl (xl_cons (xf_ixL (xf_var 0).b xf_int.b atI_0) xl_nil))) ?_)
    refine wp_cons (w1_fold r eH (fun s Γ => s.length ≤ 160000 ∧ ∃ a b : Cl, Γ = [.fr (eHs (h :: r)), .fr (eHs out), .fr (eL eW (othersD out)), a, .fr (eL eW s), b, .no]) wordsStep (stretches h) (xi_list (XO.f (XO.to (xo_slE (xf_var 0).b (xp_some xf_int.b) xp_none) (by rw [show (1 : Int) = ((1 : Nat) : Int) from rfl, cutD_from]; rfl)))) ⟨stretches_len h hh, a, .no, rfl⟩ ?_ ?_ q.own)
    · rintro pre g post Γ0 es ⟨hs, a, b, rfl⟩
      have hg : hOk g := hi.2 g (by rw [es]; simp)
      generalize List.foldl wordsStep (stretches h) pre = ws at *
      refine ⟨_, _, xg_name 3 nd_law_telling, ?_⟩
      refine wp_cons (w1_set 5 nd_law_telling (XO.f (xo_call (a := g) (f_law_stretches T) hr hg rfl (xl_cons (xf_var 3) xl_nil))) ?_)
      refine wp_cons (w1_lc 4 [("word", 6)] ws eW (fun w => memB w (stretches g)) eW nd_law_telling (xj_list (xf_var 4).b) (fun w hw => ts_name 6 nd_law_telling (by decide) (fun s0 H0 C cl fp => xts_one (xt_inG gW (by decide) hr.rm.units (xf_var 6).b (xf_var 5).b)) fun e s0 H0 C cl fp => xf_var 6) (lt_size (by omega)) ?_ (blkOk_by rfl))
      exact wp_freeze 4 rfl (wp_nil ⟨Nat.le_trans (List.length_filter_le _ _) hs, _, _, rfl⟩)
    · rintro Γ0 ⟨hs, a, b, rfl⟩
      refine wp_one (w1_retO (xo_filter [("word", 6)] (wordsD (h :: r)) eW (fun w => !memB w (othersD out)) eW nd_law_telling (xj_list (xf_var 4).b) (fun w hw => ts_name 6 nd_law_telling (by decide) (fun s0 H0 C cl fp => xts_one (xt_ninG gW (by decide) hr.rm.units (xf_var 6).b (xf_var 2).b)) fun e s0 H0 C cl fp => xf_var 6) (lt_size (Nat.lt_of_le_of_lt hs (by decide)))) (.inr rfl))
end
end K88

/-! ## k88: the least ones; lists with a thing changed; the refused calls -/
namespace K88
open PySem PySem.Spec PyProof.Rows L2 G
def moreD (every : List Wd) (d : Int) : Wd := (every ++ [[97], []]).getD (d / 800 % ((every.length : Int) + 2)).toNat []
def placeD (ws : List Wd) (d : Int) : Int := d / 8 % (max 1 (ws.length : Int))
def otherD (ws every : List Wd) (d : Int) : Wd := [ws.getD (placeD ws d).toNat [] ++ [97], G.cutD (ws.getD (placeD ws d).toNat []) (some 1) none, G.cutD (ws.getD (placeD ws d).toNat []) none (some (-1)), moreD every d].getD (d % 8 - 4).toNat []
def changeD (ws every : List Wd) (d : Int) : List Wd :=
  if (eqB ws [] || eqB (d % 8) 0) = true then G.cutD ws none (some (placeD ws d)) ++ [moreD every d] ++ G.cutD ws (some (placeD ws d)) none
  else if eqB (d % 8) 1 = true then G.cutD ws none (some (placeD ws d)) ++ G.cutD ws (some (placeD ws d + 1)) none
  else if eqB (d % 8) 2 = true then G.cutD ws none (some (placeD ws d)) ++ [ws.getD (placeD ws d).toNat []] ++ G.cutD ws (some (placeD ws d)) none
  else if eqB (d % 8) 3 = true then ws.reverse
  else G.cutD ws none (some (placeD ws d)) ++ [otherD ws every d] ++ G.cutD ws (some (placeD ws d + 1)) none
/-- words by size -/
def WsB (n m : Nat) (ws : List Wd) : Prop := ws.length ≤ n ∧ ∀ w ∈ ws, w.length ≤ m ∧ Pr w
theorem placeD_ok (ws : List Wd) (d : Int) : 0 ≤ placeD ws d ∧ placeD ws d < max 1 (ws.length : Int) := ⟨Int.emod_nonneg _ (by omega), Int.emod_lt_of_pos _ (by omega)⟩
theorem moreD_mem (every : List Wd) (d : Int) : moreD every d ∈ every ++ [[97], []] := by
  have h0 := Int.emod_nonneg (d / 800) (b := (every.length : Int) + 2) (by omega)
  have h1 := Int.emod_lt_of_pos (d / 800) (b := (every.length : Int) + 2) (by omega)
  exact getD_mem (by rw [List.length_append]; simp; omega)
theorem mem_cutD {α : Type} {xs : List α} {a b : Option Int} {x : α} (h : x ∈ G.cutD xs a b) : x ∈ xs := List.mem_of_mem_drop (List.mem_of_mem_take h)
theorem cut2_len {α : Type} (xs : List α) (k : Int) (h0 : 0 ≤ k) : (G.cutD xs none (some k)).length + (G.cutD xs (some k) none).length ≤ xs.length := by
  obtain ⟨n, rfl⟩ := Int.eq_ofNat_of_zero_le h0
  show (G.cutD xs none (some (n : Int))).length + (G.cutD xs (some (n : Int)) none).length ≤ _
  rw [cutD_upto, cutD_from, List.length_take, List.length_drop]
  omega
theorem cut3_len {α : Type} (xs : List α) (k : Int) (h0 : 0 ≤ k) : (G.cutD xs none (some k)).length + (G.cutD xs (some (k + 1)) none).length ≤ xs.length := by
  obtain ⟨n, rfl⟩ := Int.eq_ofNat_of_zero_le h0
  show (G.cutD xs none (some (n : Int))).length + (G.cutD xs (some ((n + 1 : Nat) : Int)) none).length ≤ _
  rw [cutD_upto, cutD_from, List.length_take, List.length_drop]
  omega
theorem pr_a : Pr [97] := fun c hc => by rw [List.mem_singleton] at hc; omega
theorem changeD_ok {n m : Nat} {ws every : List Wd} (d : Int) (hw : WsB n m ws) (he : ∀ w ∈ every, w.length ≤ m ∧ Pr w) (hm : 1 ≤ m) : WsB (n + 1) (m + 1) (changeD ws every d) := by
  obtain ⟨p0, p1⟩ := placeD_ok ws d
  have hmore : (moreD every d).length ≤ m ∧ Pr (moreD every d) := by
    rcases List.mem_append.mp (moreD_mem every d) with e | e
    · exact he _ e
    · simp only [List.mem_cons, List.not_mem_nil, or_false] at e
      rcases e with e | e
      · rw [e]; exact ⟨hm, pr_a⟩
      · rw [e]; exact ⟨Nat.zero_le _, fun _ z => nomatch z⟩
  have hat : (ws.getD (placeD ws d).toNat []).length ≤ m ∧ Pr (ws.getD (placeD ws d).toNat []) := by
    rw [List.getD_eq_getElem?_getD]
    cases e : ws[(placeD ws d).toNat]? with
    | none => exact ⟨Nat.zero_le _, fun _ z => nomatch z⟩
    | some w => exact hw.2 w (List.mem_of_getElem? e)
  have hoth : (otherD ws every d).length ≤ m + 1 ∧ Pr (otherD ws every d) := by
    unfold otherD
    rw [List.getD_eq_getElem?_getD]
    cases e : ([ws.getD (placeD ws d).toNat [] ++ [97], G.cutD (ws.getD (placeD ws d).toNat []) (some 1) none, G.cutD (ws.getD (placeD ws d).toNat []) none (some (-1)), moreD every d] : List Wd)[(d % 8 - 4).toNat]? with
    | none => exact ⟨Nat.zero_le _, fun _ z => nomatch z⟩
    | some w =>
      have hmem := List.mem_of_getElem? e
      simp only [List.mem_cons, List.not_mem_nil, or_false] at hmem
      have c1 := cutD_le (ws.getD (placeD ws d).toNat []) (some 1) none
      have c2 := cutD_le (ws.getD (placeD ws d).toNat []) none (some (-1))
      show w.length ≤ m + 1 ∧ Pr w
      rcases hmem with rfl | rfl | rfl | rfl
      · exact ⟨by rw [List.length_append, List.length_singleton]; omega, hat.2.app pr_a⟩
      · exact ⟨by omega, hat.2.cut _ _⟩
      · exact ⟨by omega, hat.2.cut _ _⟩
      · exact ⟨by omega, hmore.2⟩
  have up : ∀ w ∈ ws, w.length ≤ m + 1 ∧ Pr w := fun w h => ⟨Nat.le_succ_of_le (hw.2 w h).1, (hw.2 w h).2⟩
  have c2 := cut2_len ws (placeD ws d) p0
  have c3 := cut3_len ws (placeD ws d) p0
  have h1 := hw.1
  have tri : ∀ (a b : List Wd) (x : Wd), (∀ w ∈ a, w ∈ ws) → (∀ w ∈ b, w ∈ ws) → a.length + b.length ≤ ws.length → x.length ≤ m + 1 ∧ Pr x → WsB (n + 1) (m + 1) (a ++ [x] ++ b) := by
    intro a b x ha hb hab hx
    refine ⟨by rw [List.length_append, List.length_append, List.length_singleton]; omega, ?_⟩
    intro w hw'
    rcases List.mem_append.mp hw' with e | e
    · rcases List.mem_append.mp e with e | e
      · exact up w (ha w e)
      · rw [List.mem_singleton.mp e]; exact hx
    · exact up w (hb w e)
  unfold changeD
  split
  · exact tri _ _ _ (fun w h => mem_cutD h) (fun w h => mem_cutD h) c2 ⟨by omega, hmore.2⟩
  · split
    · refine ⟨by rw [List.length_append]; omega, ?_⟩
      intro w hw'
      rcases List.mem_append.mp hw' with e | e
      · exact up w (mem_cutD e)
      · exact up w (mem_cutD e)
    · split
      · exact tri _ _ _ (fun w h => mem_cutD h) (fun w h => mem_cutD h) c2 ⟨by omega, hat.2⟩
      · split
        · exact ⟨by rw [List.length_reverse]; omega, fun w h => up w (List.mem_reverse.mp h)⟩
        · exact tri _ _ _ (fun w h => mem_cutD h) (fun w h => mem_cutD h) c3 hoth
section
variable {P : Program} {w : World} {K : PySem.W.Frag} {mg : Str → Option Value} {base : Heap}
theorem f_law_least (T : Tx K mg) : Fu P w K mg base "_law_least" 1 (fun a : List Wd => a.length ≤ 1000000) (fun a => [eL eW a]) (fun a => .f (eL eW (leastD a))) := by
  obtain ⟨fd, F⟩ := k_law_least T
  refine fu_of (g_law_least T) F sc_law_least (fun _ => rfl) (fun _ _ _ _ _ _ us hl => match us, hl with | [_], _ => rfl) ?_
  rintro q B ws rfl rfl rfl rfl rfl hr hp hl
  have hz : ws.length < sizeLine := lt_size (Nat.lt_of_le_of_lt hp (by decide))
  refine wp_one (w1_retO (xo_filter [("word", 1)] ws eW (fun w => eqB (ws.filter fun o => !eqB o w && inW o w) []) eW nd_law_least (xj_list (xf_var 0).b) (fun w hw => ts_name 1 nd_law_least (by decide) (fun s0 H0 C cl fp => xts_one ?_) fun e s0 H0 C cl fp => xf_var 1) hz) (.inr rfl))
  refine xt_eqG (gL gW) (by decide) hr.rm.units (XO.b (xo_filter [("other", 2)] ws eW (fun o => !eqB o w && inW o w) eW nd_law_least (xj_list (xf_var 0).b) (fun o ho => ts_name 2 nd_law_least (by decide) (fun s1 H1 C1 cl1 fp1 => xts_one ?_) fun e s1 H1 C1 cl1 fp1 => xf_var 2) hz)) (XO.b (xo_lst xl_nil))
  exact XW.test (xw_and (xt_neG gW (by decide) hr.rm.units (xf_var 2).b (xf_var 1).b) fun _ => xw_and1 (xt_inW (xf_var 2).b (xf_var 1).b))
end
end K88

/-! ## k88: lists with a thing changed; the refused calls -/
namespace K88
open PySem PySem.Spec PyProof.Rows L2 G
section
variable {P : Program} {w : World} {K : PySem.W.Frag} {mg : Str → Option Value} {base : Heap}
theorem f_law_changed (T : Tx K mg) : Fu P w K mg base "_law_changed" 2 (fun a : List Int × Int × List Wd × List Wd => NsOk a.1 ∧ a.2.2.1.length ≤ 1000000 ∧ a.2.2.2.length ≤ 1000000 ∧ ∀ w ∈ a.2.2.1, w.length ≤ 1000) (fun a => [.list (a.1.map D.int), .int a.2.1, eL eW a.2.2.1, eL eW a.2.2.2])
    (fun a => .f (eL eW (changeD a.2.2.1 a.2.2.2 (drawnD a.1 a.2.1)))) := by
  obtain ⟨fd, F⟩ := k_law_changed T
  refine fu_of (g_law_changed T) F sc_law_changed (fun _ => rfl) (fun _ _ _ _ _ _ us hl => match us, hl with | [_, _, _, _], _ => rfl) ?_
  rintro q B ⟨ns, at_, ws, every⟩ rfl rfl rfl rfl rfl hr hp hl
  have hN : NsOk ns := hp.1
  have hw1 : ws.length ≤ 1000000 := hp.2.1
  have he1 : every.length ≤ 1000000 := hp.2.2.1
  have hw2 : ∀ w ∈ ws, w.length ≤ 1000 := hp.2.2.2
  refine wp_cons (w1_set 4 nd_law_changed (xf_call (a := (ns, at_)) (f_law_drawn T) hr hN rfl (xl_cons (xf_var 0) (xl_cons (xf_var 1) xl_nil))) ?_)
  generalize hd : drawnD ns at_ = d
  obtain ⟨p0, p1⟩ := placeD_ok ws d
  have hmax : (0 : Int) < max 1 (ws.length : Int) := by omega
  refine wp_cons (w1_set 5 nd_law_changed (xf_mod (XF.b (xf_int1 (XF.b (xf_div (xf_var 4).b xf_int.b ⟨by decide, by decide⟩)) (b_int T))) (XF.b (xf_max2 xf_int.b (XF.b (xf_lenE (xf_var 2).b (b_len T))) (b_max T))) hmax) ?_)
  have m0 := Int.emod_nonneg (d / 800) (b := (every.length : Int) + 2) (by omega)
  have m1 := Int.emod_lt_of_pos (d / 800) (b := (every.length : Int) + 2) (by omega)
  have hep : (0 : Int) < (every.length : Int) + 2 := by omega
  have at_m : atI (every ++ [[97], []]) (d / 800 % ((every.length : Int) + 2)) = some (moreD every d) := by
    refine atI_int m0 ?_
    unfold moreD
    rw [List.getD_eq_getElem?_getD, List.getElem?_eq_getElem (by rw [List.length_append]; simp; omega)]
    rfl
  refine wp_cons (w1_set (d := eW (moreD every d)) 6 nd_law_changed (xf_ixE (en := eW) (XO.b (xo_catE (en := eW) (ys := [[97], []]) (xf_var 3).b (XO.b (xo_lst (xl_cons (xf_strW (w := [97])) (xl_cons (xf_strW (w := [])) xl_nil)))) (le_size (by simp; omega))))
    (XF.b (xf_mod (XF.b (xf_int1 (XF.b (xf_div (xf_var 4).b xf_int.b ⟨by decide, by decide⟩)) (b_int T))) (XF.b (xf_add (XF.b (xf_lenE (xf_var 3).b (b_len T))) xf_int.b)) hep)) at_m) ?_)
  refine wp_cons (w1_set 7 nd_law_changed (xf_mod (XF.b (xf_int1 (xf_var 4).b (b_int T))) xf_int.b (by decide)) ?_)
  have c2 := cut2_len ws (placeD ws d) p0
  have c3 := cut3_len ws (placeD ws d) p0
  refine wp_cons (w1_if (XW.test (xw_or (xt_eqG (b := ([] : List Wd)) (gL gW) (by decide) hr.rm.units (xf_var 2).b (XO.b (xo_lst xl_nil))) fun _ => xw_or1 (xt_eqG gI (by decide) hr.rm.units (xf_var 7).b xf_int.b))) (fun e => ?_) fun e => ?_)
  · refine wp_one (w1_retO (xo_catE (en := eW) (XO.b (xo_catE (en := eW) (ys := [moreD every d]) (XO.b (xo_slE (xf_var 2).b xp_none (xp_some (xf_var 5).b))) (XO.b (xo_lst (xl_cons (xf_var 6) xl_nil))) (le_size ?_))) (XO.b (xo_slE (xf_var 2).b (xp_some (xf_var 5).b) xp_none)) (le_size ?_)) (.inr ?_))
    · show (G.cutD ws none (some (placeD ws d))).length + 1 ≤ _
      omega
    · show (G.cutD ws none (some (placeD ws d)) ++ [moreD every d]).length + (G.cutD ws (some (placeD ws d)) none).length ≤ _
      rw [List.length_append, List.length_singleton]
      omega
    · show Oc.f (eL eW (changeD ws every d)) = _
      unfold changeD
      rw [if_pos e]
      rfl
  refine wp_nil ?_
  have e2 := Bool.or_eq_false_iff.mp e
  have hne : ws ≠ [] := fun z => by
    have h1 : eqB ws [] = false := e2.1
    rw [eqB_iff.mpr z] at h1
    cases h1
  have hpl : (placeD ws d).toNat < ws.length := by
    have := List.length_pos_iff.mpr hne
    omega
  have at_w : atI ws (placeD ws d) = some (ws.getD (placeD ws d).toNat []) := atI_int p0 (by rw [List.getD_eq_getElem?_getD, List.getElem?_eq_getElem hpl]; rfl)
  have hwl : (ws.getD (placeD ws d).toNat []).length ≤ 1000 := hw2 _ (getD_mem hpl)
  refine wp_cons (w1_if (xt_eqG gI (by decide) hr.rm.units (xf_var 7).b xf_int.b) (fun e3 => ?_) fun e3 => ?_)
  · refine wp_one (w1_retO (xo_catE (en := eW) (XO.b (xo_slE (xf_var 2).b xp_none (xp_some (xf_var 5).b))) (XO.b (xo_slE (xf_var 2).b (xp_some (XF.b (xf_add (xf_var 5).b xf_int.b))) xp_none)) (le_size ?_)) (.inr ?_))
    · show (G.cutD ws none (some (placeD ws d))).length + (G.cutD ws (some (placeD ws d + 1)) none).length ≤ _
      omega
    · show Oc.f (eL eW (changeD ws every d)) = _
      unfold changeD
      rw [if_neg (by rw [e]; exact Bool.false_ne_true), if_pos e3]
      rfl
  refine wp_nil ?_
  refine wp_cons (w1_if (xt_eqG gI (by decide) hr.rm.units (xf_var 7).b xf_int.b) (fun e4 => ?_) fun e4 => ?_)
  · refine wp_one (w1_retO (xo_catE (en := eW) (XO.b (xo_catE (en := eW) (ys := [ws.getD (placeD ws d).toNat []]) (XO.b (xo_slE (xf_var 2).b xp_none (xp_some (xf_var 5).b))) (XO.b (xo_lst (xl_cons (xf_ixE (en := eW) (xf_var 2).b (xf_var 5).b at_w) xl_nil))) (le_size ?_))) (XO.b (xo_slE (xf_var 2).b (xp_some (xf_var 5).b) xp_none)) (le_size ?_)) (.inr ?_))
    · show (G.cutD ws none (some (placeD ws d))).length + 1 ≤ _
      omega
    · show (G.cutD ws none (some (placeD ws d)) ++ [ws.getD (placeD ws d).toNat []]).length + (G.cutD ws (some (placeD ws d)) none).length ≤ _
      rw [List.length_append, List.length_singleton]
      omega
    · show Oc.f (eL eW (changeD ws every d)) = _
      unfold changeD
      rw [if_neg (by rw [e]; exact Bool.false_ne_true), if_neg (by rw [e3]; exact Bool.false_ne_true), if_pos e4]
      rfl
  refine wp_nil ?_
  refine wp_cons (w1_if (xt_eqG gI (by decide) hr.rm.units (xf_var 7).b xf_int.b) (fun e5 => ?_) fun e5 => ?_)
  · refine wp_one (w1_retO (xo_revL (xf_var 2).b) (.inr ?_))
    show Oc.f (eL eW (changeD ws every d)) = _
    unfold changeD
    rw [if_neg (by rw [e]; exact Bool.false_ne_true), if_neg (by rw [e3]; exact Bool.false_ne_true), if_neg (by rw [e4]; exact Bool.false_ne_true), if_pos e5]
    show Oc.f (.list (ws.reverse.map eW)) = _
    rw [List.map_reverse]
  refine wp_nil ?_
  have h8 := Int.emod_nonneg d (b := 8) (by decide)
  have h9 := Int.emod_lt_of_pos d (b := 8) (by decide)
  have n0 : d % 8 ≠ 0 := fun z => absurd e2.2 (by rw [z]; decide)
  have n1 : d % 8 ≠ 1 := fun z => absurd e3 (by rw [z]; decide)
  have n2 : d % 8 ≠ 2 := fun z => absurd e4 (by rw [z]; decide)
  have n3 : d % 8 ≠ 3 := fun z => absurd e5 (by rw [z]; decide)
  have hwz : (ws.getD (placeD ws d).toNat []).length ≤ sizeLine := le_size (by omega)
  have wx : ∀ {pn p2 p3 : Pos}, XF B (q.X n_law_changed d_law_changed.qual (defScope s_law_changed)) (.Subscript (.Name "words" pn) (.Name "k" p2) p3) [.fr (.list (ns.map D.int)), .fr (.int at_), .fr (eL eW ws), .fr (eL eW every), .fr (.int d), .fr (.int (placeD ws d)), .fr (eW (moreD every d)), .fr (.int (d % 8)), .no] (eW (ws.getD (placeD ws d).toNat [])) := xf_ixE (en := eW) (xf_var 2).b (xf_var 5).b at_w
  have at_o : atI ([ws.getD (placeD ws d).toNat [] ++ [97], G.cutD (ws.getD (placeD ws d).toNat []) (some 1) none, G.cutD (ws.getD (placeD ws d).toNat []) none (some (-1)), moreD every d] : List Wd) (d % 8 - 4) = some (otherD ws every d) := by
    refine atI_int (by omega) ?_
    unfold otherD
    rw [List.getD_eq_getElem?_getD (i := (d % 8 - 4).toNat), List.getElem?_eq_getElem (by simp; omega)]
    rfl
  refine wp_cons (w1_set (d := eW (otherD ws every d)) 8 nd_law_changed (xf_ixE (en := eW) (XO.b (xo_lst (ds := ([ws.getD (placeD ws d).toNat [] ++ [97], G.cutD (ws.getD (placeD ws d).toNat []) (some 1) none, G.cutD (ws.getD (placeD ws d).toNat []) none (some (-1)), moreD every d] : List Wd).map eW)
    (xl_cons (xf_catW wx.b (XF.b (xf_strW (w := [97]))) (le_size (by simp only [List.length_singleton]; omega))) (xl_cons (xf_slW wx.b (xp_some xf_int.b) xp_none hwz) (xl_cons (xf_slW wx.b xp_none (xp_some (XF.b (xf_neg xf_int.b))) hwz) (xl_cons (xf_var 6) xl_nil)))) (hz := le_size (by simp)))) (XF.b (xf_sub (xf_var 7).b xf_int.b)) at_o) ?_)
  refine wp_one (w1_retO (xo_catE (en := eW) (XO.b (xo_catE (en := eW) (ys := [otherD ws every d]) (XO.b (xo_slE (xf_var 2).b xp_none (xp_some (xf_var 5).b))) (XO.b (xo_lst (xl_cons (xf_var 8) xl_nil))) (le_size ?_))) (XO.b (xo_slE (xf_var 2).b (xp_some (XF.b (xf_add (xf_var 5).b xf_int.b))) xp_none)) (le_size ?_)) (.inr ?_))
  · show (G.cutD ws none (some (placeD ws d))).length + 1 ≤ _
    omega
  · show (G.cutD ws none (some (placeD ws d)) ++ [otherD ws every d]).length + (G.cutD ws (some (placeD ws d + 1)) none).length ≤ _
    rw [List.length_append, List.length_singleton]
    omega
  · show Oc.f (eL eW (changeD ws every d)) = _
    unfold changeD
    rw [if_neg (by rw [e]; exact Bool.false_ne_true), if_neg (by rw [e3]; exact Bool.false_ne_true), if_neg (by rw [e4]; exact Bool.false_ne_true), if_neg (by rw [e5]; exact Bool.false_ne_true)]
    rfl
theorem f_law_refused (T : Tx K mg) : Fu P w K mg base "_law_refused" 6 (fun a : Int × List Hs => hsOk a.2) (fun a => [.int a.1, eHs a.2]) (fun _ => .f (.tuple [.bool true, .int 0])) := by
  obtain ⟨fd, F⟩ := k_law_refused T
  refine fu_of (g_law_refused T) F sc_law_refused (fun _ => rfl) (fun _ _ _ _ _ _ us hl => match us, hl with | [_, _], _ => rfl) ?_
  rintro q B ⟨way, out⟩ rfl rfl rfl rfl rfl hr hp hl
  obtain ⟨y1, y2, y3⟩ := y_OutOfRange T
  have h0 : hsOk [] := ⟨by decide, fun _ z => nomatch z⟩
  refine wp_cons (w1_try (i := 2) (c := .ref (He.ga q.K "HouseError")) rfl rfl nd_law_refused hl ?_ ⟨rfl, by decide, .inl (g_HouseError T)⟩)
  intro B' pn xe hL hpo
  refine wp_one (w1_if (xt_eqG gI (by decide) hr.rm.units (xf_var 0).b xf_int.b) (fun _ => ?_) fun _ => wp_one (w1_if (xt_eqG gI (by decide) hr.rm.units (xf_var 0).b xf_int.b) (fun _ => ?_) fun _ => ?_))
  · refine wp_one (w1_exprD (xd_call (a := ([], out)) (f_telling_words T) hr ⟨h0, hp⟩ rfl hL ?_ (xl_cons (XO.f (xo_lst xl_nil)) (xl_cons (xf_var 1) xl_nil))))
    exact ⟨true, y3, fun _ a d oe pn hz hv => wp_one (w1_ret (xf_tup (xl_cons (xf_isX 2 hz rfl (g_OutOfRange T) (b_isinstance T)) (xl_cons (xf_at 2 y1 y2 hz hv rfl) xl_nil))) rfl), fun z => nomatch z⟩
  · refine wp_one (w1_exprD (xd_call (a := ([], out)) (f_first_telling T) hr ⟨h0, hp⟩ rfl hL ?_ (xl_cons (XO.f (xo_lst xl_nil)) (xl_cons (xf_var 1) xl_nil))))
    exact ⟨true, y3, fun _ a d oe pn hz hv => wp_one (w1_ret (xf_tup (xl_cons (xf_isX 2 hz rfl (g_OutOfRange T) (b_isinstance T)) (xl_cons (xf_at 2 y1 y2 hz hv rfl) xl_nil))) rfl), fun z => nomatch z⟩
  · refine wp_one (w1_exprD (xd_call (a := ([], out, [])) (f_check_telling T) hr ⟨h0, hp, ⟨Nat.zero_le _, fun _ z => nomatch z⟩⟩ rfl hL ?_ (xl_cons (XO.f (xo_lst xl_nil)) (xl_cons (xf_var 1) (xl_cons (XO.f (xo_lst xl_nil)) xl_nil)))))
    exact ⟨true, y3, fun _ a d oe pn hz hv => wp_one (w1_ret (xf_tup (xl_cons (xf_isX 2 hz rfl (g_OutOfRange T) (b_isinstance T)) (xl_cons (xf_at 2 y1 y2 hz hv rfl) xl_nil))) rfl), fun z => nomatch z⟩
end
end K88

/-! ## PO: sorted lists, stretches of words, in plain words -/
namespace G
open PySem PySem.Spec PyProof.Rows L2
section
variable {α : Type} {en : α → D}
theorem ltD_irrefl (a : α) : ltD en a a = false := (PyProof.Rows.listOrd PyProof.Rows.itemOrd).irrefl _
theorem ltD_trans {a b c : α} (h : ltD en a b = true) (g : ltD en b c = true) : ltD en a c = true := (PyProof.Rows.listOrd PyProof.Rows.itemOrd).trans _ _ _ h g
theorem ltD_neg {a b c : α} (h : ltD en a c = true) : ltD en a b = true ∨ ltD en b c = true := (PyProof.Rows.listOrd PyProof.Rows.itemOrd).negTrans _ _ _ h
/-- an encoding whose keys tell its things apart -/
def KI (en : α → D) : Prop := ∀ a b, PySem.W.keyToks (en a).py = PySem.W.keyToks (en b).py → a = b
theorem ltD_conn (k : KI en) {a b : α} (h : ltD en a b = false) (g : ltD en b a = false) : a = b := k a b ((PyProof.Rows.listOrd PyProof.Rows.itemOrd).total _ _ h g)
theorem leD_eq (a b : α) : leD en a b = !ltD en b a := rfl
theorem sorted_le (xs : List α) : (xs.mergeSort (leD en)).Pairwise fun a b => leD en a b = true := by
  refine List.pairwise_mergeSort ?_ ?_ xs
  · intro a b c h g
    rw [leD_eq, Bool.not_eq_true'] at h g ⊢
    cases e : ltD en c a with
    | false => rfl
    | true =>
      rcases ltD_neg (b := b) e with z | z
      · rw [z] at g; cases g
      · rw [z] at h; cases h
  · intro a b
    rw [leD_eq, leD_eq]
    cases e : ltD en b a with
    | false => rfl
    | true =>
      cases e2 : ltD en a b with
      | false => rfl
      | true =>
        have := ltD_trans e e2
        rw [ltD_irrefl] at this
        cases this
theorem sorted_lt (k : KI en) {xs : List α} (nd : xs.Nodup) : (xs.mergeSort (leD en)).Pairwise fun a b => ltD en a b = true := by
  have h := sorted_le (en := en) xs
  have nd2 : (xs.mergeSort (leD en)).Nodup := (List.mergeSort_perm xs _).nodup_iff.mpr nd
  refine (h.and nd2).imp ?_
  intro a b hab
  have h1 := hab.1
  rw [leD_eq, Bool.not_eq_true'] at h1
  cases e : ltD en a b with
  | true => rfl
  | false => exact absurd (ltD_conn k e h1) hab.2
theorem sorted_eq {lt : α → α → Bool} (ir : ∀ a, lt a a = false) (tr : ∀ a b c, lt a b = true → lt b c = true → lt a c = true) : ∀ {xs ys : List α}, xs.Pairwise (fun a b => lt a b = true) → ys.Pairwise (fun a b => lt a b = true) → (∀ a, a ∈ xs ↔ a ∈ ys) → xs = ys
  | [], [], _, _, _ => rfl
  | [], y :: ys, _, _, h => absurd ((h y).mpr List.mem_cons_self) (by simp)
  | x :: xs, [], _, _, h => absurd ((h x).mp List.mem_cons_self) (by simp)
  | x :: xs, y :: ys, hx, hy, h => by
    rw [List.pairwise_cons] at hx hy
    have exy : x = y := by
      rcases List.mem_cons.mp ((h x).mp List.mem_cons_self) with e | e
      · exact e
      · rcases List.mem_cons.mp ((h y).mpr List.mem_cons_self) with e2 | e2
        · exact e2.symm
        · have := tr _ _ _ (hy.1 x e) (hx.1 y e2)
          rw [ir] at this
          cases this
    subst exy
    have ne : ∀ a, a ∈ xs → a ≠ x := fun a ha z => by
      have := hx.1 a ha
      rw [z, ir] at this
      cases this
    have ne2 : ∀ a, a ∈ ys → a ≠ x := fun a ha z => by
      have := hy.1 a ha
      rw [z, ir] at this
      cases this
    rw [sorted_eq ir tr hx.2 hy.2 fun a => ⟨fun ha => ?_, fun ha => ?_⟩]
    · rcases List.mem_cons.mp ((h a).mp (List.mem_cons_of_mem _ ha)) with e | e
      · exact absurd e (ne a ha)
      · exact e
    · rcases List.mem_cons.mp ((h a).mpr (List.mem_cons_of_mem _ ha)) with e | e
      · exact absurd e (ne2 a ha)
      · exact e
end
theorem kiIW : KI (e2 D.int eW) := by
  rintro ⟨a, u⟩ ⟨b, v⟩ h
  simp only [e2, eW, D.py, pyL, PySem.W.keyToks, PySem.W.keyToksAll, S_tl] at h
  simp at h
  rw [h.1, h.2]
theorem mem_foldl {α β : Type} {P : α → β → Prop} {f : List β → α → List β} {b : β} : ∀ (l : List α) (ks : List β), (∀ x ∈ l, ∀ ks, b ∈ f ks x ↔ b ∈ ks ∨ P x b) → (b ∈ l.foldl f ks ↔ b ∈ ks ∨ ∃ x ∈ l, P x b)
  | [], ks, _ => by simp
  | x :: l, ks, h => by
    rw [List.foldl_cons, mem_foldl l (f ks x) fun y hy => h y (List.mem_cons_of_mem _ hy), h x List.mem_cons_self]
    simp only [List.mem_cons, exists_eq_or_imp]
    rw [or_assoc]
theorem nodup_foldl {α β : Type} {f : List β → α → List β} (h : ∀ ks x, ks.Nodup → (f ks x).Nodup) : ∀ (l : List α) (ks : List β), ks.Nodup → (l.foldl f ks).Nodup
  | [], _, hk => hk
  | x :: l, ks, hk => nodup_foldl h l (f ks x) (h ks x hk)
theorem mem_addW {ks : List (List Nat)} {w v : List Nat} : v ∈ addW ks w ↔ v ∈ ks ∨ v = w := by
  unfold addW
  split
  · rename_i h
    constructor
    · exact .inl
    · rintro (e | e)
      · exact e
      · rw [e]; exact h
  · rw [List.mem_append, List.mem_singleton]
theorem nodup_addW {ks : List (List Nat)} {w : List Nat} (h : ks.Nodup) : (addW ks w).Nodup := by
  unfold addW
  split
  · exact h
  · rename_i hn
    rw [List.nodup_append]
    refine ⟨h, by simp, ?_⟩
    intro a ha b hb
    rw [List.mem_singleton.mp hb]
    rintro rfl
    exact hn ha
theorem inW_iff {u v : List Nat} : inW u v = true ↔ u <:+: v := decide_eq_true_iff
/-- a part of a word that is another one stands behind its first letter or ahead of its last one -/
theorem infix_proper {o w : List Nat} (h : o <:+: w) (ne : o ≠ w) : o <:+: w.drop 1 ∨ o <:+: w.dropLast := by
  obtain ⟨a, b, e⟩ := h
  cases a with
  | cons x a =>
    left
    refine ⟨a, b, ?_⟩
    rw [← e]
    simp
  | nil =>
    right
    rcases List.eq_nil_or_concat b with rfl | ⟨b, y, rfl⟩
    · simp at e; exact absurd e ne
    · refine ⟨[], b, ?_⟩
      rw [← e]
      simp [← List.append_assoc]
theorem sub_mid (t : List Nat) (i j : Nat) : G.cutD t (some (0 + (i : Int))) (some (0 + (i : Int) + 1 + (j : Int))) = (t.take (i + 1 + j)).drop i := by
  rw [show (0 + (i : Int)) = ((i : Nat) : Int) by omega, show ((i : Nat) : Int) + 1 + (j : Int) = ((i + 1 + j : Nat) : Int) by omega, cutD_mid]
theorem infix_mid {t w : List Nat} : (∃ i j, i < t.length ∧ j < t.length - i ∧ w = (t.take (i + 1 + j)).drop i) ↔ w ≠ [] ∧ w <:+: t := by
  constructor
  · rintro ⟨i, j, hi, hj, rfl⟩
    refine ⟨fun z => ?_, ((t.take (i + 1 + j)).drop_suffix i).isInfix.trans (List.take_prefix _ _).isInfix⟩
    have := congrArg List.length z
    rw [List.length_drop, List.length_take, List.length_nil] at this
    omega
  · rintro ⟨hne, a, b, e⟩
    have hl := List.length_pos_iff.mpr hne
    have ht := congrArg List.length e
    rw [List.length_append, List.length_append] at ht
    refine ⟨a.length, w.length - 1, by omega, by omega, ?_⟩
    rw [← e, show a.length + 1 + (w.length - 1) = (a ++ w).length by rw [List.length_append]; omega, List.take_left' rfl, List.drop_left' rfl]
end G

/-! ## PS: what repr can show: sizes of data -/
namespace G
open PySem PySem.Spec PyProof.Rows L2
/-- data of bulk b, its numbers short, its signs plain -/
structure Sz (b : Nat) (d : D) : Prop where
  sh : d.py.showable = true
  nd : d.py.hasDict = false
  lv : d.py.leavesShort 24 = true
  bk : d.py.bulk ≤ b
  dp : d.py.depth ≤ 60
theorem Sz.shw {b : Nat} {d : D} (h : Sz b d) (hb : b ≤ 600000) : Shw d := ⟨h.sh, h.nd, by
  have q := PySem.PyData.shown_le_bulk 24 (by decide) _ h.lv
  have := h.bk
  rw [sizeLine_eq]
  omega, h.dp⟩
theorem Sz.up {b c : Nat} {d : D} (h : Sz b d) (hb : b ≤ c) : Sz c d := ⟨h.sh, h.nd, h.lv, Nat.le_trans h.bk hb, h.dp⟩
theorem sz_none : Sz 0 .none := ⟨by simp [D.py, PyData.showable], by simp [D.py, PyData.hasDict], by simp [D.py, PyData.leavesShort], by simp [D.py, PyData.bulk], by simp [D.py, PyData.depth]⟩
theorem sz_bool (x : Bool) : Sz 0 (.bool x) := ⟨by simp [D.py, PyData.showable], by simp [D.py, PyData.hasDict], by simp [D.py, PyData.leavesShort], by simp [D.py, PyData.bulk], by simp [D.py, PyData.depth]⟩
theorem sz_word {w : List Nat} (h : ∀ c ∈ w, c < 1000000) : Sz w.length (eW w) := ⟨by simp [eW, D.py, PyData.showable], by simp [eW, D.py, PyData.hasDict], by
  simp only [eW, D.py, PyData.leavesShort, List.all_eq_true, decide_eq_true_eq, S_tl]
  intro c hc
  have := h c hc
  omega, by simp [eW, D.py, PyData.bulk, S], by simp [eW, D.py, PyData.depth]⟩
theorem sz_int {i : Int} (h : i.natAbs < 10 ^ 20) : Sz 0 (.int i) := ⟨by
  simp only [D.py, PyData.showable, decide_eq_true_eq]
  by_cases hz : i.natAbs = 0
  · rw [hz]; decide
  · have := (Nat.log2_lt hz (k := 1920)).mpr (Nat.lt_of_lt_of_le h (by decide +kernel))
    exact this, by simp [D.py, PyData.hasDict], by
  simp only [D.py, PyData.leavesShort, PyData.shown]
  refine decide_eq_true ?_
  have := PySem.int_text_length_le10 (a := i) (k := 20) (by decide) h
  show (Str.ofString (toString i)).length ≤ 24
  rw [PySem.ofString_length]
  omega, by simp [D.py, PyData.bulk], by simp [D.py, PyData.depth]⟩
theorem sz_nil : Sz 0 (.list []) := ⟨by simp [D.py, pyL, PyData.showable, PyData.showableAll], by simp [D.py, pyL, PyData.hasDict, PyData.hasDictAll], by simp [D.py, pyL, PyData.leavesShort, PyData.leavesShortAll], by simp [D.py, pyL, PyData.bulk, PyData.bulkAll], by simp [D.py, pyL, PyData.depth, PyData.depthAll]⟩
/-- lists of things of bulk b each -/
theorem sz_all {b dp : Nat} : ∀ ds : List D, (∀ d ∈ ds, Sz b d ∧ d.py.depth ≤ dp) → PyData.showableAll (pyL ds) = true ∧ PyData.hasDictAll (pyL ds) = false ∧ PyData.leavesShortAll 24 (pyL ds) = true ∧ PyData.bulkAll (pyL ds) ≤ (b + 1) * ds.length ∧ PyData.depthAll (pyL ds) ≤ dp
  | [], _ => ⟨by simp [pyL, PyData.showableAll], by simp [pyL, PyData.hasDictAll], by simp [pyL, PyData.leavesShortAll], by simp [pyL, PyData.bulkAll], by simp [pyL, PyData.depthAll]⟩
  | d :: ds, h => by
    obtain ⟨a1, a2, a3, a4, a5⟩ := sz_all ds fun x hx => h x (List.mem_cons_of_mem _ hx)
    obtain ⟨c, hd⟩ := h d List.mem_cons_self
    have bk := c.bk
    refine ⟨by simp only [pyL, PyData.showableAll, c.sh, a1, Bool.and_self], by simp only [pyL, PyData.hasDictAll, c.nd, a2, Bool.or_self], by simp only [pyL, PyData.leavesShortAll, c.lv, a3, Bool.and_self], ?_, ?_⟩
    · simp only [pyL, PyData.bulkAll, List.length_cons, Nat.mul_succ]
      omega
    · simp only [pyL, PyData.depthAll]
      omega
theorem sz_list {b dp : Nat} {ds : List D} (hdp : dp < 60) (h : ∀ d ∈ ds, Sz b d ∧ d.py.depth ≤ dp) : Sz ((b + 1) * ds.length) (.list ds) := by
  obtain ⟨a1, a2, a3, a4, a5⟩ := sz_all ds h
  exact ⟨by simpa only [D.py, PyData.showable] using a1, by simpa only [D.py, PyData.hasDict] using a2, by simpa only [D.py, PyData.leavesShort] using a3, by simpa only [D.py, PyData.bulk] using a4, by simp only [D.py, PyData.depth]; omega⟩
theorem sz_tuple {b dp : Nat} {ds : List D} (hdp : dp < 60) (h : ∀ d ∈ ds, Sz b d ∧ d.py.depth ≤ dp) : Sz ((b + 1) * ds.length) (.tuple ds) := by
  obtain ⟨a1, a2, a3, a4, a5⟩ := sz_all ds h
  exact ⟨by simpa only [D.py, PyData.showable] using a1, by simpa only [D.py, PyData.hasDict] using a2, by simpa only [D.py, PyData.leavesShort] using a3, by simpa only [D.py, PyData.bulk] using a4, by simp only [D.py, PyData.depth]; omega⟩
end G

/-! ## k88: the plain law -/
namespace K88
open PySem PySem.Spec PyProof.Rows L2 G
theorem isStretch_iff {h : Hs} {w : Wd} : isStretch h w = true ↔ ∃ p ∈ h, w <:+: p.2 := by
  unfold isStretch
  rw [List.any_eq_true]
  constructor
  · rintro ⟨p, h1, h2⟩
    exact ⟨p, h1, inW_iff.mp h2⟩
  · rintro ⟨p, h1, h2⟩
    exact ⟨p, h1, inW_iff.mpr h2⟩
theorem mem_addStart {t : Wd} {ks : List Wd} {i : Nat} {w : Wd} : w ∈ addStart t ks i ↔ w ∈ ks ∨ ∃ j, j < t.length - i ∧ w = (t.take (i + 1 + j)).drop i := by
  unfold addStart
  rw [mem_foldl (P := fun j w => w = (t.take (i + 1 + j)).drop i) _ _ fun j _ ks => by unfold addStop; rw [mem_addW, sub_mid]]
  refine or_congr Iff.rfl (exists_congr fun j => ?_)
  rw [List.mem_range]
  refine and_congr_left fun _ => ?_
  omega
theorem mem_addText {ks : List Wd} {p : Int × Wd} {w : Wd} : w ∈ addText ks p ↔ w ∈ ks ∨ (w ≠ [] ∧ w <:+: p.2) := by
  unfold addText
  rw [mem_foldl (P := fun i w => ∃ j, j < p.2.length - i ∧ w = (p.2.take (i + 1 + j)).drop i) _ _ fun i _ ks => mem_addStart, ← infix_mid]
  refine or_congr Iff.rfl (exists_congr fun i => ?_)
  rw [List.mem_range]
  constructor
  · rintro ⟨h1, j, h2, h3⟩
    exact ⟨j, by omega, h2, h3⟩
  · rintro ⟨j, h1, h2, h3⟩
    exact ⟨by omega, j, h2, h3⟩
theorem mem_allSub {h : Hs} {w : Wd} : w ∈ allSub h ↔ w ≠ [] ∧ isStretch h w = true := by
  unfold allSub
  rw [mem_foldl (P := fun p w => w ≠ [] ∧ w <:+: p.2) _ _ fun p _ ks => mem_addText, isStretch_iff]
  constructor
  · rintro (z | ⟨p, h1, h2, h3⟩)
    · cases z
    · exact ⟨h2, p, h1, h3⟩
  · rintro ⟨h2, p, h1, h3⟩
    exact .inr ⟨p, h1, h2, h3⟩
theorem nodup_allSub (h : Hs) : (allSub h).Nodup := nodup_foldl (fun ks p hk => nodup_foldl (fun ks i hk => nodup_foldl (fun ks j hk => nodup_addW hk) _ _ hk) _ _ hk) _ _ List.nodup_nil
theorem mem_stretches {h : Hs} {w : Wd} : w ∈ stretches h ↔ w ≠ [] ∧ isStretch h w = true := by
  rw [← mem_allSub]
  unfold stretches
  constructor
  · intro hw
    obtain ⟨p, h1, rfl⟩ := List.mem_map.mp hw
    obtain ⟨v, h2, rfl⟩ := List.mem_map.mp (List.mem_mergeSort.mp h1)
    exact h2
  · intro hw
    exact List.mem_map.mpr ⟨lw w, List.mem_mergeSort.mpr (List.mem_map.mpr ⟨w, hw, rfl⟩), rfl⟩
theorem ltW_irrefl (a : Wd) : ltW a a = false := ltD_irrefl _
theorem ltW_trans (a b c : Wd) (h : ltW a b = true) (g : ltW b c = true) : ltW a c = true := ltD_trans h g
theorem stretches_sorted (h : Hs) : (stretches h).Pairwise fun a b => ltW a b = true := by
  have nd : ((allSub h).map lw).Nodup := by
    rw [List.nodup_iff_pairwise_ne, List.pairwise_map]
    exact (List.nodup_iff_pairwise_ne.mp (nodup_allSub h)).imp fun hab z => hab (congrArg Prod.snd z)
  have q := sorted_lt kiIW nd
  unfold stretches
  rw [List.pairwise_map]
  refine q.imp_of_mem ?_
  intro p r hp hr hpr
  obtain ⟨u, _, rfl⟩ := List.mem_map.mp (List.mem_mergeSort.mp hp)
  obtain ⟨v, _, rfl⟩ := List.mem_map.mp (List.mem_mergeSort.mp hr)
  exact hpr
theorem stretch_mono {h : Hs} {u v : Wd} (i : u <:+: v) (s : isStretch h v = true) : isStretch h u = true := by
  obtain ⟨p, h1, h2⟩ := isStretch_iff.mp s
  exact isStretch_iff.mpr ⟨p, h1, i.trans h2⟩
theorem tells_iff {inn out : List Hs} {w : Wd} : tells inn out w = true ↔ (∀ h ∈ inn, isStretch h w = true) ∧ ∀ h ∈ out, isStretch h w = false := by
  unfold tells
  rw [Bool.and_eq_true, List.all_eq_true, Bool.not_eq_true', List.any_eq_false]
  simp only [Bool.not_eq_true]
theorem tells_mid {inn out : List Hs} {o p w : Wd} (hw : tells inn out w = true) (ho : tells inn out o = true) (h1 : o <:+: p) (h2 : p <:+: w) : tells inn out p = true := by
  rw [tells_iff] at hw ho ⊢
  refine ⟨fun h hh => stretch_mono h2 (hw.1 h hh), fun h hh => ?_⟩
  cases e : isStretch h p with
  | false => rfl
  | true =>
    have := stretch_mono h1 e
    rw [ho.2 h hh] at this
    cases this
theorem cut1 (w : Wd) : G.cutD w (some 1) none = w.drop 1 := cutD_from w 1
theorem isLeast_iff {inn out : List Hs} {w : Wd} : isLeast inn out w = true ↔ (w.drop 1 = [] ∨ tells inn out (w.drop 1) = false) ∧ (w.dropLast = [] ∨ tells inn out w.dropLast = false) := by
  unfold isLeast
  rw [cut1, cutD_last]
  simp only [List.all_cons, List.all_nil, Bool.and_true, Bool.and_eq_true, Bool.or_eq_true, eqB_iff, Bool.not_eq_true']
theorem least_no {inn out : List Hs} {w o : Wd} (hw : tells inn out w = true) (hl : isLeast inn out w = true) (ho : tells inn out o = true) (hne : o ≠ []) (hi : o <:+: w) : o = w := by
  refine Classical.byContradiction fun ne => ?_
  rw [isLeast_iff] at hl
  have big : ∀ {p : Wd}, o <:+: p → p ≠ [] := fun {p} h z => by
    rw [z] at h
    exact hne (List.eq_nil_of_infix_nil h)
  rcases infix_proper hi ne with h | h
  · rcases hl.1 with e | e
    · exact big h e
    · rw [tells_mid hw ho h (w.drop_suffix 1).isInfix] at e
      cases e
  · rcases hl.2 with e | e
    · exact big h e
    · rw [tells_mid hw ho h (w.dropLast_prefix).isInfix] at e
      cases e
theorem not_least {inn out : List Hs} {w : Wd} (hl : isLeast inn out w = false) (hne : w ≠ []) : ∃ p, p ≠ [] ∧ tells inn out p = true ∧ p <:+: w ∧ p.length < w.length := by
  have hpos := List.length_pos_iff.mpr hne
  have h : ¬ ((w.drop 1 = [] ∨ tells inn out (w.drop 1) = false) ∧ (w.dropLast = [] ∨ tells inn out w.dropLast = false)) := by
    rw [← isLeast_iff, hl]
    exact Bool.false_ne_true
  rcases Classical.not_and_iff_not_or_not.mp h with h | h
  · have h1 : w.drop 1 ≠ [] := fun z => h (.inl z)
    have h2 : tells inn out (w.drop 1) = true := by
      cases e : tells inn out (w.drop 1) with
      | true => rfl
      | false => exact absurd (.inr e) h
    exact ⟨_, h1, h2, (w.drop_suffix 1).isInfix, by rw [List.length_drop]; omega⟩
  · have h1 : w.dropLast ≠ [] := fun z => h (.inl z)
    have h2 : tells inn out w.dropLast = true := by
      cases e : tells inn out w.dropLast with
      | true => rfl
      | false => exact absurd (.inr e) h
    exact ⟨_, h1, h2, (w.dropLast_prefix).isInfix, by rw [List.length_dropLast]; omega⟩
theorem mem_telling {h : Hs} {r out : List Hs} {w : Wd} : w ∈ telling (h :: r) out ↔ w ≠ [] ∧ tells (h :: r) out w = true ∧ isLeast (h :: r) out w = true := by
  unfold telling
  rw [List.mem_filter, List.headD_cons, mem_stretches, Bool.and_eq_true]
  constructor
  · rintro ⟨⟨a, _⟩, b, c⟩
    exact ⟨a, b, c⟩
  · rintro ⟨a, b, c⟩
    exact ⟨⟨a, (tells_iff.mp b).1 h List.mem_cons_self⟩, b, c⟩
theorem telling_sorted (inn out : List Hs) : (telling inn out).Pairwise fun a b => ltW a b = true := (stretches_sorted _).sublist List.filter_sublist
/-- each telling word has a least one in it -/
theorem least_in {h : Hs} {r out : List Hs} : ∀ (n : Nat) (w : Wd), w.length ≤ n → w ≠ [] → tells (h :: r) out w = true → ∃ o ∈ telling (h :: r) out, o <:+: w
  | 0, w, hn, hne, _ => absurd (List.length_eq_zero_iff.mp (by omega)) hne
  | n + 1, w, hn, hne, ht => by
    cases e : isLeast (h :: r) out w with
    | true => exact ⟨w, mem_telling.mpr ⟨hne, ht, e⟩, List.infix_refl w⟩
    | false =>
      obtain ⟨p, p1, p2, p3, p4⟩ := not_least e hne
      obtain ⟨o, o1, o2⟩ := least_in n p (by omega) p1 p2
      exact ⟨o, o1, o2.trans p3⟩
theorem mem_others {out : List Hs} {w : Wd} (hne : w ≠ []) : w ∈ othersD out ↔ ∃ h ∈ out, isStretch h w = true := by
  unfold othersD
  rw [mem_foldl (P := fun h w => w ∈ stretches h) _ _ fun h _ ks => List.mem_append]
  constructor
  · rintro (z | ⟨h, h1, h2⟩)
    · cases z
    · exact ⟨h, h1, (mem_stretches.mp h2).2⟩
  · rintro ⟨h, h1, h2⟩
    exact .inr ⟨h, h1, mem_stretches.mpr ⟨hne, h2⟩⟩
theorem words_fold : ∀ (l : List Hs) (ws : List Wd), l.foldl wordsStep ws = ws.filter fun w => l.all fun g => memB w (stretches g)
  | [], ws => (filt_true (xs := ws)).symm
  | g :: l, ws => by
    rw [List.foldl_cons, words_fold l]
    unfold wordsStep
    rw [List.filter_filter]
    refine List.filter_congr fun w _ => ?_
    rw [List.all_cons, Bool.and_comm]
theorem every_eq (h : Hs) (r out : List Hs) : everyD (h :: r) out = (stretches h).filter fun w => tells (h :: r) out w := by
  unfold everyD wordsD
  rw [words_fold, List.filter_filter]
  refine List.filter_congr fun w hw => ?_
  obtain ⟨hne, hs⟩ := mem_stretches.mp hw
  rw [Bool.eq_iff_iff, Bool.and_eq_true, Bool.not_eq_true', List.all_eq_true, tells_iff]
  constructor
  · rintro ⟨a, b⟩
    refine ⟨fun g hg => ?_, fun g hg => ?_⟩
    · rcases List.mem_cons.mp hg with e | e
      · rw [e]; exact hs
      · exact (mem_stretches.mp (memB_iff.mp (b g e))).2
    · cases e : isStretch g w with
      | false => rfl
      | true =>
        have := memB_iff.mpr ((mem_others hne).mpr ⟨g, hg, e⟩)
        rw [a] at this
        cases this
  · rintro ⟨a, b⟩
    refine ⟨?_, fun g hg => memB_iff.mpr (mem_stretches.mpr ⟨hne, a g (List.mem_cons_of_mem _ hg)⟩)⟩
    cases e : memB w (othersD out) with
    | false => rfl
    | true =>
      obtain ⟨g, hg, hs2⟩ := (mem_others hne).mp (memB_iff.mp e)
      rw [b g hg] at hs2
      cases hs2
/-- what is told is what is due -/
theorem telling_due (h : Hs) (r out : List Hs) : telling (h :: r) out = leastD (everyD (h :: r) out) := by
  unfold leastD
  rw [every_eq]
  unfold telling
  rw [List.headD_cons, List.filter_filter]
  refine List.filter_congr fun w hw => ?_
  obtain ⟨hne, hs⟩ := mem_stretches.mp hw
  cases ht : tells (h :: r) out w with
  | false => simp
  | true =>
    rw [Bool.true_and, Bool.and_true, Bool.eq_iff_iff, eqB_iff, List.filter_eq_nil_iff]
    constructor
    · intro hl o ho
      obtain ⟨o1, o2⟩ := List.mem_filter.mp ho
      rw [Bool.and_eq_true, Bool.not_eq_true']
      rintro ⟨n1, n2⟩
      have := least_no ht hl o2 (mem_stretches.mp o1).1 (inW_iff.mp n2)
      rw [eqB_iff.mpr this] at n1
      cases n1
    · intro hall
      cases hl : isLeast (h :: r) out w with
      | true => rfl
      | false =>
        obtain ⟨p, p1, p2, p3, p4⟩ := not_least hl hne
        have hp : p ∈ (stretches h).filter fun w => tells (h :: r) out w := List.mem_filter.mpr ⟨mem_stretches.mpr ⟨p1, stretch_mono p3 hs⟩, p2⟩
        refine absurd ?_ (hall p hp)
        rw [Bool.and_eq_true, Bool.not_eq_true']
        refine ⟨?_, inW_iff.mpr p3⟩
        cases e : eqB p w with
        | false => rfl
        | true => rw [eqB_iff.mp e] at p4; omega
theorem good_iff {h : Hs} {r out : List Hs} {ws : List Wd} {k : Nat} {w : Wd} (hk : ws[k]? = some w) : goodAt (h :: r) out ws k = true ↔ w ∈ telling (h :: r) out ∧ (0 < k → ltW (ws.getD (k - 1) []) w = true) := by
  rw [goodAt_eq hk, mem_telling, Bool.and_eq_true, Bool.not_eq_true', Bool.not_eq_true', Bool.or_eq_false_iff, Bool.or_eq_false_iff, Bool.not_eq_false', Bool.not_eq_false', Bool.and_eq_false_iff, Bool.not_eq_false', decide_eq_false_iff_not]
  have e1 : eqB w [] = false ↔ w ≠ [] := by
    rw [← Bool.not_eq_true, eqB_iff]
  rw [e1]
  refine and_congr Iff.rfl ?_
  constructor
  · rintro (a | a) hk0
    · omega
    · exact a
  · intro a
    by_cases hk0 : 0 < k
    · exact .inr (a hk0)
    · exact .inl (by omega)
/-- the check takes just the list that is due -/
theorem check_eq (h : Hs) (r out : List Hs) (ws : List Wd) : checkT (h :: r) out ws = eqB ws (telling (h :: r) out) := by
  rw [Bool.eq_iff_iff, eqB_iff]
  unfold checkT
  rw [Bool.and_eq_true, List.all_eq_true, List.all_eq_true, List.headD_cons]
  constructor
  · rintro ⟨hg, hc⟩
    have good : ∀ k w, ws[k]? = some w → w ∈ telling (h :: r) out ∧ (0 < k → ltW (ws.getD (k - 1) []) w = true) := fun k w e => (good_iff e).mp (hg k (List.mem_range.mpr (List.getElem?_eq_some_iff.mp e).1))
    have srt : ∀ (d i : Nat) (a b : Wd), ws[i]? = some a → ws[i + 1 + d]? = some b → ltW a b = true := by
      intro d
      induction d with
      | zero =>
        intro i a b ha hb
        have := (good (i + 1) b hb).2 (by omega)
        rw [Nat.add_sub_cancel, List.getD_eq_getElem?_getD, ha] at this
        exact this
      | succ d ih =>
        intro i a b ha hb
        have hl := (List.getElem?_eq_some_iff.mp hb).1
        obtain ⟨c, hc'⟩ : ∃ c, ws[i + 1 + d]? = some c := ⟨_, List.getElem?_eq_getElem (by omega)⟩
        have h1 := ih i a c ha hc'
        have h2 := (good (i + 1 + d + 1) b hb).2 (by omega)
        rw [Nat.add_sub_cancel, List.getD_eq_getElem?_getD, hc'] at h2
        exact ltW_trans _ _ _ h1 h2
    refine sorted_eq (lt := ltW) ltW_irrefl ltW_trans ?_ (telling_sorted _ _) fun a => ⟨fun ha => ?_, fun ha => ?_⟩
    · rw [List.pairwise_iff_getElem]
      intro i j hi hj hij
      exact srt (j - i - 1) i _ _ (List.getElem?_eq_getElem hi) (by rw [show i + 1 + (j - i - 1) = j by omega]; exact List.getElem?_eq_getElem hj)
    · obtain ⟨k, hk⟩ := List.mem_iff_getElem?.mp ha
      exact (good k a hk).1
    · obtain ⟨a1, a2, a3⟩ := mem_telling.mp ha
      have hs : a ∈ stretches h := mem_stretches.mpr ⟨a1, (tells_iff.mp a2).1 h List.mem_cons_self⟩
      have := hc a hs
      rw [a2, Bool.true_and, Bool.not_not, List.any_eq_true] at this
      obtain ⟨o, ho, hio⟩ := this
      obtain ⟨k, hk⟩ := List.mem_iff_getElem?.mp ho
      obtain ⟨o1, o2, o3⟩ := mem_telling.mp (good k o hk).1
      rw [← least_no a2 a3 o2 o1 (inW_iff.mp hio)]
      exact ho
  · rintro rfl
    refine ⟨fun k hk => ?_, fun w hw => ?_⟩
    · have hl := List.mem_range.mp hk
      refine (good_iff (List.getElem?_eq_getElem hl)).mpr ⟨List.getElem_mem hl, fun hk0 => ?_⟩
      rw [List.getD_eq_getElem?_getD, List.getElem?_eq_getElem (by omega)]
      exact (List.pairwise_iff_getElem.mp (telling_sorted (h :: r) out)) (k - 1) k (by omega) hl (by omega)
    · cases ht : tells (h :: r) out w with
      | false => rfl
      | true =>
        obtain ⟨o, o1, o2⟩ := least_in w.length w (Nat.le_refl _) (mem_stretches.mp hw).1 ht
        rw [Bool.true_and, Bool.not_not, List.any_eq_true]
        exact ⟨o, o1, inW_iff.mpr o2⟩
end K88

/-! ## k88: the law itself -/
namespace K88
open PySem PySem.Spec PyProof.Rows L2 G
def shapeD (ns : List Int) : Int := ns.getD 7 0 % 6
def txD (ns : List Int) : Nat := ([3, 3, 3, 3, 6, 1] : List Nat).getD (shapeD ns).toNat 0
def msD (ns : List Int) : Nat := ([9, 9, 9, 9, 4, 20] : List Nat).getD (shapeD ns).toNat 0
def houseL (ns : List Int) : Hs := houseD ns 10 (txD ns) (msD ns)
def housesD (ns : List Int) : List Hs := [houseL ns] ++ ((List.range 3).map fun k : Nat => nearD ns (450 + 10 * (k : Int)) (houseL ns)) ++ [houseD ns 400 3 9]
def orderD (ns : List Int) : List Int := (List.range 5).map fun k : Nat => ns.getD (490 + k) 0 % 5
def pickH (ns : List Int) (k : Int) : Hs := (housesD ns).getD k.toNat []
def innD (ns : List Int) : List Hs := (G.cutD (orderD ns) none (some (1 + ns.getD 495 0 % 3))).map (pickH ns)
def outD (ns : List Int) : List Hs := (G.cutD (orderD ns) (some 3) (some (3 + ns.getD 496 0 % 3))).map (pickH ns)
theorem shape_ok (ns : List Int) : 0 ≤ shapeD ns ∧ shapeD ns < 6 := ⟨Int.emod_nonneg _ (by decide), Int.emod_lt_of_pos _ (by decide)⟩
theorem six (P : Int → Prop) (s : Int) (h0 : 0 ≤ s) (h1 : s < 6) (a : P 0) (b : P 1) (c : P 2) (d : P 3) (e : P 4) (f : P 5) : P s := by
  rcases (show s = 0 ∨ s = 1 ∨ s = 2 ∨ s = 3 ∨ s = 4 ∨ s = 5 by omega) with rfl | rfl | rfl | rfl | rfl | rfl <;> assumption
theorem tx_ok (ns : List Int) : atI ([3, 3, 3, 3, 6, 1] : List Int) (shapeD ns) = some (txD ns : Int) ∧ txD ns ≤ 6 := by
  unfold txD
  obtain ⟨h0, h1⟩ := shape_ok ns
  exact six (fun s => atI ([3, 3, 3, 3, 6, 1] : List Int) s = some ((([3, 3, 3, 3, 6, 1] : List Nat).getD s.toNat 0 : Nat) : Int) ∧ ([3, 3, 3, 3, 6, 1] : List Nat).getD s.toNat 0 ≤ 6) _ h0 h1 (by decide) (by decide) (by decide) (by decide) (by decide) (by decide)
theorem ms_ok (ns : List Int) : atI ([9, 9, 9, 9, 4, 20] : List Int) (shapeD ns) = some (msD ns : Int) ∧ msD ns ≤ 20 := by
  unfold msD
  obtain ⟨h0, h1⟩ := shape_ok ns
  exact six (fun s => atI ([9, 9, 9, 9, 4, 20] : List Int) s = some ((([9, 9, 9, 9, 4, 20] : List Nat).getD s.toNat 0 : Nat) : Int) ∧ ([9, 9, 9, 9, 4, 20] : List Nat).getD s.toNat 0 ≤ 20) _ h0 h1 (by decide) (by decide) (by decide) (by decide) (by decide) (by decide)
/-- a house of the law's size -/
def HB (h : Hs) : Prop := HsB 6 41 72 h
theorem HsB.up {t m t' m' : Nat} {n n' : Int} {h : Hs} (b : HsB t m n h) (h1 : t ≤ t') (h2 : m ≤ m') (h3 : n ≤ n') : HsB t' m' n' h := ⟨Nat.le_trans b.1 h1, fun p hp => by
  obtain ⟨a, c, d, e⟩ := b.2 p hp
  exact ⟨a, by omega, d, by omega⟩⟩
theorem houseL_ok {ns : List Int} (h : NsOk ns) : HsB 6 20 72 (houseL ns) := HsB.up (houseD_ok h 10 (txD ns) (msD ns)) (tx_ok ns).2 (ms_ok ns).2 (by have := (tx_ok ns).2; omega)
theorem houses_ok {ns : List Int} (h : NsOk ns) : ∀ g ∈ housesD ns, HB g := by
  intro g hg
  unfold housesD at hg
  rcases List.mem_append.mp hg with e | e
  · rcases List.mem_append.mp e with e | e
    · rw [List.mem_singleton.mp e]
      exact HsB.up (houseL_ok h) (by decide) (by decide) (by decide)
    · obtain ⟨k, _, rfl⟩ := List.mem_map.mp e
      exact HsB.up (nearD_ok _ (houseL_ok h)) (by decide) (by decide) (by decide)
  · rw [List.mem_singleton.mp e]
    exact HsB.up (houseD_ok h 400 3 9) (by decide) (by decide) (by decide)
theorem pickH_ok {ns : List Int} (h : NsOk ns) (k : Int) : HB (pickH ns k) := by
  unfold pickH
  rw [List.getD_eq_getElem?_getD]
  cases e : (housesD ns)[k.toNat]? with
  | none => exact ⟨Nat.zero_le _, fun _ z => nomatch z⟩
  | some g => exact houses_ok h g (List.mem_of_getElem? e)
theorem HB.ok {h : Hs} (b : HB h) : hOk h := ⟨Nat.le_trans b.1 (by decide), fun p hp => Nat.le_trans (b.2 p hp).2.1 (by decide)⟩
theorem inn_len (ns : List Int) : 1 ≤ (innD ns).length ∧ (innD ns).length ≤ 3 := by
  have h0 := Int.emod_nonneg (ns.getD 495 0) (b := 3) (by decide)
  have h1 := Int.emod_lt_of_pos (ns.getD 495 0) (b := 3) (by decide)
  unfold innD orderD
  obtain ⟨n, hn⟩ := Int.eq_ofNat_of_zero_le h0
  rw [hn, show (1 : Int) + (n : Nat) = ((1 + n : Nat) : Int) by omega, List.length_map, cutD_upto, List.length_take, List.length_map, List.length_range]
  omega
theorem out_len (ns : List Int) : (outD ns).length ≤ 5 := by
  unfold outD
  rw [List.length_map]
  refine Nat.le_trans (cutD_le _ _ _) ?_
  unfold orderD
  rw [List.length_map, List.length_range]
  exact Nat.le_refl _
theorem inn_ok {ns : List Int} (h : NsOk ns) : ∀ g ∈ innD ns, HB g := fun g hg => by
  obtain ⟨k, _, rfl⟩ := List.mem_map.mp hg
  exact pickH_ok h k
theorem out_ok {ns : List Int} (h : NsOk ns) : ∀ g ∈ outD ns, HB g := fun g hg => by
  obtain ⟨k, _, rfl⟩ := List.mem_map.mp hg
  exact pickH_ok h k
theorem hs_ok {l : List Hs} (n : l.length ≤ 1000) (h : ∀ g ∈ l, HB g) : hsOk l := ⟨n, fun g hg => (h g hg).ok⟩
/-! ### sizes for repr -/
theorem pr_lt {w : Wd} (h : Pr w) : ∀ c ∈ w, c < 1000000 := fun c hc => by have := h c hc; omega
theorem sz_house {h : Hs} (b : HB h) : Sz 528 (eH h) ∧ (eH h).py.depth ≤ 2 := by
  have q : ∀ d ∈ h.map (e2 D.int eW), Sz 84 d ∧ d.py.depth ≤ 1 := by
    intro d hd
    obtain ⟨p, hp, rfl⟩ := List.mem_map.mp hd
    obtain ⟨a, c, e, f⟩ := b.2 p hp
    refine ⟨?_, (g2 gI gW).depth p⟩
    have := sz_tuple (b := 41) (dp := 0) (ds := [D.int p.1, eW p.2]) (by decide) (by
      intro d hd
      simp only [List.mem_cons, List.not_mem_nil, or_false] at hd
      rcases hd with rfl | rfl
      · exact ⟨(sz_int (by omega)).up (by decide), gI.depth _⟩
      · exact ⟨(sz_word (pr_lt a)).up c, gW.depth _⟩)
    exact this
  refine ⟨(sz_list (dp := 1) (by decide) q).up ?_, (gL (g2 gI gW)).depth h⟩
  rw [List.length_map]
  have := b.1
  omega
theorem sz_houses {l : List Hs} (n : l.length ≤ 5) (h : ∀ g ∈ l, HB g) : Sz 2645 (eHs l) ∧ (eHs l).py.depth ≤ 3 := by
  have q : ∀ d ∈ l.map eH, Sz 528 d ∧ d.py.depth ≤ 2 := by
    intro d hd
    obtain ⟨g, hg, rfl⟩ := List.mem_map.mp hd
    exact sz_house (h g hg)
  refine ⟨(sz_list (dp := 2) (by decide) q).up ?_, (gL (gL (g2 gI gW))).depth l⟩
  rw [List.length_map]
  omega
theorem sz_words {n m : Nat} {ws : List Wd} (h : WsB n m ws) : Sz ((m + 1) * n) (eL eW ws) := by
  have q : ∀ d ∈ ws.map eW, Sz m d ∧ d.py.depth ≤ 0 := by
    intro d hd
    obtain ⟨w, hw, rfl⟩ := List.mem_map.mp hd
    exact ⟨(sz_word (pr_lt (h.2 w hw).2)).up (h.2 w hw).1, gW.depth w⟩
  refine (sz_list (dp := 0) (by decide) q).up ?_
  rw [List.length_map]
  exact Nat.mul_le_mul_left _ h.1
/-- stretches are parts of texts -/
theorem stretch_b {h : Hs} (b : HB h) : ∀ w ∈ stretches h, w.length ≤ 41 ∧ Pr w := by
  intro w hw
  obtain ⟨p, hp, hi⟩ := isStretch_iff.mp (mem_stretches.mp hw).2
  obtain ⟨a, c, _, _⟩ := b.2 p hp
  exact ⟨Nat.le_trans hi.length_le c, fun x hx => a x (hi.subset hx)⟩
theorem stretch_n {h : Hs} (b : HB h) : (stretches h).length ≤ 10332 := by
  have key : ∀ (l : Hs) (ks : List Wd), (∀ p ∈ l, p.2.length ≤ 41) → (l.foldl addText ks).length ≤ ks.length + 1722 * l.length := by
    intro l
    induction l with
    | nil => intro ks _; simp
    | cons p l ih =>
      intro ks hb
      have h1 := ih (addText ks p) fun q hq => hb q (List.mem_cons_of_mem _ hq)
      have hp := hb p List.mem_cons_self
      have st : ∀ (ks : List Wd) (i : Nat), (addStart p.2 ks i).length ≤ ks.length + 42 := by
        intro ks i
        have h := foldl_len (addStop_len p.2 (0 + (i : Int))) (List.range ((p.2.length : Int) + 1 - (0 + (i : Int) + 1)).toNat) ks
        rw [List.length_range] at h
        unfold addStart
        omega
      have h2 := foldl_len st (List.range (p.2.length : Int).toNat) ks
      rw [List.length_range] at h2
      have h3 : (addText ks p).length ≤ ks.length + 1722 := by
        unfold addText
        omega
      rw [List.foldl_cons, List.length_cons, Nat.mul_succ]
      omega
  have q := key h [] fun p hp => (b.2 p hp).2.1
  have := b.1
  unfold stretches allSub
  rw [List.length_map, List.length_mergeSort, List.length_map]
  simp only [List.length_nil] at q
  omega
theorem every_b {h : Hs} {r out : List Hs} (b : HB h) : WsB 10332 41 (everyD (h :: r) out) := by
  rw [every_eq]
  exact ⟨Nat.le_trans (List.length_filter_le _ _) (stretch_n b), fun w hw => stretch_b b w (List.mem_filter.mp hw).1⟩
theorem due_b {h : Hs} {r out : List Hs} (b : HB h) : WsB 10332 41 (leastD (everyD (h :: r) out)) :=
  ⟨Nat.le_trans (List.length_filter_le _ _) (every_b b).1, fun w hw => (every_b b).2 w (List.mem_filter.mp hw).1⟩
end K88

/-! ## k88: the law's loops -/
namespace K88
open PySem PySem.Spec PyProof.Rows L2 G
def dueD (ns : List Int) : List Wd := leastD (everyD (innD ns) (outD ns))
def selD (due : List Wd) (tries : List (List Wd)) (turn : Nat) : List Wd := [due, tries.getLastD due].getD ((turn : Int) % 2).toNat []
def tryStep (ns : List Int) (due every : List Wd) (tries : List (List Wd)) (turn : Nat) : List (List Wd) := tries ++ [changeD (selD due tries turn) every (drawnD ns (500 + (turn : Int)))]
theorem atI_last {α : Type} {xs : List α} {d : α} (h : xs ≠ []) : atI xs (-1) = some (xs.getLastD d) := by
  have hl := List.length_pos_iff.mpr h
  have e : ixN xs.length (-1) = some (xs.length - 1) := by
    unfold ixN
    rw [if_neg (by decide), if_pos (by omega)]
    congr 1
    omega
  unfold atI
  rw [e]
  show xs[xs.length - 1]? = _
  rw [← List.getLast?_eq_getElem?, List.getLastD_eq_getLast?]
  cases e2 : xs.getLast? with
  | none => exact absurd (List.getLast?_eq_none_iff.mp e2) h
  | some a => rfl
theorem sel_mem {due : List Wd} {tries : List (List Wd)} (hd : due ∈ tries) (turn : Nat) : selD due tries turn ∈ tries := by
  have h0 := Int.emod_nonneg (turn : Int) (b := 2) (by decide)
  have h1 := Int.emod_lt_of_pos (turn : Int) (b := 2) (by decide)
  have hm : selD due tries turn ∈ [due, tries.getLastD due] := getD_mem (by simp; omega)
  simp only [List.mem_cons, List.not_mem_nil, or_false] at hm
  rcases hm with e | e
  · rw [e]; exact hd
  · rw [e, List.getLastD_eq_getLast?]
    cases e2 : tries.getLast? with
    | none => exact hd
    | some a => exact List.mem_of_getLast? e2
def TInv (due : List Wd) (n : Nat) (tries : List (List Wd)) : Prop := due ∈ tries ∧ tries.length = n + 1 ∧ ∀ ws ∈ tries, WsB (10332 + n) (41 + n) ws
theorem WsB.up {n m n' m' : Nat} {ws : List Wd} (h : WsB n m ws) (h1 : n ≤ n') (h2 : m ≤ m') : WsB n' m' ws := ⟨Nat.le_trans h.1 h1, fun w hw => ⟨Nat.le_trans (h.2 w hw).1 h2, (h.2 w hw).2⟩⟩
theorem try_inv {ns : List Int} {due every : List Wd} (he : WsB 10332 41 every) {n : Nat} {tries : List (List Wd)} (turn : Nat) (h : TInv due n tries) : TInv due (n + 1) (tryStep ns due every tries turn) := by
  obtain ⟨h1, h2, h3⟩ := h
  refine ⟨List.mem_append_left _ h1, by unfold tryStep; rw [List.length_append, h2]; rfl, ?_⟩
  intro ws hw
  unfold tryStep at hw
  rcases List.mem_append.mp hw with e | e
  · exact WsB.up (h3 ws e) (by omega) (by omega)
  · rw [List.mem_singleton.mp e]
    exact WsB.up (changeD_ok _ (h3 _ (sel_mem h1 turn)) (fun w hw => ⟨Nat.le_trans (he.2 w hw).1 (by omega), (he.2 w hw).2⟩) (by omega)) (by omega) (by omega)
theorem try_fold {ns : List Int} {due every : List Wd} (he : WsB 10332 41 every) : ∀ (l : List Nat) {n : Nat} {tries : List (List Wd)}, TInv due n tries → TInv due (n + l.length) (l.foldl (tryStep ns due every) tries)
  | [], n, tries, h => h
  | t :: l, n, tries, h => by
    have := try_fold (ns := ns) he l (try_inv (ns := ns) he t h)
    rw [List.length_cons, show n + (l.length + 1) = n + 1 + l.length by omega]
    exact this
section
theorem law_tail (q : Cq) (T : Tx q.K q.mg) (B : Bs) (hr : Rm 6 (q.X n_law d_law.qual (defScope s_law)).A) (script ns : List Int) (hN : NsOk ns) (h : Hs) (r out : List Hs) (oi : hsOk (h :: r)) (oo : hsOk out) (every due : List Wd) (eb : WsB 10332 41 every) (db : WsB 10332 41 due)
    (tde : telling (h :: r) out = due) (shK : Shw (.tuple [eHs (h :: r), eHs out])) (c2 c3 c4 c5 c6 c12 c13 c14 c15 c16 c17 : Cl) :
    WP B (q.X n_law d_law.qual (defScope s_law)) ((defBody s_law).drop 13) [.fr (.list (script.map D.int)), .fr (.list (ns.map D.int)), c2, c3, c4, c5, c6, .fr (eHs (h :: r)), .fr (eHs out), .fr (.str (D.tuple [eHs (h :: r), eHs out]).py.shown), .fr (eL eW every), .fr (eL eW due), c12, c13, c14, c15, c16, c17] (ocR (.f (.bool true))) := by
  have hne : h :: r ≠ [] := fun z => nomatch z
  have shD : Shw (eL eW due) := (sz_words db).shw (by decide)
  refine wp_cons (w1_own (d := .list ([due].map (eL eW))) 13 nd_law (xo_lst (xl_cons (xf_var 11) xl_nil)) ?_)
  have t0 : TInv due 0 [due] := ⟨List.mem_singleton.mpr rfl, rfl, fun ws hw => by rw [List.mem_singleton.mp hw]; exact db⟩
  refine wp_cons (w1_fold (List.range 10) (fun t : Nat => D.int (t : Int)) (fun s Γ => ∃ a : Cl, Γ = [.fr (.list (script.map D.int)), .fr (.list (ns.map D.int)), c2, c3, c4, c5, c6, .fr (eHs (h :: r)), .fr (eHs out), .fr (.str (D.tuple [eHs (h :: r), eHs out]).py.shown), .fr (eL eW every), .fr (eL eW due), c12, .ow (.list (s.map (eL eW))), a, c15, c16, c17])
    (tryStep ns due every) [due] (xi_rgN (n := 10) (XF.b xf_int) (by decide) rfl (b_range T)) ⟨_, rfl⟩ ?_ ?_ q.own)
  · rintro pre t post Γ0 es ⟨a, rfl⟩
    have hi := try_fold (ns := ns) eb pre t0
    have hpl : pre.length < 10 := by
      have := congrArg List.length es
      rw [List.length_range, List.length_append, List.length_cons] at this
      omega
    generalize List.foldl (tryStep ns due every) [due] pre = tries at *
    obtain ⟨i1, i2, i3⟩ := hi
    rw [Nat.zero_add] at i2 i3
    have hnt : tries ≠ [] := fun z => by rw [z] at i2; cases i2
    have h0 := Int.emod_nonneg (t : Int) (b := 2) (by decide)
    have h1 := Int.emod_lt_of_pos (t : Int) (b := 2) (by decide)
    have at_s : atI ([due, tries.getLastD due] : List (List Wd)) ((t : Int) % 2) = some (selD due tries t) := atI_int h0 (by unfold selD; rw [List.getD_eq_getElem?_getD, List.getElem?_eq_getElem (by simp; omega)]; rfl)
    have sb := i3 _ (sel_mem i1 t)
    refine ⟨_, _, xg_name 14 nd_law, ?_⟩
    refine wp_one (w1_appendE (en := eL eW) (c := changeD (selD due tries t) every (drawnD ns (500 + (t : Int)))) 13 rfl (xf_call (a := (ns, 500 + (t : Int), selD due tries t, every)) (f_law_changed T) hr ⟨hN, Nat.le_trans sb.1 (by omega), Nat.le_trans eb.1 (by decide), fun w hw => Nat.le_trans (sb.2 w hw).1 (by omega)⟩ rfl
      (xl_cons (xf_var 1) (xl_cons (xf_add xf_int.b (xf_var 14).b) (xl_cons (xf_ixE (en := eL eW) (XO.b (xo_lst (ds := ([due, tries.getLastD due] : List (List Wd)).map (eL eW)) (xl_cons (xf_var 11) (xl_cons (xf_ixE (en := eL eW) (xb_own 13) (XF.b (xf_neg xf_int.b)) (atI_last hnt)) xl_nil))))
        (XF.b (xf_mod (XF.b (xf_int1 (xf_var 14).b (b_int T))) xf_int.b (by decide))) at_s) (xl_cons (xf_var 10) xl_nil))))) (lt_size (by omega)) ⟨_, rfl⟩)
  rintro Γ0 ⟨a, rfl⟩
  have hi := try_fold (ns := ns) eb (List.range 10) t0
  rw [List.length_range, Nat.zero_add] at hi
  generalize List.foldl (tryStep ns due every) [due] (List.range 10) = tries at *
  refine wp_freeze 13 rfl ?_
  have se : ∀ x : Str, eqB x x = true := fun x => eqB_iff.mpr rfl
  refine wp_cons (w1_each tries (eL eW) (fun Γ => ∃ b c : Cl, Γ = [.fr (.list (script.map D.int)), .fr (.list (ns.map D.int)), c2, c3, c4, c5, c6, .fr (eHs (h :: r)), .fr (eHs out), .fr (.str (D.tuple [eHs (h :: r), eHs out]).py.shown), .fr (eL eW every), .fr (eL eW due), c12, .fr (.list (tries.map (eL eW))), a, b, c, c17])
    (fun _ => true) (xi_list (xf_var 13)) ⟨_, _, rfl⟩ ?_ ?_ q.own)
  · rintro pre ws post Γ0 es hpre ⟨b, c, rfl⟩
    have wb := hi.2.2 ws (by rw [es]; simp)
    have shW : Shw (eL eW ws) := (sz_words wb).shw (by decide)
    refine ⟨_, _, xg_name 15 nd_law, ?_⟩
    refine wp_cons (w1_set 16 nd_law (xf_repr hr shW (xf_var 15).b (b_repr T)) ?_)
    refine wp_one (w1_if (k := false) (XT.to (XW.test (xw_or (xt_neG gS (by decide) hr.rm.units (XF.b (xf_repr hr ((sz_bool _).shw (by decide)) (XF.b (xf_call (a := (h :: r, out, ws)) (f_check_telling T) hr ⟨oi, oo, Nat.le_trans wb.1 (by decide), fun w hw => Nat.le_trans (wb.2 w hw).1 (by decide)⟩ (if_neg hne) (xl_cons (xf_var 7) (xl_cons (xf_var 8) (xl_cons (xf_var 15) xl_nil))))) (b_repr T)))
      (XF.b (xf_repr hr ((sz_bool _).shw (by decide)) (XF.b (xf_eqG (a := ws) (b := due) (gL gW) (by decide) hr.rm.units (xf_var 15).b (xf_var 11).b)) (b_repr T)))) fun _ => xw_or1 (xt_neG gS (by decide) hr.rm.units (XF.b (xf_repr hr shW (xf_var 15).b (b_repr T))) (xf_var 16).b))) ?_) (fun e => nomatch e) fun _ => wp_nil ⟨⟨_, _, rfl⟩, rfl⟩)
    have ce : checkT (h :: r) out ws = eqB ws due := by rw [check_eq, tde]
    show (!eqB (D.bool (checkT (h :: r) out ws)).py.shown (D.bool (eqB ws due)).py.shown || !eqB (eL eW ws).py.shown (eL eW ws).py.shown) = false
    rw [ce, se, se]
    rfl
  rintro Γ0 hall ⟨b, c, rfl⟩
  refine wp_cons (w1_each (List.range 3) (fun t : Nat => D.int (t : Int)) (fun Γ => ∃ d : Cl, Γ = [.fr (.list (script.map D.int)), .fr (.list (ns.map D.int)), c2, c3, c4, c5, c6, .fr (eHs (h :: r)), .fr (eHs out), .fr (.str (D.tuple [eHs (h :: r), eHs out]).py.shown), .fr (eL eW every), .fr (eL eW due), c12, .fr (.list (tries.map (eL eW))), a, b, c, d])
    (fun _ => true) (xi_rgN (n := 3) (XF.b xf_int) (by decide) rfl (b_range T)) ⟨_, rfl⟩ ?_ ?_ q.own)
  · rintro pre t post Γ0 es hpre ⟨d, rfl⟩
    refine ⟨_, _, xg_name 17 nd_law, ?_⟩
    exact wp_one (w1_if (k := false) (XT.to (xt_neG (ea := e2 D.bool D.int) (a := (true, 0)) (b := (true, 0)) (g2 gB gI) (by decide) hr.rm.units (XF.b (xf_call (a := ((t : Int), out)) (f_law_refused T) hr oo rfl (xl_cons (xf_var 17) (xl_cons (xf_var 8) xl_nil)))) (XF.b (xf_tup (xl_cons xf_bool (xl_cons xf_int xl_nil))))) (by decide)) (fun e => nomatch e) fun _ => wp_nil ⟨⟨_, rfl⟩, rfl⟩)
  rintro Γ0 hall2 ⟨d, rfl⟩
  refine wp_one (w1_ret (XF.to (xf_and (xf_eqG gS (by decide) hr.rm.units (XF.b (xf_repr hr shD (XO.b (XO.to (xo_call (a := (h :: r, out)) (f_telling_words T) hr ⟨oi, oo⟩ (if_neg hne) (xl_cons (xf_var 7) (xl_cons (xf_var 8) xl_nil))) (show eL eW (telling (h :: r) out) = eL eW due by rw [tde]))) (b_repr T))) (XF.b (xf_repr hr shD (xf_var 11).b (b_repr T))))
    fun _ => xf_one (xf_eqG gS (by decide) hr.rm.units (XF.b (xf_repr hr shK (XF.b (xf_tup (xl_cons (xf_var 7) (xl_cons (xf_var 8) xl_nil)))) (b_repr T))) (xf_var 9).b)) ?_) rfl)
  rw [se, se]
  rfl
end
end K88

/-! ## k88: the law's walk -/
namespace K88
open PySem PySem.Spec PyProof.Rows L2 G
section
variable {P : Program} {w : World} {K : PySem.W.Frag} {mg : Str → Option Value} {base : Heap}
theorem f_law (T : Tx K mg) {fd : FuncData} (F : FunD K d_law.name d_law.qual (defArgs s_law) (defBody s_law) (defScope s_law) [] [] (He.fAd K d_law.at_) fd) : FnG P w K mg base 7 (He.fAd K d_law.at_) fd ["script"]
    (spD (fun a : List Int => a.length ≤ 63) (fun a => [.list (a.map D.int)]) (fun _ => .f (.bool true))) := by
  refine fn_ok F sc_law (fun _ => rfl) ?_
  rintro q B script rfl rfl rfl rfl rfl hr hp hl
  refine wp_cons (w1_set 1 nd_law (XO.f (xo_call (a := (script, 900)) (f_law_numbers T) hr ⟨hp, (show 900 ≤ 1000000 by decide)⟩ rfl (xl_cons (xf_var 0) (xl_cons xf_int xl_nil)))) ?_)
  have hN : NsOk (numsD script 900) := nums_ok script (by decide) (by decide)
  have hL : (numsD script 900).length = 900 := numsD_len script 900
  generalize numsD script 900 = ns at *
  have at_n : ∀ i : Nat, i < 900 → atI ns (i : Int) = some (ns.getD i 0) := fun i hi => atI_int (by omega) (by rw [Int.toNat_natCast, List.getD_eq_getElem?_getD, List.getElem?_eq_getElem (by omega)]; rfl)
  refine wp_cons (w1_set (d := .int (shapeD ns)) 2 nd_law (xf_mod (XF.b (xf_int1 (XF.b (xf_ixE (xf_var 1).b xf_int.b (at_n 7 (by decide)))) (b_int T))) xf_int.b (by decide)) ?_)
  refine wp_cons (w1_set (d := eH (houseL ns)) 3 nd_law (xf_call (a := (ns, 10, txD ns, msD ns)) (f_law_house T) hr ⟨hN, Nat.le_trans (tx_ok ns).2 (by decide), Nat.le_trans (ms_ok ns).2 (by decide)⟩ rfl
    (xl_cons (xf_var 1) (xl_cons xf_int (xl_cons (xf_ixE (en := D.int) (XO.b (xo_lst (ds := ([3, 3, 3, 3, 6, 1] : List Int).map D.int) (xl_cons xf_int (xl_cons xf_int (xl_cons xf_int (xl_cons xf_int (xl_cons xf_int (xl_cons xf_int xl_nil)))))))) (xf_var 2).b (tx_ok ns).1)
      (xl_cons (xf_ixE (en := D.int) (XO.b (xo_lst (ds := ([9, 9, 9, 9, 4, 20] : List Int).map D.int) (xl_cons xf_int (xl_cons xf_int (xl_cons xf_int (xl_cons xf_int (xl_cons xf_int (xl_cons xf_int xl_nil)))))))) (xf_var 2).b (ms_ok ns).1) xl_nil))))) ?_)
  have hHL := houseL_ok hN
  refine wp_cons (w1_set (d := eHs (housesD ns)) 4 nd_law (XO.f (xo_catE (en := eH) (xs := [(houseL ns)] ++ (List.range 3).map fun k : Nat => nearD ns (450 + 10 * (k : Int)) (houseL ns)) (ys := [houseD ns 400 3 9]) (XO.b (xo_catE (en := eH) (XO.b (xo_lst (ds := [(houseL ns)].map eH) (xl_cons (xf_var 3) xl_nil)))
    (XB.to (XO.b (xo_map [("k", 5)] (List.range 3) (fun k : Nat => D.int (k : Int)) (fun k : Nat => eH (nearD ns (450 + 10 * (k : Int)) (houseL ns))) nd_law (xj_rgN (n := 3) (XF.b xf_int) (by decide) rfl (b_range T)) ?_ (lt_size (by decide)))) (by rw [List.map_map]; rfl)) (le_size (by simp))))
    (XO.b (xo_lst (ds := [houseD ns 400 3 9].map eH) (xl_cons (xf_call (a := (ns, 400, 3, 9)) (f_law_house T) hr ⟨hN, (show 3 ≤ 1000 by decide), (show 9 ≤ 1000 by decide)⟩ rfl (xl_cons (xf_var 1) (xl_cons xf_int (xl_cons xf_int (xl_cons xf_int xl_nil))))) xl_nil))) (le_size (by simp)))) ?_)
  · intro k hk
    exact t1_name 5 nd_law (by decide) fun s0 H1' C cl fp => xf_call (a := (ns, 450 + 10 * (k : Int), (houseL ns))) (f_law_near T) hr ⟨hN, Nat.le_trans hHL.1 (by decide), fun p hp => Nat.le_trans (hHL.2 p hp).2.1 (by decide)⟩ rfl (xl_cons (xf_var 1) (xl_cons (xf_add xf_int.b (XF.b (xf_mul xf_int.b (xf_var 5).b (.inl (by decide))))) (xl_cons (xf_var 3) xl_nil)))
  have h5 : (housesD ns).length = 5 := by unfold housesD; simp
  have at_h : ∀ k : Int, 0 ≤ k → k < 5 → atI (housesD ns) k = some (pickH ns k) := fun k k0 k1 => atI_int k0 (by unfold pickH; rw [List.getD_eq_getElem?_getD, List.getElem?_eq_getElem (by omega)]; rfl)
  refine wp_cons (w1_lc 6 [("k", 5)] (List.range 5) (fun k : Nat => D.int (k : Int)) (fun _ => true) (fun k : Nat => D.int (ns.getD (490 + k) 0 % 5)) nd_law (xj_rgN (n := 5) (XF.b xf_int) (by decide) rfl (b_range T)) ?_ (lt_size (by decide)) ?_ (blkOk_by rfl))
  · intro k hk
    rw [List.mem_range] at hk
    exact Turn1.turns (t1_name 5 nd_law (by decide) fun s0 H0 C cl fp => xf_mod (XF.b (xf_int1 (XF.b (xf_ixE (xf_var 1).b (XF.b (xf_add xf_int.b (xf_var 5).b)) (show atI ns (490 + (k : Int)) = some (ns.getD (490 + k) 0) by rw [show (490 : Int) + (k : Int) = ((490 + k : Nat) : Int) by omega]; exact at_n _ (by omega)))) (b_int T))) xf_int.b (by decide))
  rw [filt_true]
  have eo : (List.range 5).map (fun k : Nat => D.int (ns.getD (490 + k) 0 % 5)) = (orderD ns).map D.int := by unfold orderD; rw [List.map_map]; rfl
  rw [eo]
  refine wp_freeze 6 rfl ?_
  have ord : ∀ k ∈ orderD ns, 0 ≤ k ∧ k < 5 := by
    intro k hk
    unfold orderD at hk
    obtain ⟨j, _, rfl⟩ := List.mem_map.mp hk
    exact ⟨Int.emod_nonneg _ (by decide), Int.emod_lt_of_pos _ (by decide)⟩
  have olen : ∀ a b, (G.cutD (orderD ns) a b).length < sizeLine := fun a b => lt_size (Nat.lt_of_le_of_lt (cutD_le _ _ _) (by unfold orderD; simp))
  refine wp_cons (w1_lc 7 [("k", 5)] (G.cutD (orderD ns) none (some (1 + ns.getD 495 0 % 3))) D.int (fun _ => true) (fun k : Int => eH (pickH ns k)) nd_law
    (xj_list (XO.b (xo_slE (xf_var 6).b xp_none (xp_some (XF.b (xf_add xf_int.b (XF.b (xf_mod (XF.b (xf_int1 (XF.b (xf_ixE (xf_var 1).b xf_int.b (at_n 495 (by decide)))) (b_int T))) xf_int.b (by decide))))))))) ?_ (olen _ _) ?_ (blkOk_by rfl))
  · intro k hk
    obtain ⟨k0, k1⟩ := ord k (mem_cutD hk)
    exact Turn1.turns (t1_name 5 nd_law (by decide) fun s0 H0 C cl fp => xf_ixE (en := eH) (xf_var 4).b (xf_var 5).b (at_h k k0 k1))
  rw [filt_true]
  have ei : (G.cutD (orderD ns) none (some (1 + ns.getD 495 0 % 3))).map (fun k : Int => eH (pickH ns k)) = (innD ns).map eH := by unfold innD; rw [List.map_map]; rfl
  rw [ei]
  refine wp_freeze 7 rfl ?_
  refine wp_cons (w1_lc 8 [("k", 5)] (G.cutD (orderD ns) (some 3) (some (3 + ns.getD 496 0 % 3))) D.int (fun _ => true) (fun k : Int => eH (pickH ns k)) nd_law
    (xj_list (XO.b (xo_slE (xf_var 6).b (xp_some xf_int.b) (xp_some (XF.b (xf_add xf_int.b (XF.b (xf_mod (XF.b (xf_int1 (XF.b (xf_ixE (xf_var 1).b xf_int.b (at_n 496 (by decide)))) (b_int T))) xf_int.b (by decide))))))))) ?_ (olen _ _) ?_ (blkOk_by rfl))
  · intro k hk
    obtain ⟨k0, k1⟩ := ord k (mem_cutD hk)
    exact Turn1.turns (t1_name 5 nd_law (by decide) fun s0 H0 C cl fp => xf_ixE (en := eH) (xf_var 4).b (xf_var 5).b (at_h k k0 k1))
  rw [filt_true]
  have eu : (G.cutD (orderD ns) (some 3) (some (3 + ns.getD 496 0 % 3))).map (fun k : Int => eH (pickH ns k)) = (outD ns).map eH := by unfold outD; rw [List.map_map]; rfl
  rw [eu]
  refine wp_freeze 8 rfl ?_
  have bi := inn_ok hN
  have bo := out_ok hN
  have li := inn_len ns
  have lo := out_len ns
  generalize hin : innD ns = inn at *
  generalize hou : outD ns = out at *
  have oi : hsOk inn := hs_ok (by omega) bi
  have oo : hsOk out := hs_ok (by omega) bo
  have hne : inn ≠ [] := fun z => by rw [z] at li; exact absurd li.1 (by decide)
  have shK : Shw (.tuple [eHs inn, eHs out]) := by
    refine Sz.shw (sz_tuple (b := 2645) (dp := 3) (by decide) ?_) (by simp)
    intro d hd
    simp only [List.mem_cons, List.not_mem_nil, or_false] at hd
    rcases hd with rfl | rfl
    · exact sz_houses (by omega) bi
    · exact sz_houses lo bo
  refine wp_cons (w1_set 9 nd_law (xf_repr hr shK (XF.b (xf_tup (xl_cons (xf_var 7) (xl_cons (xf_var 8) xl_nil)))) (b_repr T)) ?_)
  refine wp_cons (w1_set 10 nd_law (xf_call (a := (inn, out)) (f_law_telling T) hr ⟨oi, oo, hne, Nat.le_trans lo (by decide)⟩ rfl (xl_cons (xf_var 7) (xl_cons (xf_var 8) xl_nil))) ?_)
  obtain ⟨h, r, rfl⟩ := List.exists_cons_of_ne_nil hne
  have bh := bi h List.mem_cons_self
  have eb := every_b (r := r) (out := out) bh
  have db := due_b (r := r) (out := out) bh
  have tde := telling_due h r out
  generalize hev : everyD (h :: r) out = every at *
  refine wp_cons (w1_set 11 nd_law (xf_call (a := every) (f_law_least T) hr (Nat.le_trans eb.1 (by decide)) rfl (xl_cons (xf_var 10) xl_nil)) ?_)
  generalize hdu : leastD every = due at *
  refine wp_cons (w1_own 12 nd_law (xo_call (a := (h :: r, out)) (f_telling_words T) hr ⟨oi, oo⟩ (if_neg hne) (xl_cons (XO.f (xo_listL (xf_var 7).b (b_list T))) (xl_cons (XO.f (xo_listL (xf_var 8).b (b_list T))) xl_nil))) ?_)
  rw [show eL eW (telling (h :: r, out).1 (h :: r, out).2) = eL eW due by rw [← tde]]
  have shD : Shw (eL eW due) := (sz_words db).shw (by decide)
  have efi : eO eW (firstT (h :: r) out) = eO eW due.head? := by unfold firstT; rw [tde]
  have shF : Shw (eO eW due.head?) := by
    cases e : due.head? with
    | none => exact sz_none.shw (by decide)
    | some wd =>
      have := db.2 wd (List.mem_of_head? e)
      exact (sz_word (pr_lt this.2)).shw (by omega)
  have at_f : atI (due.map eW ++ [D.none]) 0 = some (eO eW due.head?) := by
    cases due with
    | nil => exact atI_0
    | cons a l => exact atI_0
  refine wp_cons (w1_if (k := false) (XT.to (XW.test (xw_or (xt_not (xt_val (xf_isList (xb_own 12) (b_isinstance T) (b_list T)))) fun _ => xw_or (xt_neG gS (by decide) hr.rm.units (XF.b (xf_repr hr shD (xb_own 12) (b_repr T))) (XF.b (xf_repr hr shD (xf_var 11).b (b_repr T))))
    fun _ => xw_or1 (xt_neG gS (by decide) hr.rm.units (XF.b (xf_repr hr shF (XF.b (XF.to (xf_call (a := (h :: r, out)) (f_first_telling T) hr ⟨oi, oo⟩ (if_neg hne) (xl_cons (xf_var 7) (xl_cons (xf_var 8) xl_nil))) efi)) (b_repr T)))
      (XF.b (xf_repr hr shF (XF.b (xf_ixL (XO.b (xo_catL (xf_var 11).b (XO.b (xo_lst (xl_cons xf_none xl_nil))) (le_size ?_))) xf_int.b at_f)) (b_repr T)))))) ?_) (fun e => nomatch e) fun _ => wp_nil ?_)
  · rw [List.length_map]
    have := db.1
    simp only [List.length_singleton]
    omega
  · have e1 : ∀ x : Str, eqB x x = true := fun x => eqB_iff.mpr rfl
    rw [e1, e1]
    rfl
  refine wp_cons (w1_append 12 rfl xf_int (lt_size ?_) ?_)
  · rw [List.length_map]
    have := db.1
    omega
  exact law_tail q T B hr script ns hN h r out oi oo every due eb db tde shK _ _ _ _ _ _ _ _ _ _ _
end
end K88

/-! ## k88: the whole -/
namespace K88
open PySem PySem.Spec PyProof.Rows L2 G
theorem facts {w : World} {K : PySem.W.Frag} {h : Heap} {mg : Str → Option Value} {f : Addr} (X : K.In h) (gm : h.Ns mainGlobals mg) (hf : mg ("law" : Str) = some (.ref f)) (c : He.SaysD fas fns K) (e : ex K = true) :
    ∃ (fd : FuncData) (sp : Sp), (∀ (s : Shared) (u : Value), BindsTo s fd ⟨[u], []⟩ [("script", u)]) ∧
      (∀ (H : Hp) (a : Addr) (o : Obj) (ns : List Int), ns.length ≤ 63 → H a = some (.frz o (.lst (ns.map V.int))) → sp [.ref a] H (fun v _ => v = .bl true) E0) ∧
      ∀ base : Heap, K.In base → base.Ns mainGlobals mg → FnG pw w K mg base 7 f fd ["script"] sp := by
  have T : Tx K mg := ⟨c, e, h, X, gm⟩
  obtain ⟨fd, F⟩ := k_law T
  have ef := Option.some.inj (hf.symm.trans (g_law T))
  have ef2 : f = He.fAd K d_law.at_ := Value.ref.inj ef
  subst ef2
  refine ⟨fd, spD (fun a : List Int => a.length ≤ 63) (fun a => [.list (a.map D.int)]) (fun _ => .f (.bool true)), ?_, ?_, ?_⟩
  · have b := FunD.bindsA (ps := ["script"]) F fun _ _ _ _ _ _ us hl => match us, hl with | [_], _ => rfl
    exact fun s u => b s [u] rfl
  · intro H a o ns hn hH
    exact ⟨H, ns, fun _ _ z => z, script_rp hH, hn, fun v F' H' _ p => by cases p; rfl⟩
  · intro base hb hm
    exact f_law T F
end K88
open PySem PySem.W PySem.Calls PyProof.Rows
theorem PySem.Challenge.cw_suffixhouse_k88_words_that_tell_houses_holds : PySem.Challenge.rw_suffixhouse_k88_words_that_tell_houses.Holds := by
  w_on; o_law
  refine HandSHeadRun.head_any (r := OpenLaw.row PySem.Challenge.rw_suffixhouse_k88_words_that_tell_houses) (q := view (OpenLaw.row PySem.Challenge.rw_suffixhouse_k88_words_that_tell_houses).prog [25]) (H := K88.hk) (ob := K88.ob) (M := 4000) (loose := K88.loose)
    (d := HandSHeadRun.topDef (OpenLaw.row PySem.Challenge.rw_suffixhouse_k88_words_that_tell_houses).prog 25) (kwd := []) K88.ob_eq
    (by kernel_rfl) (fun s => by kernel_rfl) K88.run (by kernel_rfl) (by kernel_rfl) (by kernel_rfl) (by rfl) (by first | assumption | decide +kernel) (by decide +kernel) ⟨rfl, rfl, rfl, rfl, rfl, by decide +kernel⟩ ?hw ?hc
  case hw => w_witness2
  case hc =>
    refine G.walk_G (l := PySem.Challenge.rw_suffixhouse_k88_words_that_tell_houses) (n := 63) (k := 7) (x := "script") rfl (by decide) (by kernel_rfl) ⟨⟨rfl, by decide, by decide⟩, rfl⟩ ?F
    intro w K mg fa h X c e gm hmg0
    have hmg : mg ("law" : PySem.Str) = some (.ref fa) := by
      have e1 : (HandSHeadRun.topDef (OpenLaw.row PySem.Challenge.rw_suffixhouse_k88_words_that_tell_houses).prog 25).name = ("law" : PySem.Str) := by kernel_rfl
      rw [← e1]
      exact hmg0
    exact K88.facts X gm hmg c e

