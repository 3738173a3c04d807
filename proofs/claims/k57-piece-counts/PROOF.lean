import PyProof.Rows.All
import Wide.All
import OpenK.AllK
import Wide.FinOn
import HandS.ForMost
import HandS.TupAny
import HandS.TupMul
import HandS.Wide
import HandS.IsInst
import HandS.SortOrd
import HandS.SortInts
import HandS.Deep
import HandS.Conv
import HandS.StrMore
import HandS.Walk
import HandS.Zip
import HandS.Style
import HandS.TupLen
import HandS.Replace
import HandS.DictTup
import HandS.More
import PyProof.AutoSeq1
import PySem.Challenge.RW_wordstems_k57_whole_piece_counts
set_option Elab.async false
set_option linter.all false
set_option maxRecDepth 100000
/-! PV: data of Python as plain values, and how they lie in the tracked heap -/
namespace PV
open PySem L2

abbrev D := PyData
abbrev Wd := List Nat
/-- a text by its signs -/
def S (l : Wd) : D := .str ⟨l.toArray⟩
theorem S_inj {a b : Wd} : S a = S b ↔ a = b := by
  constructor
  · intro h
    have h1 : (⟨a.toArray⟩ : PySem.Str) = ⟨b.toArray⟩ := PyData.str.inj h
    have h2 := congrArg (fun x : PySem.Str => x.cps.toList) h1
    simpa using h2
  · intro h; rw [h]

/-! ### frozen parts -/
def isDic : HO → Bool
  | .dK _ => true
  | .dT _ => true
  | _ => false
/-- F lies in H (a dict may be locked there) -/
def SubF (F H : Hp) : Prop := ∀ a o, F a = some o → H a = some o ∨ (isDic o = true ∧ ∃ ob, H a = some (.frz ob o))
theorem SubF.tup {F H : Hp} (h : SubF F H) {a : Addr} {xs : List V} (e : F a = some (.tup xs)) : H a = some (.tup xs) := by
  rcases h a _ e with h | ⟨h, _⟩
  · exact h
  · cases h
theorem SubF.lst {F H : Hp} (h : SubF F H) {a : Addr} {xs : List V} (e : F a = some (.lst xs)) : H a = some (.lst xs) := by
  rcases h a _ e with h | ⟨h, _⟩
  · exact h
  · cases h
theorem SubF.rd {F H : Hp} (h : SubF F H) {a : Addr} {o : HO} (e : F a = some o) : Rd H a o := by
  rcases h a _ e with h | ⟨_, ob, h⟩
  · exact .inl h
  · exact .inr ⟨ob, h⟩

def keyD : Key → D
  | .inl i => .int i
  | .inr x => .str x
mutual
/-- the data d is what the value v stands for, by frozen objects alone -/
inductive Rp (F : Hp) : D → V → Prop
  | non : Rp F .none .non
  | bl (b : Bool) : Rp F (.bool b) (.bl b)
  | int (i : Int) : Rp F (.int i) (.int i)
  | str (x : PySem.Str) : Rp F (.str x) (.str x)
  | tup {a : Addr} {xs : List V} {ds : List D} : F a = some (.tup xs) → RpL F ds xs → Rp F (.tuple ds) (.ref a)
  | lst {a : Addr} {xs : List V} {ds : List D} : F a = some (.lst xs) → RpL F ds xs → Rp F (.list ds) (.ref a)
  | dicK {a : Addr} {kvs : List (Key × V)} {ps : List (D × D)} : F a = some (.dK kvs) → RpK F ps kvs → Rp F (.dict ps) (.ref a)
  | dicT {a : Addr} {kvs : List (List Key × V)} {ps : List (D × D)} : F a = some (.dT kvs) → RpT F ps kvs → Rp F (.dict ps) (.ref a)
inductive RpL (F : Hp) : List D → List V → Prop
  | nil : RpL F [] []
  | cons {d : D} {v : V} {ds : List D} {vs : List V} : Rp F d v → RpL F ds vs → RpL F (d :: ds) (v :: vs)
inductive RpK (F : Hp) : List (D × D) → List (Key × V) → Prop
  | nil : RpK F [] []
  | cons {k : Key} {d : D} {v : V} {ps : List (D × D)} {kvs : List (Key × V)} : Rp F d v → RpK F ps kvs → RpK F ((keyD k, d) :: ps) ((k, v) :: kvs)
inductive RpT (F : Hp) : List (D × D) → List (List Key × V) → Prop
  | nil : RpT F [] []
  | cons {k : List Key} {d : D} {v : V} {ps : List (D × D)} {kvs : List (List Key × V)} : Rp F d v → RpT F ps kvs → RpT F ((.tuple (k.map keyD), d) :: ps) ((k, v) :: kvs)
end
def LeF (F F' : Hp) : Prop := ∀ a o, F a = some o → F' a = some o
theorem LeF.refl (F : Hp) : LeF F F := fun _ _ h => h
theorem LeF.trans {A B C : Hp} (h : LeF A B) (g : LeF B C) : LeF A C := fun a o e => g a o (h a o e)
mutual
theorem Rp.mono {F F' : Hp} (l : LeF F F') : ∀ {d : D} {v : V}, Rp F d v → Rp F' d v
  | _, _, .non => .non
  | _, _, .bl b => .bl b
  | _, _, .int i => .int i
  | _, _, .str x => .str x
  | _, _, .tup e r => .tup (l _ _ e) (RpL.mono l r)
  | _, _, .lst e r => .lst (l _ _ e) (RpL.mono l r)
  | _, _, .dicK e r => .dicK (l _ _ e) (RpK.mono l r)
  | _, _, .dicT e r => .dicT (l _ _ e) (RpT.mono l r)
theorem RpL.mono {F F' : Hp} (l : LeF F F') : ∀ {d : List D} {v : List V}, RpL F d v → RpL F' d v
  | _, _, .nil => .nil
  | _, _, .cons r t => .cons (Rp.mono l r) (RpL.mono l t)
theorem RpK.mono {F F' : Hp} (l : LeF F F') : ∀ {d : List (D × D)} {v : List (Key × V)}, RpK F d v → RpK F' d v
  | _, _, .nil => .nil
  | _, _, .cons r t => .cons (Rp.mono l r) (RpK.mono l t)
theorem RpT.mono {F F' : Hp} (l : LeF F F') : ∀ {d : List (D × D)} {v : List (List Key × V)}, RpT F d v → RpT F' d v
  | _, _, .nil => .nil
  | _, _, .cons r t => .cons (Rp.mono l r) (RpT.mono l t)
end
section
variable {F : Hp}
theorem RpL.length : ∀ {ds : List D} {vs : List V}, RpL F ds vs → ds.length = vs.length
  | _, _, .nil => rfl
  | _, _, .cons _ t => congrArg (· + 1) (RpL.length t)
theorem RpL.append : ∀ {ds es : List D} {vs ws : List V}, RpL F ds vs → RpL F es ws → RpL F (ds ++ es) (vs ++ ws)
  | _, _, _, _, .nil, h => h
  | _, _, _, _, .cons r t, h => .cons r (RpL.append t h)
theorem RpL.get : ∀ {ds : List D} {vs : List V} {i : Nat} {d : D}, RpL F ds vs → ds[i]? = some d → ∃ v, vs[i]? = some v ∧ Rp F d v
  | _, _, _, _, .nil, e => by simp at e
  | _, _, 0, _, .cons r _, e => by simp at e; subst e; exact ⟨_, rfl, r⟩
  | _, _, i + 1, _, .cons _ t, e => by
    obtain ⟨v, h1, h2⟩ := RpL.get (i := i) t (by simpa using e)
    exact ⟨v, by simpa using h1, h2⟩
theorem RpL.take : ∀ {ds : List D} {vs : List V} (n : Nat), RpL F ds vs → RpL F (ds.take n) (vs.take n)
  | _, _, 0, _ => by simp; exact .nil
  | _, _, _ + 1, .nil => .nil
  | _, _, n + 1, .cons r t => .cons r (RpL.take n t)
theorem RpL.drop : ∀ {ds : List D} {vs : List V} (n : Nat), RpL F ds vs → RpL F (ds.drop n) (vs.drop n)
  | _, _, 0, r => r
  | _, _, _ + 1, .nil => .nil
  | _, _, n + 1, .cons _ t => RpL.drop n t
theorem RpL.reverse {ds : List D} {vs : List V} (h : RpL F ds vs) : RpL F ds.reverse vs.reverse := by
  have key : ∀ (ds : List D) (vs : List V), RpL F ds vs → RpL F ds.reverse vs.reverse := by
    intro ds
    induction ds with
    | nil => intro vs h; cases h; exact .nil
    | cons d ds ih =>
      intro vs h
      cases h with
      | cons r t => rw [List.reverse_cons, List.reverse_cons]; exact (ih _ t).append (.cons r .nil)
  exact key ds vs h
theorem RpL.set {d : D} {v : V} (r : Rp F d v) : ∀ {ds : List D} {vs : List V} (i : Nat), RpL F ds vs → RpL F (ds.set i d) (vs.set i v)
  | _, _, _, .nil => .nil
  | _, _, 0, .cons _ t => .cons r t
  | _, _, i + 1, .cons q t => .cons q (RpL.set r i t)
theorem RpL.eraseIdx : ∀ {ds : List D} {vs : List V} (i : Nat), RpL F ds vs → RpL F (ds.eraseIdx i) (vs.eraseIdx i)
  | _, _, _, .nil => .nil
  | _, _, 0, .cons _ t => t
  | _, _, i + 1, .cons r t => .cons r (RpL.eraseIdx i t)
theorem RpL.rep {ds : List D} {vs : List V} (h : RpL F ds vs) : ∀ k : Nat, RpL F (List.replicate k ds).flatten (List.replicate k vs).flatten
  | 0 => .nil
  | k + 1 => by
    rw [List.replicate_succ, List.replicate_succ, List.flatten_cons, List.flatten_cons]
    exact h.append (RpL.rep h k)
theorem RpL.dropLast {ds : List D} {vs : List V} (h : RpL F ds vs) : RpL F ds.dropLast vs.dropLast := by
  rw [List.dropLast_eq_take, List.dropLast_eq_take, h.length]; exact h.take _
theorem RpK.length : ∀ {ds : List (D × D)} {vs : List (Key × V)}, RpK F ds vs → ds.length = vs.length
  | _, _, .nil => rfl
  | _, _, .cons _ t => congrArg (· + 1) (RpK.length t)
theorem RpT.length : ∀ {ds : List (D × D)} {vs : List (List Key × V)}, RpT F ds vs → ds.length = vs.length
  | _, _, .nil => rfl
  | _, _, .cons _ t => congrArg (· + 1) (RpT.length t)
theorem Rp.none_inv {v : V} (h : Rp F .none v) : v = .non := by cases h; rfl
theorem Rp.bool_inv {b : Bool} {v : V} (h : Rp F (.bool b) v) : v = .bl b := by cases h; rfl
theorem Rp.int_inv {i : Int} {v : V} (h : Rp F (.int i) v) : v = .int i := by cases h; rfl
theorem Rp.str_inv {x : PySem.Str} {v : V} (h : Rp F (.str x) v) : v = .str x := by cases h; rfl
theorem Rp.tup_inv {ds : List D} {v : V} (h : Rp F (.tuple ds) v) : ∃ a xs, v = .ref a ∧ F a = some (.tup xs) ∧ RpL F ds xs := by cases h with | tup e r => exact ⟨_, _, rfl, e, r⟩
theorem Rp.lst_inv {ds : List D} {v : V} (h : Rp F (.list ds) v) : ∃ a xs, v = .ref a ∧ F a = some (.lst xs) ∧ RpL F ds xs := by cases h with | lst e r => exact ⟨_, _, rfl, e, r⟩
theorem RpL.ints : ∀ {ns : List Int} {vs : List V}, RpL F (ns.map PyData.int) vs → vs = ns.map V.int
  | [], _, h => by cases h; rfl
  | n :: ns, _, h => by
    cases h with
    | cons r t => rw [r.int_inv, RpL.ints t]; rfl
theorem RpL.strs : ∀ {ns : List PySem.Str} {vs : List V}, RpL F (ns.map PyData.str) vs → vs = ns.map V.str
  | [], _, h => by cases h; rfl
  | n :: ns, _, h => by
    cases h with
    | cons r t => rw [r.str_inv, RpL.strs t]; rfl
theorem RpL.bools : ∀ {ns : List Bool} {vs : List V}, RpL F (ns.map PyData.bool) vs → vs = ns.map V.bl
  | [], _, h => by cases h; rfl
  | n :: ns, _, h => by
    cases h with
    | cons r t => rw [r.bool_inv, RpL.bools t]; rfl
theorem RpL.of_ints : ∀ (ns : List Int), RpL F (ns.map PyData.int) (ns.map V.int)
  | [] => .nil
  | n :: ns => .cons (.int n) (RpL.of_ints ns)
theorem RpL.of_strs : ∀ (ns : List PySem.Str), RpL F (ns.map PyData.str) (ns.map V.str)
  | [] => .nil
  | n :: ns => .cons (.str n) (RpL.of_strs ns)
end

/-! ### what a variable owns -/
/-- at p, written by one variable alone: a list or a dict whose parts are frozen -/
inductive OwnAt (F H : Hp) (p : Addr) : D → Prop
  | lst {xs : List V} {ds : List D} : H p = some (.lst xs) → RpL F ds xs → OwnAt F H p (.list ds)
  | dicK {kvs : List (Key × V)} {ps : List (D × D)} : H p = some (.dK kvs) → RpK F ps kvs → OwnAt F H p (.dict ps)
  | dicT {kvs : List (List Key × V)} {ps : List (D × D)} : H p = some (.dT kvs) → RpT F ps kvs → OwnAt F H p (.dict ps)
theorem OwnAt.some {F H : Hp} {p : Addr} {d : D} (h : OwnAt F H p d) : ∃ o, H p = some o := by
  cases h with
  | lst e _ => exact ⟨_, e⟩
  | dicK e _ => exact ⟨_, e⟩
  | dicT e _ => exact ⟨_, e⟩
theorem OwnAt.mono {F F' H H' : Hp} {p : Addr} {d : D} (h : OwnAt F H p d) (l : LeF F F') (k : ∀ o, H p = .some o → H' p = .some o) : OwnAt F' H' p d := by
  cases h with
  | lst e r => exact .lst (k _ e) (r.mono l)
  | dicK e r => exact .dicK (k _ e) (r.mono l)
  | dicT e r => exact .dicT (k _ e) (r.mono l)

/-! ### the random numbers' object -/
structure Rl where
  far : List Int
  flow : Int
  turn : Int
abbrev G := Option Rl
abbrev RA := Option (Addr × Addr)
def inR (R : RA) (a : Addr) : Prop := ∃ p, R = some p ∧ (a = p.1 ∨ a = p.2)
/-- its three names -/
abbrev RN := PySem.Str × PySem.Str × PySem.Str
def RillAt (nm : RN) (R : RA) (g : G) (H : Hp) : Prop :=
  match R, g with
  | none, none => True
  | some (a, b), some r => H a = some (.dK [(.inr nm.1, .ref b), (.inr nm.2.1, .int r.flow), (.inr nm.2.2, .int r.turn)]) ∧ H b = some (.lst (r.far.map V.int))
  | _, _ => False
theorem RillAt.some {nm : RN} {R : RA} {g : G} {H : Hp} (h : RillAt nm R g H) {a : Addr} (i : inR R a) : ∃ o, H a = some o := by
  obtain ⟨⟨p, q⟩, rfl, e⟩ := i
  cases g with
  | none => exact h.elim
  | some r =>
    rcases e with e | e
    · rw [e]; exact ⟨_, h.1⟩
    · rw [e]; exact ⟨_, h.2⟩

/-! ### steps -/
/-- from (F, H, R) to (F', H', R'): nothing but the random numbers' objects is changed, new objects may be frozen -/
structure Ext (F H : Hp) (R : RA) (F' H' : Hp) (R' : RA) : Prop where
  fz : LeF F F'
  keep : ∀ a o, H a = some o → ¬ inR R' a → H' a = some o
  new : ∀ a o, F' a = some o → F a = some o ∨ H a = none
  sub : SubF F' H'
  rr : R = none ∨ R' = R
  rn : ∀ a, inR R' a → inR R a ∨ H a = none
  rf : ∀ a, inR R' a → F' a = none
theorem Ext.inR {F H F' H' : Hp} {R R' : RA} (e : Ext F H R F' H' R') {a : Addr} (h : inR R a) : inR R' a := by
  rcases e.rr with r | r
  · subst r; obtain ⟨p, q, _⟩ := h; cases q
  · rw [r]; exact h
theorem Ext.refl {F H : Hp} {R : RA} (s : SubF F H) (rf : ∀ a, PV.inR R a → F a = none) : Ext F H R F H R :=
  ⟨LeF.refl F, fun _ _ h _ => h, fun _ _ h => .inl h, s, .inr rfl, fun _ h => .inl h, rf⟩
theorem Ext.free {F H F' H' : Hp} {R R' : RA} (e : Ext F H R F' H' R') (rs : ∀ a, PV.inR R a → ∃ o, H a = some o) (rs' : ∀ a, PV.inR R' a → ∃ o, H' a = some o) {a : Addr} (n : H' a = none) : H a = none := by
  cases q : H a with
  | none => rfl
  | some o =>
    by_cases hi : PV.inR R' a
    · obtain ⟨o', h⟩ := rs' a hi
      rw [n] at h; cases h
    · rw [e.keep a o q hi] at n; cases n
theorem Ext.trans {F H F1 H1 F2 H2 : Hp} {R R1 R2 : RA} (e : Ext F H R F1 H1 R1) (f : Ext F1 H1 R1 F2 H2 R2) (rs1 : ∀ a, PV.inR R1 a → ∃ o, H1 a = some o) (rs : ∀ a, PV.inR R a → ∃ o, H a = some o) : Ext F H R F2 H2 R2 where
  fz := e.fz.trans f.fz
  keep := fun a o h n => f.keep a o (e.keep a o h fun i => n (f.inR i)) n
  new := fun a o h => by
    rcases f.new a o h with h1 | h1
    · exact e.new a o h1
    · exact .inr (e.free rs rs1 h1)
  sub := f.sub
  rr := by
    rcases e.rr with r | r
    · exact .inl r
    · rcases f.rr with q | q
      · left; rw [← r]; exact q
      · right; rw [q, r]
  rn := fun a h => by
    rcases f.rn a h with h1 | h1
    · exact e.rn a h1
    · exact .inr (e.free rs rs1 h1)
  rf := f.rf

/-- a plain step of one operation -/
structure Ext0 (F H F' H' : Hp) : Prop where
  fz : LeF F F'
  keep : ∀ a o, H a = some o → H' a = some o
  new : ∀ a o, F' a = some o → F a = some o ∨ H a = none
  sub : SubF F' H'
theorem Ext0.refl {F H : Hp} (s : SubF F H) : Ext0 F H F H := ⟨LeF.refl F, fun _ _ h => h, fun _ _ h => .inl h, s⟩
theorem Ext0.ext {F H F' H' : Hp} {R : RA} (e : Ext0 F H F' H') (rs : ∀ a, inR R a → ∃ o, H a = some o) (rf : ∀ a, inR R a → F a = none) : Ext F H R F' H' R where
  fz := e.fz
  keep := fun a o h _ => e.keep a o h
  new := e.new
  sub := e.sub
  rr := .inr rfl
  rn := fun _ h => .inl h
  rf := fun a h => by
    cases q : F' a with
    | none => rfl
    | some o =>
      rcases e.new a o q with z | z
      · rw [rf a h] at z; cases z
      · obtain ⟨o', z'⟩ := rs a h
        rw [z] at z'; cases z'
/-- a new object, frozen at once -/
theorem Ext0.add {F H : Hp} {p : Addr} {o : HO} (s : SubF F H) (n : H p = none) : Ext0 F H (upd F p o) (upd H p o) where
  fz := fun a x h => by
    have : a ≠ p := by
      rintro rfl
      rcases s a x h with z | ⟨_, _, z⟩ <;> (rw [n] at z; cases z)
    rw [upd_ne this]; exact h
  keep := fun a x h => by rw [upd_ne (ne_of_none h n)]; exact h
  new := fun a x h => by
    by_cases e : a = p
    · subst e; exact .inr n
    · rw [upd_ne e] at h; exact .inl h
  sub := fun a x h => by
    by_cases e : a = p
    · subst e; rw [upd_same] at h ⊢; exact .inl h
    · rw [upd_ne e] at h ⊢; exact s a x h
/-- a new object, not frozen -/
theorem Ext0.grow {F H : Hp} {p : Addr} {o : HO} (s : SubF F H) (n : H p = none) : Ext0 F H F (upd H p o) where
  fz := LeF.refl F
  keep := fun a x h => by rw [upd_ne (ne_of_none h n)]; exact h
  new := fun _ _ h => .inl h
  sub := fun a x h => by
    have : a ≠ p := by
      rintro rfl
      rcases s a x h with z | ⟨_, _, z⟩ <;> (rw [n] at z; cases z)
    rw [upd_ne this]; exact s a x h
theorem Ext0.trans {F H F1 H1 F2 H2 : Hp} (e : Ext0 F H F1 H1) (f : Ext0 F1 H1 F2 H2) : Ext0 F H F2 H2 where
  fz := e.fz.trans f.fz
  keep := fun a o h => f.keep a o (e.keep a o h)
  new := fun a o h => by
    rcases f.new a o h with h1 | h1
    · exact e.new a o h1
    · right
      cases q : H a with
      | none => rfl
      | some x => rw [e.keep a x q] at h1; cases h1
  sub := f.sub

/-- a value that may be read: frozen, or owned by a variable -/
def RpB (F H : Hp) (R : RA) (d : D) (v : V) : Prop := Rp F d v ∨ ∃ p, v = .ref p ∧ OwnAt F H p d ∧ ¬ inR R p
theorem RpB.list {F H : Hp} {R : RA} (s : SubF F H) {ds : List D} {v : V} (h : RpB F H R (.list ds) v) : ∃ a xs, v = .ref a ∧ H a = some (.lst xs) ∧ RpL F ds xs := by
  rcases h with h | ⟨p, rfl, h, _⟩
  · obtain ⟨a, xs, rfl, e, r⟩ := h.lst_inv
    exact ⟨a, xs, rfl, s.lst e, r⟩
  · cases h with
    | lst e r => exact ⟨p, _, rfl, e, r⟩
theorem RpB.tup {F H : Hp} {R : RA} (s : SubF F H) {ds : List D} {v : V} (h : RpB F H R (.tuple ds) v) : ∃ a xs, v = .ref a ∧ F a = some (.tup xs) ∧ H a = some (.tup xs) ∧ RpL F ds xs := by
  rcases h with h | ⟨p, rfl, h, _⟩
  · obtain ⟨a, xs, rfl, e, r⟩ := h.tup_inv
    exact ⟨a, xs, rfl, e, s.tup e, r⟩
  · cases h
theorem RpB.dict {F H : Hp} {R : RA} (s : SubF F H) {ps : List (D × D)} {v : V} (h : RpB F H R (.dict ps) v) :
    ∃ a, v = .ref a ∧ ((∃ kvs, Rd H a (.dK kvs) ∧ RpK F ps kvs) ∨ ∃ kvs, Rd H a (.dT kvs) ∧ RpT F ps kvs) := by
  rcases h with h | ⟨p, rfl, h, _⟩
  · cases h with
    | dicK e r => exact ⟨_, rfl, .inl ⟨_, s.rd e, r⟩⟩
    | dicT e r => exact ⟨_, rfl, .inr ⟨_, s.rd e, r⟩⟩
  · cases h with
    | dicK e r => exact ⟨_, rfl, .inl ⟨_, .inl e, r⟩⟩
    | dicT e r => exact ⟨_, rfl, .inr ⟨_, .inl e, r⟩⟩
theorem RpB.int {F H : Hp} {R : RA} {i : Int} {v : V} (h : RpB F H R (.int i) v) : v = .int i := by
  rcases h with h | ⟨p, rfl, h, _⟩
  · exact h.int_inv
  · cases h
theorem RpB.str {F H : Hp} {R : RA} {i : PySem.Str} {v : V} (h : RpB F H R (.str i) v) : v = .str i := by
  rcases h with h | ⟨p, rfl, h, _⟩
  · exact h.str_inv
  · cases h
theorem RpB.bool {F H : Hp} {R : RA} {i : Bool} {v : V} (h : RpB F H R (.bool i) v) : v = .bl i := by
  rcases h with h | ⟨p, rfl, h, _⟩
  · exact h.bool_inv
  · cases h
theorem RpB.none {F H : Hp} {R : RA} {v : V} (h : RpB F H R .none v) : v = .non := by
  rcases h with h | ⟨p, rfl, h, _⟩
  · exact h.none_inv
  · cases h
theorem RpB.ext {F H F' H' : Hp} {R R' : RA} {d : D} {v : V} (h : RpB F H R d v) (e : Ext F H R F' H' R') : RpB F' H' R' d v := by
  rcases h with h | ⟨p, rfl, h, n⟩
  · exact .inl (h.mono e.fz)
  · have n' : ¬ inR R' p := fun i => by
      rcases e.rn p i with z | z
      · exact n z
      · obtain ⟨o, q⟩ := h.some
        rw [z] at q; cases q
    exact .inr ⟨p, rfl, h.mono e.fz fun o q => e.keep p o q n', n'⟩
end PV
/-! PV: the small language and its evaluator over plain values -/
namespace PV
open PySem L2

/-! ### operations on values -/
def addD : D → D → Option D
  | .int i, .int j => some (.int (i + j))
  | .str x, .str y => if x.length + y.length ≤ sizeLine then some (.str (x ++ y)) else none
  | .tuple a, .tuple b => if a.length + b.length ≤ sizeLine then some (.tuple (a ++ b)) else none
  | .list a, .list b => if a.length + b.length ≤ sizeLine then some (.list (a ++ b)) else none
  | _, _ => none
def subD : D → D → Option D
  | .int i, .int j => some (.int (i - j))
  | _, _ => none
def repS (x : PySem.Str) (k : Int) : PySem.Str := ⟨(List.replicate k.toNat x.cps.toList).flatten.toArray⟩
def mulD : D → D → Option D
  | .int i, .int j => if i.natAbs.log2 + j.natAbs.log2 < 1000000 then some (.int (i * j)) else none
  | .str x, .int k => if x.length * k.toNat ≤ 1000000 ∧ -1000000 ≤ k ∧ k ≤ 1000000 then some (.str (repS x k)) else none
  | .tuple a, .int k => if a ≠ [] ∧ 2 ≤ k ∧ k ≤ 1000 ∧ a.length ≤ 1000 then some (.tuple (List.replicate k.toNat a).flatten) else none
  | .list a, .int k => if a.length * k.toNat ≤ 1000000 ∧ -1000000 ≤ k ∧ k ≤ 1000000 then some (.list (List.replicate k.toNat a).flatten) else none
  | _, _ => none
def fdivD : D → D → Option D
  | .int i, .int j => if 0 < j ∧ j.natAbs.log2 < 9000 then some (.int (i / j)) else none
  | _, _ => none
def modD : D → D → Option D
  | .int i, .int j => if 0 < j then some (.int (i % j)) else none
  | _, _ => none
def powD : D → D → Option D
  | .int i, .int j => if 0 ≤ j ∧ j ≤ 1000000 ∧ i.natAbs < 2 ^ 64 then some (.int (i ^ j.toNat)) else none
  | _, _ => none
def binD : Operator → D → D → Option D
  | .Add => addD
  | .Sub => subD
  | .Mult => mulD
  | .FloorDiv => fdivD
  | .Mod => modD
  | .Pow => powD
  | _ => fun _ _ => none

/-- equal keys of a dict -/
def keyEq : D → D → Bool
  | .int i, .int j => i == j
  | .str x, .str y => x == y
  | .tuple a, .tuple b => PyData.eqvAll a b
  | _, _ => false
def isKey : D → Bool
  | .int _ => true
  | .str _ => true
  | _ => false
def isKeyT : D → Bool
  | .tuple a => a.all isKey
  | _ => false
def findD (ps : List (D × D)) (k : D) : Option D := (ps.find? fun p => keyEq p.1 k).map (·.2)
def hasD (ps : List (D × D)) (k : D) : Bool := (findD ps k).isSome
def putD (ps : List (D × D)) (k v : D) : List (D × D) :=
  if hasD ps k = true then ps.map fun p => if keyEq p.1 k = true then (p.1, v) else p else ps ++ [(k, v)]
/-- all keys of one kind, as k -/
def keysLike (ps : List (D × D)) (k : D) : Bool := (isKey k && ps.all fun p => isKey p.1) || (isKeyT k && ps.all fun p => isKeyT p.1)

def isPart (b : Wd) : Wd → Bool
  | [] => b.isEmpty
  | c :: r => b.isPrefixOf (c :: r) || isPart b r
def inD : D → D → Option Bool
  | .str x, .str y => some (isPart x.cps.toList y.cps.toList)
  | d, .list l => if SeqAt.shaped d = true ∧ SeqAt.shaped (.list l) = true then some (l.any fun z => PyData.eqv z d) else none
  | d, .tuple l => if SeqAt.shaped d = true ∧ SeqAt.shaped (.tuple l) = true then some (l.any fun z => PyData.eqv z d) else none
  | _, _ => none
def ltL (a b : Wd) : Bool := decide (a < b)
def ltD : D → D → Option Bool
  | .int i, .int j => some (decide (i < j))
  | .str x, .str y => some (ltL x.cps.toList y.cps.toList)
  | _, _ => none
def eqD (x y : D) : Option Bool :=
  match x, y with
  | .int i, .int j => some (decide (i = j))
  | .str a, .str b => some (decide (a = b))
  | x, y => if SeqAt.shaped x = true ∧ SeqAt.shaped y = true then some (PyData.eqv x y) else none
def cmpD : CmpOp → D → D → Option Bool
  | .Eq, x, y => eqD x y
  | .NotEq, x, y => (eqD x y).map (!·)
  | .Lt, x, y => ltD x y
  | .Gt, x, y => ltD y x
  | .LtE, x, y => (ltD y x).map (!·)
  | .GtE, x, y => (ltD x y).map (!·)
  | .In, x, y => inD x y
  | .NotIn, x, y => (inD x y).map (!·)
  | _, _, _ => none

/-- the place that an index means -/
def ixD : D → D → Option D
  | .str x, .int i => if x.length ≤ sizeLine then (atI x.cps.toList i).map fun c => .str ⟨#[c]⟩ else none
  | .list l, .int i => atI l i
  | .tuple l, .int i => atI l i
  | _, _ => none
def cutL {α : Type} (l : List α) (lo hi : Option Int) : List α := (l.drop (HT.sIx l.length 0 lo)).take (HT.sIx l.length l.length hi - HT.sIx l.length 0 lo)
def slD (d : D) (lo hi : Option Int) : Option D :=
  match d with
  | .str x => if x.length ≤ sizeLine then some (.str ⟨(cutL x.cps.toList lo hi).toArray⟩) else none
  | .list l => some (.list (cutL l lo hi))
  | .tuple l => some (.tuple (cutL l lo hi))
  | _ => none
def revD : D → Option D
  | .str x => if x.length ≤ sizeLine then some (.str ⟨x.cps.toList.reverse.toArray⟩) else none
  | .list l => some (.list l.reverse)
  | _ => none
def negD : D → Option D
  | .int i => some (.int (-i))
  | _ => none

def asInt : D → Option Int
  | .int i => some i
  | _ => none
def asStr : D → Option PySem.Str
  | .str i => some i
  | _ => none
def asBool : D → Option Bool
  | .bool i => some i
  | _ => none
def asPair : D → Option (D × D)
  | .tuple [a, b] => some (a, b)
  | _ => none
def allOf {α : Type} (f : D → Option α) : List D → Option (List α)
  | [] => some []
  | d :: r => (f d).bind fun x => (allOf f r).map (x :: ·)

/-- sorted: by the order lt, stable -/
def insD (lt : D → D → Bool) (d : D) : List D → List D
  | [] => [d]
  | e :: r => if lt d e = true then d :: e :: r else e :: insD lt d r
def sortD (lt : D → D → Bool) (l : List D) : List D := l.foldl (fun acc d => insD lt d acc) []
def ik : D → Int
  | .int i => i
  | _ => 0
def sk : D → Wd
  | .str x => x.cps.toList
  | _ => []
def cmpInt (x y : D) : Bool := decide (ik x < ik y)
def cmpStr (x y : D) : Bool := ltL (sk x) (sk y)
def isInt : D → Bool | .int _ => true | _ => false
def isStr : D → Bool | .str _ => true | _ => false
def sortedD (l : List D) : Option D :=
  if l.length ≤ sizeLine then
    (if l.all isStr = true then some (.list (sortD cmpStr l)) else if l.all isInt = true then some (.list (sortD cmpInt l)) else none)
  else none
def lettersD (x : PySem.Str) : List D := x.cps.toList.map fun c => .str ⟨#[c]⟩
def keysD (ps : List (D × D)) : List D := ps.map (·.1)
def joinD (s : PySem.Str) (l : List D) : Option D :=
  (allOf asStr l).bind fun ys => if (ys.map (·.length)).sum + ys.length * s.length ≤ 16777216 then some (.str (Str.join s ys)) else none
def maxI : List Int → Option Int
  | [] => none
  | i :: r => some (r.foldl (fun a b => if b > a then b else a) i)
def minI : List Int → Option Int
  | [] => none
  | i :: r => some (r.foldl (fun a b => if b < a then b else a) i)

/-- the built-in functions that are called by their names -/
def lenB : List D → Option D
  | [.str x] => if x.length ≤ sizeLine then some (.int x.length) else none
  | [.list l] => some (.int l.length)
  | [.tuple l] => some (.int l.length)
  | [.dict l] => some (.int l.length)
  | _ => none
def tupleB : List D → Option D
  | [.list l] => some (.tuple l)
  | [.tuple l] => some (.tuple l)
  | _ => none
def listB : List D → Option D
  | [.list l] => some (.list l)
  | [.tuple l] => some (.list l)
  | _ => none
def sumB : List D → Option D
  | [.list l] => (allOf asInt l).map fun ns => .int ns.sum
  | [.tuple l] => (allOf asInt l).map fun ns => .int ns.sum
  | _ => none
def sortedB : List D → Option D
  | [.list l] => sortedD l
  | _ => none
def intB : List D → Option D
  | [.int i] => some (.int i)
  | [.bool b] => some (.int (if b then 1 else 0))
  | _ => none
def absB : List D → Option D
  | [.int i] => some (.int (if i < 0 then -i else i))
  | _ => none
def maxB : List D → Option D
  | [.int i, .int j] => some (.int (if j > i then j else i))
  | _ => none
def minB : List D → Option D
  | [.int i, .int j] => some (.int (if j < i then j else i))
  | _ => none
def anyB : List D → Option D
  | [.list l] => (allOf asBool l).map fun bs => .bool (bs.any id)
  | _ => none
def allB : List D → Option D
  | [.list l] => (allOf asBool l).map fun bs => .bool (bs.all id)
  | _ => none
def reprB : List D → Option D
  | [d] => if d.showable = true ∧ SeqAt.shaped d = true ∧ d.shown.length ≤ sizeLine then some (.str d.shown) else none
  | _ => none
def dictB : List D → Option D
  | [.list l] => (allOf asPair l).bind fun ps => if (ps.all fun p => isKey p.1) = true then some (.dict (ps.foldl (fun acc p => putD acc p.1 p.2) [])) else none
  | _ => none
def biD (f : String) : List D → Option D :=
  match f with
  | "len" => lenB
  | "tuple" => tupleB
  | "list" => listB
  | "sum" => sumB
  | "sorted" => sortedB
  | "int" => intB
  | "abs" => absB
  | "max" => maxB
  | "min" => minB
  | "any" => anyB
  | "all" => allB
  | "repr" => reprB
  | "dict" => dictB
  | _ => fun _ => none
/-- methods that change nothing -/
def joinM : D → List D → Option D
  | .str s, [.list l] => joinD s l
  | .str s, [.tuple l] => joinD s l
  | _, _ => none
def mtD (m : String) : D → List D → Option D :=
  match m with
  | "join" => joinM
  | _ => fun _ _ => none
/-- isinstance -/
def isiD (t : String) (d : D) : Option Bool :=
  match t, d with
  | "int", .int _ => some true
  | "int", .bool _ => some true
  | "int", _ => some false
  | "str", .str _ => some true
  | "str", _ => some false
  | "bool", .bool _ => some true
  | "bool", _ => some false
  | "tuple", .tuple _ => some true
  | "tuple", _ => some false
  | _, _ => none

/-! ### the language -/
inductive Tg | v (i : Nat) | t2 (a b : Tg) | t3 (a b c : Tg)
mutual
inductive E
  | no | loc (i : Nat) | bor (i : Nat) | con (d : D) | glo (x : PySem.Str) (d : D)
  | bin (o : Operator) (a b : E) | neg (a : E)
  | cmp (o : CmpOp) (a b : E) | isN (a : E) | notN (a : E) | chn (o p : CmpOp) (a b c : E)
  | and (a b : E) | or (a b : E) | not (a : E) | ite (c a b : E)
  | ix (a i : E) | sl (a lo hi : E) | rev (a : E)
  | tup (l : Es) | lst (l : Es)
  | call (f : Nat) (l : Es) (p : List Nat)
  | bi (f : String) (l : Es) | mt (m : String) (o : E) (l : Es) | isi (t : String) (a : E)
  | cmpr (e : E) (t : Tg) (it : It) (c : E)
inductive Es
  | nil | cons (e : E) (l : Es)
inductive It
  | val (e : E) | rng (l : Es) | enu (e : E) | zip (a b : E)
end

/-- what a name of a def holds -/
inductive Sl
  | un | v (d : D) | own (d : D) | rill | scr (ns : List Int)
/-- what is handed to a def -/
inductive Arg
  | d (d : D) | rill | scr (ns : List Int)
abbrev Cal := Nat → List Arg → G → Option (D × G)
def noneD : D → Bool
  | .none => true
  | _ => false
def bindT : Tg → D → List Sl → Option (List Sl)
  | .v i, d, ρ => some (ρ.set i (.v d))
  | .t2 a b, .tuple [x, y], ρ => (bindT a x ρ).bind fun ρ => bindT b y ρ
  | .t3 a b c, .tuple [x, y, z], ρ => (bindT a x ρ).bind fun ρ => (bindT b y ρ).bind fun ρ => bindT c z ρ
  | _, _, _ => none
def tgIx : Tg → List Nat
  | .v i => [i]
  | .t2 a b => tgIx a ++ tgIx b
  | .t3 a b c => tgIx a ++ tgIx b ++ tgIx c
def wipeR (ρ : List Sl) : List Nat → List Sl
  | [] => ρ
  | v :: vs => (wipeR ρ vs).set v .un
/-- a comprehension's turns -/
def compL (f : D → G → Option (Option D × G)) : List D → G → Option (List D × G)
  | [], g => some ([], g)
  | x :: xs, g => (f x g).bind fun (o, g) => (compL f xs g).bind fun (r, g) => some (o.toList ++ r, g)
def itemsOf : D → Option (List D)
  | .list l => some l
  | .tuple l => some l
  | .str x => some (lettersD x)
  | _ => none
def itemsL : D → Option (List D)
  | .list l => some l
  | _ => none
def enumL (n : Nat) : List D → List D
  | [] => []
  | x :: r => .tuple [.int n, x] :: enumL (n + 1) r
def zipL : List D → List D → List D
  | x :: r, y :: s => .tuple [x, y] :: zipL r s
  | _, _ => []
def rngL (lo hi : Int) : List D := (List.range (hi - lo).toNat).map fun (k : Nat) => .int (lo + (k : Int))
def okR (i : Int) : Bool := decide (-(2 ^ 62) ≤ i ∧ i < 2 ^ 62)
def rngD : List D → Option (List D)
  | [.int n] => if okR n = true then some (rngL 0 n) else none
  | [.int a, .int b] => if okR a = true ∧ okR b = true then some (rngL a b) else none
  | [.int a, .int b, .int c] => if okR a = true ∧ okR b = true ∧ c = -1 then some ((List.range (a - b).toNat).map fun (k : Nat) => .int (a + (k : Int) * -1)) else none
  | _ => none
/-- the arguments in the parameters' order: p tells each one's parameter -/
def permA {α : Type} (p : List Nat) (l : List α) : List α := (List.range l.length).filterMap fun j => (p.findIdx? (· == j)).bind fun i => l[i]?
def optI : D → Option (Option Int)
  | .int i => some (some i)
  | _ => none
mutual
def ev (c : Cal) : E → List Sl → G → Option (D × G)
  | .no, _, _ => none
  | .loc i, ρ, g => match ρ[i]? with
    | some (.v d) => some (d, g)
    | _ => none
  | .bor i, ρ, g => match ρ[i]? with
    | some (.v d) => some (d, g)
    | some (.own d) => some (d, g)
    | _ => none
  | .con d, _, g => some (d, g)
  | .glo _ d, _, g => some (d, g)
  | .bin o a b, ρ, g => (ev c a ρ g).bind fun (x, g) => (ev c b ρ g).bind fun (y, g) => (binD o x y).map fun z => (z, g)
  | .neg a, ρ, g => (ev c a ρ g).bind fun (x, g) => (negD x).map fun z => (z, g)
  | .cmp o a b, ρ, g => (ev c a ρ g).bind fun (x, g) => (ev c b ρ g).bind fun (y, g) => (cmpD o x y).map fun z => (.bool z, g)
  | .isN a, ρ, g => (ev c a ρ g).map fun (x, g) => (.bool (noneD x), g)
  | .notN a, ρ, g => (ev c a ρ g).map fun (x, g) => (.bool (!noneD x), g)
  | .chn o p a b e, ρ, g => (ev c a ρ g).bind fun (x, g) => (ev c b ρ g).bind fun (y, g) => (cmpD o x y).bind fun k =>
    if k = true then (ev c e ρ g).bind fun (z, g) => (cmpD p y z).map fun z => (.bool z, g) else some (.bool false, g)
  | .and a b, ρ, g => (ev c a ρ g).bind fun (x, g) => match x with
    | .bool true => ev c b ρ g
    | .bool false => some (.bool false, g)
    | _ => none
  | .or a b, ρ, g => (ev c a ρ g).bind fun (x, g) => match x with
    | .bool false => ev c b ρ g
    | .bool true => some (.bool true, g)
    | _ => none
  | .not a, ρ, g => (ev c a ρ g).bind fun (x, g) => match x with
    | .bool k => some (.bool (!k), g)
    | _ => none
  | .ite t a b, ρ, g => (ev c t ρ g).bind fun (x, g) => match x with
    | .bool true => ev c a ρ g
    | .bool false => ev c b ρ g
    | _ => none
  | .ix a i, ρ, g => (ev c a ρ g).bind fun (x, g) => (ev c i ρ g).bind fun (y, g) => (ixD x y).map fun z => (z, g)
  | .sl a lo hi, ρ, g => (ev c a ρ g).bind fun (x, g) =>
    (match lo with | .no => some (none, g) | _ => (ev c lo ρ g).bind fun (y, g) => (optI y).map fun o => (o, g)).bind fun (l, g) =>
    (match hi with | .no => some (none, g) | _ => (ev c hi ρ g).bind fun (y, g) => (optI y).map fun o => (o, g)).bind fun (h, g) =>
      (slD x l h).map fun z => (z, g)
  | .rev a, ρ, g => (ev c a ρ g).bind fun (x, g) => (revD x).map fun z => (z, g)
  | .tup l, ρ, g => (evs c l ρ g).bind fun (xs, g) => if xs.length ≤ sizeLine then some (.tuple xs, g) else none
  | .lst l, ρ, g => (evs c l ρ g).bind fun (xs, g) => if xs.length ≤ sizeLine then some (.list xs, g) else none
  | .call f l p, ρ, g => (evAs c l ρ g).bind fun (xs, g) => c f (permA p xs) g
  | .bi f l, ρ, g => (evs c l ρ g).bind fun (xs, g) => (biD f xs).map fun z => (z, g)
  | .mt m o l, ρ, g => (ev c o ρ g).bind fun (x, g) => (evs c l ρ g).bind fun (xs, g) => (mtD m x xs).map fun z => (z, g)
  | .isi t a, ρ, g => (ev c a ρ g).bind fun (x, g) => (isiD t x).map fun z => (.bool z, g)
  | .cmpr e t it k, ρ, g => (evIt c it ρ g).bind fun (l, g) =>
    (compL (fun x g => (bindT t x (wipeR ρ (tgIx t))).bind fun ρ' =>
      match k with
      | .no => (ev c e ρ' g).map fun (d, g) => (some d, g)
      | _ => (ev c k ρ' g).bind fun (b, g) => match b with
        | .bool true => (ev c e ρ' g).map fun (d, g) => (some d, g)
        | .bool false => some (none, g)
        | _ => none) l g).bind fun (r, g) => if r.length ≤ sizeLine then some (.list r, g) else none
def evs (c : Cal) : Es → List Sl → G → Option (List D × G)
  | .nil, _, g => some ([], g)
  | .cons e l, ρ, g => (ev c e ρ g).bind fun (x, g) => (evs c l ρ g).map fun (xs, g) => (x :: xs, g)
def evAs (c : Cal) : Es → List Sl → G → Option (List Arg × G)
  | .nil, _, g => some ([], g)
  | .cons e l, ρ, g =>
    (match e with
     | .loc i => (match ρ[i]? with
       | some (.v d) => some (Arg.d d, g)
       | some .rill => some (Arg.rill, g)
       | some (.scr ns) => some (Arg.scr ns, g)
       | _ => none)
     | _ => (ev c e ρ g).map fun (x, g) => (Arg.d x, g)).bind fun (x, g) => (evAs c l ρ g).map fun (xs, g) => (x :: xs, g)
def evIt (c : Cal) : It → List Sl → G → Option (List D × G)
  | .val e, ρ, g => (ev c e ρ g).bind fun (x, g) => (itemsOf x).map fun l => (l, g)
  | .rng l, ρ, g => (evs c l ρ g).bind fun (xs, g) => (rngD xs).map fun l => (l, g)
  | .enu e, ρ, g => (ev c e ρ g).bind fun (x, g) => (itemsL x).map fun l => (enumL 0 l, g)
  | .zip a b, ρ, g => (ev c a ρ g).bind fun (x, g) => (ev c b ρ g).bind fun (y, g) => (itemsL x).bind fun l => (itemsL y).map fun m => (zipL l m, g)
end

/-! ### statements -/
mutual
inductive C
  | pas | brk | set (t : Tg) (e : E) | own (i : Nat) (e : E) | par (i : Nat) (oi : Bool) (j : Nat) (oj : Bool) (a b : E) | aug (i : Nat) (o : Operator) (e : E)
  | ife (c : E) (a b : Cs) | for (t : Tg) (it : It) (b : Cs) | whl (c : E) (b : Cs) | ret (e : E) | frz (i : Nat) (c : C) | exp (e : E)
  | app (i : Nat) (e : E) | ext (i : Nat) (e : E) | mkr (i j : Nat) (f : List Int → Rl)
inductive Cs
  | nil | cons (c : C) (l : Cs)
end
inductive Out
  | nx (ρ : List Sl) (g : G) | bk (ρ : List Sl) (g : G) | rt (d : D) (g : G)
def forL (f : D → List Sl → G → Option Out) : List D → List Sl → G → Option Out
  | [], ρ, g => some (.nx ρ g)
  | x :: xs, ρ, g => (f x ρ g).bind fun o => match o with
    | .nx ρ g => forL f xs ρ g
    | .bk ρ g => some (.nx ρ g)
    | .rt d g => some (.rt d g)
def whN (t : List Sl → G → Option (D × G)) (b : List Sl → G → Option Out) : Nat → List Sl → G → Option Out
  | 0, _, _ => none
  | n + 1, ρ, g => (t ρ g).bind fun (x, g) => match x with
    | .bool true => (b ρ g).bind fun o => match o with
      | .nx ρ g => whN t b n ρ g
      | .bk ρ g => some (.nx ρ g)
      | .rt d g => some (.rt d g)
    | .bool false => some (.nx ρ g)
    | _ => none
open Classical in
noncomputable def wh (t : List Sl → G → Option (D × G)) (b : List Sl → G → Option Out) (ρ : List Sl) (g : G) : Option Out :=
  if h : ∃ n o, whN t b n ρ g = some o then some (choose (choose_spec h)) else none
def mkrS (i : Nat) (f : List Int → Rl) (ρ : List Sl) (s : Option Sl) (g : G) : Option Out :=
  match s, g with
  | some (.scr ns), none => some (.nx (ρ.set i .rill) (some (f ns)))
  | _, _ => none
mutual
noncomputable def exec (c : Cal) : C → List Sl → G → Option Out
  | .pas, ρ, g => some (.nx ρ g)
  | .brk, ρ, g => some (.bk ρ g)
  | .set t e, ρ, g => (ev c e ρ g).bind fun (d, g) => (bindT t d ρ).map fun ρ => .nx ρ g
  | .own i e, ρ, g => (ev c e ρ g).map fun (d, g) => .nx (ρ.set i (.own d)) g
  | .par i oi j oj a b, ρ, g => (ev c a ρ g).bind fun (x, g) => (ev c b ρ g).map fun (y, g) => .nx ((ρ.set i (if oi then .own x else .v x)).set j (if oj then .own y else .v y)) g
  | .aug i o e, ρ, g => match ρ[i]? with
    | some (.v d) => (ev c e ρ g).bind fun (x, g) => (binD o d x).map fun z => .nx (ρ.set i (.v z)) g
    | _ => none
  | .ife t a b, ρ, g => (ev c t ρ g).bind fun (x, g) => match x with
    | .bool true => execs c a ρ g
    | .bool false => execs c b ρ g
    | _ => none
  | .for t it b, ρ, g => (evIt c it ρ g).bind fun (l, g) => forL (fun x ρ g => (bindT t x ρ).bind fun ρ => execs c b ρ g) l ρ g
  | .whl t b, ρ, g => wh (fun ρ g => ev c t ρ g) (fun ρ g => execs c b ρ g) ρ g
  | .ret e, ρ, g => (ev c e ρ g).map fun (d, g) => .rt d g
  | .frz i s, ρ, g => match ρ[i]? with
    | some (.own d) => exec c s (ρ.set i (.v d)) g
    | some (.v _) => exec c s ρ g
    | _ => none
  | .exp e, ρ, g => (ev c e ρ g).map fun (_, g) => .nx ρ g
  | .app i e, ρ, g => (ev c e ρ g).bind fun (d, g) => match ρ[i]? with
    | some (.own (.list l)) => if l.length < sizeLine then some (.nx (ρ.set i (.own (.list (l ++ [d])))) g) else none
    | _ => none
  | .ext i e, ρ, g => (ev c e ρ g).bind fun (d, g) => match ρ[i]?, d with
    | some (.own (.list l)), .list m => if l.length + m.length ≤ sizeLine then some (.nx (ρ.set i (.own (.list (l ++ m)))) g) else none
    | some (.own (.list l)), .tuple m => if l.length + m.length ≤ sizeLine then some (.nx (ρ.set i (.own (.list (l ++ m)))) g) else none
    | _, _ => none
  | .mkr i j f, ρ, g => mkrS i f ρ ρ[j]? g
noncomputable def execs (c : Cal) : Cs → List Sl → G → Option Out
  | .nil, ρ, g => some (.nx ρ g)
  | .cons s l, ρ, g => (exec c s ρ g).bind fun o => match o with
    | .nx ρ g => execs c l ρ g
    | o => some o
end
/-- a def of the program -/
structure Fd where
  name : PySem.Str
  np : Nat
  N : List PySem.Str
  body : Cs
def slOf : Arg → Sl
  | .d d => .v d
  | .rill => .rill
  | .scr ns => .scr ns
noncomputable def runB (c : Cal) (f : Fd) (as : List Arg) (g : G) : Option (D × G) :=
  if as.length = f.np then
    match execs c f.body (as.map slOf ++ List.replicate (f.N.length - f.np) .un) g with
    | some (.rt d g) => some (d, g)
    | some (.nx _ g) => some (.none, g)
    | _ => none
  else none
end PV
set_option maxHeartbeats 1000000
/-! PV: each operation on values is what the machine does -/
namespace PV
open PySem L2

/-- what the rules need of the place where the code runs -/
structure CxR (X : Cx) : Prop where
  calm : X.calm = true
  guards : X.A.guards = some []
  units : X.A.units + 190 < cLine

/-- the operation's answer at frozen F, heap H -/
def Ans (F H : Hp) (r : D) (Q : VK) : Prop := ∀ v F' H', Ext0 F H F' H' → Rp F' r v → Q v H'
theorem Ans.same {F H : Hp} {r : D} {Q : VK} (s : SubF F H) (a : Ans F H r Q) {v : V} (h : Rp F r v) : Q v H := a v F H (Ext0.refl s) h
theorem Ans.newT {F H : Hp} {ds : List D} {xs : List V} {Q : VK} (s : SubF F H) (a : Ans F H (.tuple ds) Q) (r : RpL F ds xs) {p : Addr} (n : H p = none) : Q (.ref p) (upd H p (.tup xs)) :=
  have e := Ext0.add (o := .tup xs) s n
  a (.ref p) _ _ e (.tup upd_same (r.mono e.fz))
theorem Ans.newL {F H : Hp} {ds : List D} {xs : List V} {Q : VK} (s : SubF F H) (a : Ans F H (.list ds) Q) (r : RpL F ds xs) {p : Addr} (n : H p = none) : Q (.ref p) (upd H p (.lst xs)) :=
  have e := Ext0.add (o := .lst xs) s n
  a (.ref p) _ _ e (.lst upd_same (r.mono e.fz))
theorem Ans.newK {F H : Hp} {ds : List (D × D)} {xs : List (Key × V)} {Q : VK} (s : SubF F H) (a : Ans F H (.dict ds) Q) (r : RpK F ds xs) {p : Addr} (n : H p = none) : Q (.ref p) (upd H p (.dK xs)) :=
  have e := Ext0.add (o := .dK xs) s n
  a (.ref p) _ _ e (.dicK upd_same (r.mono e.fz))

def rB (o : D → D → Option D) : R2 := fun x y H Q => ∃ F R d e r, SubF F H ∧ RpB F H R d x ∧ RpB F H R e y ∧ o d e = some r ∧ Ans F H r Q

theorem line24 : (sizeLine : Nat) = 16777216 := rfl
section
variable {X : Cx}
theorem op_addD : OpR X (binaryOp .Add) (rB addD) := by
  intro pins s σ H x y v u Q I rx ry h
  obtain ⟨F, R, d, e, r, sF, hx, hy, ho, a⟩ := h
  unfold addD at ho
  split at ho
  · cases hx.int; cases hy.int; cases ho
    exact op_add pins s σ H _ _ v u Q I rx ry ⟨_, _, rfl, rfl, a.same sF (.int _)⟩
  · cases hx.str; cases hy.str
    split at ho
    · cases ho
      exact op_add_str pins s σ H _ _ v u Q I rx ry ⟨_, _, rfl, rfl, by assumption, a.same sF (.str _)⟩
    · cases ho
  · obtain ⟨p, xs, rfl, ep, hp, rp⟩ := hx.tup sF
    obtain ⟨q, ys, rfl, eq, hq, rq⟩ := hy.tup sF
    split at ho
    · cases ho
      refine op_catA pins s σ H _ _ v u Q I rx ry ⟨p, q, xs, ys, rfl, rfl, SqT.of hp, SqT.of hq, by rw [← rp.length, ← rq.length]; assumption, fun e => ?_, fun _ e => ?_, fun _ _ t nt => ?_⟩
      · subst e; cases rp
        exact a.same sF (.tup eq (by simpa using rq))
      · subst e; cases rq
        exact a.same sF (.tup ep (by simpa using rp))
      · exact a.newT sF (rp.append rq) nt
    · cases ho
  · obtain ⟨p, xs, rfl, hp, rp⟩ := hx.list sF
    obtain ⟨q, ys, rfl, hq, rq⟩ := hy.list sF
    split at ho
    · cases ho
      refine op_cat pins s σ H _ _ v u Q I rx ry ⟨p, q, xs, ys, rfl, rfl, hp, hq, by rw [← rp.length, ← rq.length]; assumption, fun t nt => a.newL sF (rp.append rq) nt⟩
    · cases ho
  · cases ho
theorem op_subD : OpR X (binaryOp .Sub) (rB subD) := by
  intro pins s σ H x y v u Q I rx ry h
  obtain ⟨F, R, d, e, r, sF, hx, hy, ho, a⟩ := h
  unfold subD at ho
  split at ho
  · cases hx.int; cases hy.int; cases ho
    exact op_sub pins s σ H _ _ v u Q I rx ry ⟨_, _, rfl, rfl, a.same sF (.int _)⟩
  · cases ho
theorem op_modD : OpR X (binaryOp .Mod) (rB modD) := by
  intro pins s σ H x y v u Q I rx ry h
  obtain ⟨F, R, d, e, r, sF, hx, hy, ho, a⟩ := h
  unfold modD at ho
  split at ho
  · cases hx.int; cases hy.int
    split at ho
    · cases ho
      exact op_mod pins s σ H _ _ v u Q I rx ry ⟨_, _, rfl, rfl, by assumption, a.same sF (.int _)⟩
    · cases ho
  · cases ho
theorem op_fdivD : OpR X (binaryOp .FloorDiv) (rB fdivD) := by
  intro pins s σ H x y v u Q I rx ry h
  obtain ⟨F, R, d, e, r, sF, hx, hy, ho, a⟩ := h
  unfold fdivD at ho
  split at ho
  · cases hx.int; cases hy.int
    split at ho
    · cases ho
      exact op_fdivW pins s σ H _ _ v u Q I rx ry ⟨_, _, rfl, rfl, by assumption, a.same sF (.int _)⟩
    · cases ho
  · cases ho
theorem op_powD : OpR X (binaryOp .Pow) (rB powD) := by
  intro pins s σ H x y v u Q I rx ry h
  obtain ⟨F, R, d, e, r, sF, hx, hy, ho, a⟩ := h
  unfold powD at ho
  split at ho
  · cases hx.int; cases hy.int
    split at ho
    · cases ho
      exact op_pow pins s σ H _ _ v u Q I rx ry ⟨_, _, rfl, rfl, by assumption, a.same sF (.int _)⟩
    · cases ho
  · cases ho
theorem foldl_reps (xs : Array Nat) : ∀ (k : Nat) (acc : Array Nat), ((List.replicate k xs).foldl (· ++ ·) acc).toList = acc.toList ++ (List.replicate k xs.toList).flatten
  | 0, acc => by simp
  | k + 1, acc => by
    rw [List.replicate_succ, List.foldl_cons, foldl_reps xs k, List.replicate_succ, List.flatten_cons, Array.toList_append, List.append_assoc]
theorem txt_mul (x : PySem.Str) (k : Int) : PySem.Txt.mul x k = repS x k := by
  unfold Txt.mul repS
  split
  · rename_i h
    have : k.toNat = 0 := by omega
    rw [this]; rfl
  · rename_i h
    split
    · rename_i h2
      simp only [Bool.or_eq_true, beq_iff_eq] at h2
      rcases h2 with h2 | h2
      · subst h2; apply TL.ext_tl; simp [TL.tl]
      · have e : x.cps.toList = [] := List.length_eq_zero_iff.mp (by simpa [PySem.Str.length] using h2)
        apply TL.ext_tl
        show x.cps.toList = (List.replicate k.toNat x.cps.toList).flatten.toArray.toList
        rw [e]; simp
    · congr 1
      apply Array.toList_inj.mp
      rw [foldl_reps]; simp
theorem mul_ok {x : PySem.Str} {k : Int} (h1 : x.length * k.toNat ≤ 1000000) (h2 : -1000000 ≤ k) (h3 : k ≤ 1000000) : PySem.MulOk x k := by
  refine ⟨by rw [Bool.or_eq_false_iff]; constructor <;> (apply decide_eq_false; omega), fun h4 h5 h6 => ?_, fun h4 h5 => ?_⟩
  · have hk : 0 < k := by omega
    have : (x.length : Int) * k ≤ 1000000 := by
      have e : k = (k.toNat : Int) := by omega
      have h11 : ((x.length * k.toNat : Nat) : Int) ≤ (1000000 : Nat) := Int.ofNat_le.mpr h1
      rw [Int.natCast_mul, ← e] at h11
      exact h11
    have h7 : (2 ^ 63 - 1) / k * k < (x.length : Int) * k := Int.mul_lt_mul_of_pos_right h6 hk
    have h8 := Int.emod_add_mul_ediv (2 ^ 63 - 1) k
    have h9 := Int.emod_lt_of_pos (2 ^ 63 - 1) hk
    have h10 : k * ((2 ^ 63 - 1) / k) = (2 ^ 63 - 1) / k * k := Int.mul_comm _ _
    omega
  · have : sizeLine = 16777216 := rfl
    exact decide_eq_false (by omega)
theorem op_mulD : OpR X (binaryOp .Mult) (rB mulD) := by
  intro pins s σ H x y v u Q I rx ry h
  obtain ⟨F, R, d, e, r, sF, hx, hy, ho, a⟩ := h
  unfold mulD at ho
  split at ho
  · cases hx.int; cases hy.int
    split at ho
    · cases ho
      exact op_mulW pins s σ H _ _ v u Q I rx ry ⟨_, _, rfl, rfl, by assumption, a.same sF (.int _)⟩
    · cases ho
  · cases hx.str; cases hy.int
    split at ho
    · rename_i x k c
      cases ho
      obtain ⟨t, rfl⟩ := rx
      obtain ⟨t', rfl⟩ := ry
      refine SB.mul (mul_ok c.1 c.2.1 c.2.2) fun t2 k2 => ?_
      rw [txt_mul]
      exact ⟨.str (repS x k), H, I.tok _, ⟨_, rfl⟩, a.same sF (.str _)⟩
    · cases ho
  · obtain ⟨p, xs, rfl, ep, hp, rp⟩ := hx.tup sF
    cases hy.int
    split at ho
    · rename_i a0 k c
      cases ho
      refine op_repT pins s σ H _ _ v u Q I rx ry ⟨p, k, xs, rfl, rfl, SqT.of hp, fun z => ?_, c.2.1, c.2.2.1, by rw [← rp.length]; exact c.2.2.2, fun t nt => a.newT sF (rp.rep _) nt⟩
      subst z; cases rp; exact c.1 rfl
    · cases ho
  · obtain ⟨p, xs, rfl, hp, rp⟩ := hx.list sF
    cases hy.int
    split at ho
    · rename_i a0 k c
      cases ho
      refine op_rep pins s σ H _ _ v u Q I rx ry ⟨p, k, xs, rfl, rfl, hp, by omega, by omega, ?_, fun t nt => a.newL sF (rp.rep _) nt⟩
      rw [← rp.length]
      have : sizeLine = 16777216 := rfl
      have := c.1
      omega
    · cases ho
  · cases ho
theorem op_binD (o : Operator) : OpR X (binaryOp o) (rB (binD o)) := by
  unfold binD
  split
  · exact op_addD
  · exact op_subD
  · exact op_mulD
  · exact op_fdivD
  · exact op_modD
  · exact op_powD
  · intro pins s σ H x y v u Q I rx ry h
    obtain ⟨F, R, d, e, r, sF, hx, hy, ho, a⟩ := h
    cases ho

/-! ### data by the heap -/
mutual
theorem dp_of {K : PySem.W.Frag} {F H : Hp} (s : SubF F H) : ∀ {d : D} {v : V}, Rp F d v → d.canLay0 = true → Dp K H v d
  | _, _, .non, _ => .non
  | _, _, .bl b, _ => .bl b
  | _, _, .int b, _ => .int b
  | _, _, .str b, _ => .str b
  | _, _, .tup e r, h => .tup (SqT.of (s.tup e)) (dpAll_of s r (by simpa [PyData.canLay0] using h))
  | _, _, .lst e r, h => .lst (SqL.of (s.lst e)) (dpAll_of s r (by simpa [PyData.canLay0] using h))
  | _, _, .dicK e r, h => by cases h
  | _, _, .dicT e r, h => by cases h
theorem dpAll_of {K : PySem.W.Frag} {F H : Hp} (s : SubF F H) : ∀ {d : List D} {v : List V}, RpL F d v → PyData.canLayAll0 d = true → DpAll K H v d
  | _, _, .nil, _ => .nil
  | _, _, .cons r t, h => by
    have h' := h
    rw [PyData.canLayAll0, Bool.and_eq_true] at h'
    exact .cons (dp_of s r h'.1) (dpAll_of s t h'.2)
end
theorem dp_B {K : PySem.W.Frag} {F H : Hp} {R : RA} (s : SubF F H) {d : D} {v : V} (h : RpB F H R d v) (c : d.canLay0 = true) : Dp K H v d := by
  rcases h with h | ⟨p, rfl, h, _⟩
  · exact dp_of s h c
  · cases h with
    | lst e r => exact .lst (SqL.of e) (dpAll_of s r (by simpa [PyData.canLay0] using c))
    | dicK e r => cases c
    | dicT e r => cases c
/-- a comparison -/
def rC (o : D → D → Option Bool) : R2 := fun x y H Q => ∃ F R d e r, SubF F H ∧ RpB F H R d x ∧ RpB F H R e y ∧ o d e = some r ∧ Ans F H (.bool r) Q
theorem op_eqD' (c : CxR X) : OpR X (compareOp .Eq) (rC eqD) := by
  intro pins s σ H x y v u Q I rx ry h
  obtain ⟨F, R, d, e, r, sF, hx, hy, ho, a⟩ := h
  unfold eqD at ho
  split at ho
  · cases hx.int; cases hy.int; cases ho
    exact op_eq pins s σ H _ _ v u Q I rx ry ⟨rfl, by
      have e : ∀ i j : Int, decide (V.int i = V.int j) = decide (i = j) := fun i j => by simp
      rw [e]
      exact a.same sF (.bl _)⟩
  · cases hx.str; cases hy.str; cases ho
    exact op_eq pins s σ H _ _ v u Q I rx ry ⟨rfl, by
      have e : ∀ i j : PySem.Str, decide (V.str i = V.str j) = decide (i = j) := fun i j => by simp
      rw [e]
      exact a.same sF (.bl _)⟩
  split at ho
  · rename_i sh
    cases ho
    exact op_eqD (by have := c.units; omega) pins s σ H _ _ v u Q I rx ry ⟨d, e, dp_B sF hx (SeqAt.canLay_of_shaped sh.1), dp_B sF hy (SeqAt.canLay_of_shaped sh.2), sh.1, sh.2, a.same sF (.bl _)⟩
  · cases ho
theorem op_neD' (c : CxR X) : OpR X (compareOp .NotEq) (rC fun x y => (eqD x y).map (!·)) := by
  intro pins s σ H x y v u Q I rx ry h
  obtain ⟨F, R, d, e, r, sF, hx, hy, ho, a⟩ := h
  obtain ⟨r, ho2, rfl⟩ := Option.map_eq_some_iff.mp ho
  clear ho
  have ho := ho2
  clear ho2
  unfold eqD at ho
  split at ho
  · cases hx.int; cases hy.int; cases ho
    exact op_ne pins s σ H _ _ v u Q I rx ry ⟨rfl, by
      have e : ∀ i j : Int, decide (V.int i = V.int j) = decide (i = j) := fun i j => by simp
      rw [e]
      exact a.same sF (.bl _)⟩
  · cases hx.str; cases hy.str; cases ho
    exact op_ne pins s σ H _ _ v u Q I rx ry ⟨rfl, by
      have e : ∀ i j : PySem.Str, decide (V.str i = V.str j) = decide (i = j) := fun i j => by simp
      rw [e]
      exact a.same sF (.bl _)⟩
  split at ho
  · rename_i sh
    cases ho
    exact op_neD (by have := c.units; omega) pins s σ H _ _ v u Q I rx ry ⟨d, e, dp_B sF hx (SeqAt.canLay_of_shaped sh.1), dp_B sF hy (SeqAt.canLay_of_shaped sh.2), sh.1, sh.2, a.same sF (.bl _)⟩
  · cases ho
end
end PV
set_option maxHeartbeats 1000000
namespace PV
open PySem L2
/-! ### one text in another -/
theorem isPart_iff (b : Wd) : ∀ a : Wd, isPart b a = true ↔ ∃ i, i ≤ a.length ∧ b <+: a.drop i
  | [] => by
    unfold isPart
    rw [List.isEmpty_iff]
    constructor
    · intro h; subst h; exact ⟨0, Nat.le_refl _, List.prefix_refl _⟩
    · intro ⟨i, _, h⟩
      rw [List.drop_nil] at h
      exact List.prefix_nil.mp h
  | c :: r => by
    unfold isPart
    rw [Bool.or_eq_true, isPart_iff b r, List.isPrefixOf_iff_prefix]
    constructor
    · rintro (h | ⟨i, hi, h⟩)
      · exact ⟨0, Nat.zero_le _, h⟩
      · exact ⟨i + 1, by simpa using hi, h⟩
    · rintro ⟨i, hi, h⟩
      cases i with
      | zero => exact .inl h
      | succ i => exact .inr ⟨i, by simpa using hi, h⟩
theorem prefix_take {b a : Wd} : b <+: a ↔ a.take b.length = b := by
  constructor
  · rintro ⟨t, rfl⟩; simp
  · intro h; exact ⟨a.drop b.length, by conv => lhs; lhs; rw [← h]
                                        exact List.take_append_drop _ _⟩
theorem subAt_iff {x y : PySem.Str} {i : Nat} : Builtin.Str.subAt x y i = true ↔ y.cps.toList <+: x.cps.toList.drop i := by
  unfold Builtin.Str.subAt
  rw [beq_iff_eq, prefix_take, ← Array.toList_inj, Array.toList_extract]
  have e : y.length = y.cps.toList.length := rfl
  rw [← e]
  unfold List.extract
  rw [Nat.add_sub_cancel_left]
theorem found_part (x y : PySem.Str) : (!(Builtin.Str.occurrences x y 0 x.length 1).isEmpty) = isPart y.cps.toList x.cps.toList := by
  rw [Bool.eq_iff_iff, StrLaws.found_iff, isPart_iff]
  have ex : x.length = x.cps.toList.length := rfl
  have ey : y.length = y.cps.toList.length := rfl
  constructor
  · rintro ⟨i, hi, h⟩
    exact ⟨i, by omega, subAt_iff.mp h⟩
  · rintro ⟨i, hi, h⟩
    refine ⟨i, ?_, subAt_iff.mpr h⟩
    have := h.length_le
    rw [List.length_drop] at this
    omega
section
variable {X : Cx}
theorem keyEq_K (a b : Key) : keyEq (keyD a) (keyD b) = decide (a = b) := by
  rcases a with i | x <;> rcases b with j | y
  · show (i == j) = _
    rw [Bool.beq_eq_decide_eq]; congr 1; exact propext ⟨fun h => by rw [h], fun h => Sum.inl.inj h⟩
  · show false = _
    exact (decide_eq_false fun h => nomatch h).symm
  · show false = _
    exact (decide_eq_false fun h => nomatch h).symm
  · show (x == y) = _
    rw [Bool.beq_eq_decide_eq]; congr 1; exact propext ⟨fun h => by rw [h], fun h => Sum.inr.inj h⟩
theorem eqv_K (a b : Key) : PyData.eqv (keyD a) (keyD b) = decide (a = b) := by
  rw [← keyEq_K]
  rcases a with i | x <;> rcases b with j | y <;> simp [keyD, keyEq, PyData.eqv]
theorem keyEq_T : ∀ (a b : List Key), PyData.eqvAll (a.map keyD) (b.map keyD) = decide (a = b)
  | [], [] => by simp [PyData.eqvAll]
  | [], _ :: _ => by simp [PyData.eqvAll]
  | _ :: _, [] => by simp [PyData.eqvAll]
  | x :: a, y :: b => by
    rw [List.map_cons, List.map_cons, PyData.eqvAll, eqv_K, keyEq_T a b, ← Bool.decide_and]
    congr 1
    exact propext ⟨fun ⟨h1, h2⟩ => by rw [h1, h2], fun h => by cases h; exact ⟨rfl, rfl⟩⟩
theorem RpK.find {F : Hp} (k : Key) : ∀ {ps : List (D × D)} {kvs : List (Key × V)}, RpK F ps kvs →
    (findD ps (keyD k) = none ∧ valV kvs k = none) ∨ ∃ d v, findD ps (keyD k) = some d ∧ valV kvs k = some v ∧ Rp F d v
  | _, _, .nil => .inl ⟨rfl, rfl⟩
  | _, _, .cons (k := k') (d := d) (v := v) r t => by
    by_cases h : k' = k
    · refine .inr ⟨d, v, ?_, valV_pos h, r⟩
      unfold findD
      rw [List.find?_cons, keyEq_K, decide_eq_true h]; rfl
    · rcases RpK.find k t with ⟨h1, h2⟩ | ⟨d', v', h1, h2, h3⟩
      · refine .inl ⟨?_, by rw [valV_neg h]; exact h2⟩
        unfold findD at h1 ⊢
        rw [List.find?_cons, keyEq_K, decide_eq_false h]; exact h1
      · refine .inr ⟨d', v', ?_, by rw [valV_neg h]; exact h2, h3⟩
        unfold findD at h1 ⊢
        rw [List.find?_cons, keyEq_K, decide_eq_false h]; exact h1
theorem RpT.find {F : Hp} (k : List Key) : ∀ {ps : List (D × D)} {kvs : List (List Key × V)}, RpT F ps kvs →
    (findD ps (.tuple (k.map keyD)) = none ∧ valV kvs k = none) ∨ ∃ d v, findD ps (.tuple (k.map keyD)) = some d ∧ valV kvs k = some v ∧ Rp F d v
  | _, _, .nil => .inl ⟨rfl, rfl⟩
  | _, _, .cons (k := k') (d := d) (v := v) r t => by
    have ek : keyEq (.tuple (k'.map keyD)) (.tuple (k.map keyD)) = decide (k' = k) := keyEq_T k' k
    by_cases h : k' = k
    · refine .inr ⟨d, v, ?_, valV_pos h, r⟩
      unfold findD
      rw [List.find?_cons, ek, decide_eq_true h]; rfl
    · rcases RpT.find k t with ⟨h1, h2⟩ | ⟨d', v', h1, h2, h3⟩
      · refine .inl ⟨?_, by rw [valV_neg h]; exact h2⟩
        unfold findD at h1 ⊢
        rw [List.find?_cons, ek, decide_eq_false h]; exact h1
      · refine .inr ⟨d', v', ?_, by rw [valV_neg h]; exact h2, h3⟩
        unfold findD at h1 ⊢
        rw [List.find?_cons, ek, decide_eq_false h]; exact h1
theorem key_of {d : D} (h : isKey d = true) : ∃ k : Key, d = keyD k := by
  cases d <;> first | exact ⟨.inl _, rfl⟩ | exact ⟨.inr _, rfl⟩ | cases h
theorem keyT_of {d : D} (h : isKeyT d = true) : ∃ k : List Key, d = .tuple (k.map keyD) := by
  cases d with
  | tuple l =>
    have h' : l.all isKey = true := h
    clear h
    induction l with
    | nil => exact ⟨[], rfl⟩
    | cons d l ih =>
      rw [List.all_cons, Bool.and_eq_true] at h'
      obtain ⟨k, rfl⟩ := key_of h'.1
      obtain ⟨ks, e⟩ := ih h'.2
      have e' : l = ks.map keyD := by injection e
      exact ⟨k :: ks, by rw [e']; rfl⟩
  | none => cases h
  | bool _ => cases h
  | int _ => cases h
  | str _ => cases h
  | list _ => cases h
  | dict _ => cases h
theorem RpK.keys {F : Hp} : ∀ {ps : List (D × D)} {kvs : List (Key × V)}, RpK F ps kvs → ps.all (fun p => isKeyT p.1) = true → ps = []
  | _, _, .nil, _ => rfl
  | _, _, .cons (k := k) r t, h => by
    rw [List.all_cons, Bool.and_eq_true] at h
    rcases k with i | x <;> cases h.1
theorem RpT.keys {F : Hp} : ∀ {ps : List (D × D)} {kvs : List (List Key × V)}, RpT F ps kvs → ps.all (fun p => isKey p.1) = true → ps = []
  | _, _, .nil, _ => rfl
  | _, _, .cons (k := k) r t, h => by
    rw [List.all_cons, Bool.and_eq_true] at h
    cases h.1
theorem keyD_V {F : Hp} {k : Key} {v : V} (h : Rp F (keyD k) v) : v = kV k := by
  rcases k with i | x
  · exact h.int_inv
  · exact h.str_inv
theorem RpL.keys {F : Hp} : ∀ {k : List Key} {vs : List V}, RpL F (k.map keyD) vs → vs = k.map kV
  | [], _, h => by cases h; rfl
  | k :: ks, _, h => by
    cases h with
    | cons r t => rw [keyD_V r, RpL.keys t]; rfl

/-! ### order, in -/
theorem op_ltD : OpR X (compareOp .Lt) (rC ltD) := by
  intro pins s σ H x y v u Q I rx ry h
  obtain ⟨F, R, d, e, r, sF, hx, hy, ho, a⟩ := h
  unfold ltD at ho
  split at ho
  · cases hx.int; cases hy.int; cases ho
    exact op_lt pins s σ H _ _ v u Q I rx ry ⟨_, _, rfl, rfl, a.same sF (.bl _)⟩
  · cases hx.str; cases hy.str; cases ho
    exact op_lt_str pins s σ H _ _ v u Q I rx ry ⟨_, _, rfl, rfl, a.same sF (.bl _)⟩
  · cases ho
theorem op_gtD : OpR X (compareOp .Gt) (rC fun x y => ltD y x) := by
  intro pins s σ H x y v u Q I rx ry h
  obtain ⟨F, R, d, e, r, sF, hx, hy, ho, a⟩ := h
  have ho : ltD e d = some r := ho
  unfold ltD at ho
  split at ho
  · cases hx.int; cases hy.int; cases ho
    exact op_gt pins s σ H _ _ v u Q I rx ry ⟨_, _, rfl, rfl, a.same sF (.bl _)⟩
  · cases hx.str; cases hy.str; cases ho
    exact op_gt_str pins s σ H _ _ v u Q I rx ry ⟨_, _, rfl, rfl, a.same sF (.bl _)⟩
  · cases ho
theorem op_leD : OpR X (compareOp .LtE) (rC fun x y => (ltD y x).map (!·)) := by
  intro pins s σ H x y v u Q I rx ry h
  obtain ⟨F, R, d, e, r, sF, hx, hy, ho, a⟩ := h
  obtain ⟨q, ho2, rfl⟩ := Option.map_eq_some_iff.mp ho
  clear ho
  have ho := ho2
  clear ho2
  unfold ltD at ho
  split at ho
  · rename_i i j
    cases hx.int; cases hy.int; cases ho
    refine op_le pins s σ H _ _ v u Q I rx ry ⟨_, _, rfl, rfl, ?_⟩
    have e : decide (j ≤ i) = !decide (i < j) := by
      rw [← decide_not]; congr 1; exact propext ⟨fun h => by omega, fun h => by omega⟩
    show Q (V.bl (decide (_ ≤ _))) H
    rw [e]
    exact a.same sF (.bl _)
  · cases hx.str; cases hy.str; cases ho
    exact op_le_str pins s σ H _ _ v u Q I rx ry ⟨_, _, rfl, rfl, a.same sF (.bl _)⟩
  · cases ho
theorem op_geD : OpR X (compareOp .GtE) (rC fun x y => (ltD x y).map (!·)) := by
  intro pins s σ H x y v u Q I rx ry h
  obtain ⟨F, R, d, e, r, sF, hx, hy, ho, a⟩ := h
  obtain ⟨q, ho2, rfl⟩ := Option.map_eq_some_iff.mp ho
  clear ho
  have ho := ho2
  clear ho2
  unfold ltD at ho
  split at ho
  · rename_i i j
    cases hx.int; cases hy.int; cases ho
    refine op_ge pins s σ H _ _ v u Q I rx ry ⟨_, _, rfl, rfl, ?_⟩
    have e : decide (j ≤ i) = !decide (i < j) := by
      rw [← decide_not]; congr 1; exact propext ⟨fun h => by omega, fun h => by omega⟩
    show Q (V.bl (decide (_ ≤ _))) H
    rw [e]
    exact a.same sF (.bl _)
  · cases hx.str; cases hy.str; cases ho
    exact op_ge_str pins s σ H _ _ v u Q I rx ry ⟨_, _, rfl, rfl, a.same sF (.bl _)⟩
  · cases ho
theorem reads_B {pins : List (Addr × Obj)} {σ : St} {H : Hp} {s : Shared} {F : Hp} {R : RA} (I : L2.Inv X pins σ H s) (sF : SubF F H) {d : D} {v : V} {u : Value} (h : RpB F H R d v) (c : d.canLay0 = true) (r : RelV v u) : ∃ as, Reads s.heap u d as :=
  Dp.reads I d v u (dp_B sF h c) r
theorem op_inD' (c : CxR X) : OpR X (compareOp .In) (rC inD) := by
  intro pins s σ H x y v u Q I rx ry h
  obtain ⟨F, R, d, e, r, sF, hx, hy, ho, a⟩ := h
  have hu := c.units
  unfold inD at ho
  split at ho
  · cases hx.str; cases hy.str; cases ho
    refine op_in_str pins s σ H _ _ v u Q I rx ry ⟨_, _, rfl, rfl, ?_⟩
    rw [found_part]
    exact a.same sF (.bl _)
  · rename_i l
    split at ho
    · rename_i sh
      cases ho
      obtain ⟨as, r1⟩ := reads_B I sF hx (SeqAt.canLay_of_shaped sh.1) rx
      obtain ⟨bs, r2⟩ := reads_B I sF hy (SeqAt.canLay_of_shaped sh.2) ry
      exact SeqAt.in_list_reads r2 r1 (SeqAt.canLay_of_shaped sh.2) (SeqAt.canLay_of_shaped sh.1) (by
        have := SeqAt.depth_of_shaped sh.1
        omega) ⟨.bl _, H, I, rfl, a.same sF (.bl _)⟩
    · cases ho
  · rename_i l
    split at ho
    · rename_i sh
      cases ho
      obtain ⟨as, r1⟩ := reads_B I sF hx (SeqAt.canLay_of_shaped sh.1) rx
      obtain ⟨bs, r2⟩ := reads_B I sF hy (SeqAt.canLay_of_shaped sh.2) ry
      exact SeqAt.in_tuple_reads r2 r1 (SeqAt.canLay_of_shaped sh.2) (SeqAt.canLay_of_shaped sh.1) (by
        have := SeqAt.depth_of_shaped sh.1
        omega) ⟨.bl _, H, I, rfl, a.same sF (.bl _)⟩
    · cases ho
  · cases ho
theorem op_notInD' (c : CxR X) : OpR X (compareOp .NotIn) (rC fun x y => (inD x y).map (!·)) := by
  intro pins s σ H x y v u Q I rx ry h
  obtain ⟨F, R, d, e, r, sF, hx, hy, ho, a⟩ := h
  obtain ⟨q, ho2, rfl⟩ := Option.map_eq_some_iff.mp ho
  clear ho
  have ho := ho2
  clear ho2
  have hu := c.units
  unfold inD at ho
  split at ho
  · cases hx.str; cases hy.str; cases ho
    refine op_notin_str pins s σ H _ _ v u Q I rx ry ⟨_, _, rfl, rfl, ?_⟩
    rw [found_part]
    exact a.same sF (.bl _)
  · rename_i l
    split at ho
    · rename_i sh
      cases ho
      obtain ⟨as, r1⟩ := reads_B I sF hx (SeqAt.canLay_of_shaped sh.1) rx
      obtain ⟨bs, r2⟩ := reads_B I sF hy (SeqAt.canLay_of_shaped sh.2) ry
      exact SeqAt.notIn_list_reads r2 r1 (SeqAt.canLay_of_shaped sh.2) (SeqAt.canLay_of_shaped sh.1) (by
        have := SeqAt.depth_of_shaped sh.1
        omega) ⟨.bl _, H, I, rfl, a.same sF (.bl _)⟩
    · cases ho
  · rename_i l
    split at ho
    · rename_i sh
      cases ho
      obtain ⟨as, r1⟩ := reads_B I sF hx (SeqAt.canLay_of_shaped sh.1) rx
      obtain ⟨bs, r2⟩ := reads_B I sF hy (SeqAt.canLay_of_shaped sh.2) ry
      exact SeqAt.notIn_tuple_reads r2 r1 (SeqAt.canLay_of_shaped sh.2) (SeqAt.canLay_of_shaped sh.1) (by
        have := SeqAt.depth_of_shaped sh.1
        omega) ⟨.bl _, H, I, rfl, a.same sF (.bl _)⟩
    · cases ho
  · cases ho
theorem op_cmpD (c : CxR X) (o : CmpOp) : OpR X (compareOp o) (rC (cmpD o)) := by
  have none : ∀ f : Value → Value → Sem Value, OpR X f (rC fun _ _ => Option.none) := by
    intro f pins s σ H x y v u Q I rx ry h
    obtain ⟨F, R, d, e, r, sF, hx, hy, ho, a⟩ := h
    cases ho
  cases o
  · exact op_eqD' c
  · exact op_neD' c
  · exact op_ltD
  · exact op_leD
  · exact op_gtD
  · exact op_geD
  · exact none _
  · exact none _
  · exact op_inD' c
  · exact op_notInD' c
/-! ### places, slices -/
theorem ix_D : IxR X (rB ixD) := by
  intro value slice pins s σ H x y v u Q I rx ry h hs
  obtain ⟨F, R, d, e, r, sF, hx, hy, ho, a⟩ := h
  unfold ixD at ho
  split at ho
  · cases hx.str; cases hy.int
    split at ho
    · obtain ⟨c, hc, rfl⟩ := Option.map_eq_some_iff.mp ho
      exact ix_str value slice pins s σ H _ _ v u Q I rx ry ⟨_, _, c, rfl, rfl, by assumption, hc, a.same sF (.str _)⟩ hs
    · cases ho
  · obtain ⟨p, xs, rfl, hp, rp⟩ := hx.list sF
    cases hy.int
    obtain ⟨j, h1, h2, _⟩ := atI_get ho
    obtain ⟨w, h3, h4⟩ := rp.get h2
    refine ix_list value slice pins s σ H _ _ v u Q I rx ry ⟨p, xs, _, w, rfl, rfl, SqL.of hp, ?_, a.same sF h4⟩ hs
    unfold atI at ho ⊢
    rw [← rp.length]
    obtain ⟨j', e1, e2⟩ := Option.bind_eq_some_iff.mp ho
    rw [e1]
    have := ixN_seq e1
    rw [this.1] at h1
    cases h1
    exact h3
  · obtain ⟨p, xs, rfl, _, hp, rp⟩ := hx.tup sF
    cases hy.int
    obtain ⟨j, h1, h2, _⟩ := atI_get ho
    obtain ⟨w, h3, h4⟩ := rp.get h2
    refine ix_tup value slice pins s σ H _ _ v u Q I rx ry ⟨p, xs, _, w, rfl, rfl, SqT.of hp, ?_, a.same sF h4⟩ hs
    unfold atI at ho ⊢
    rw [← rp.length]
    obtain ⟨j', e1, e2⟩ := Option.bind_eq_some_iff.mp ho
    rw [e1]
    have := ixN_seq e1
    rw [this.1] at h1
    cases h1
    exact h3
  · cases ho
def rSlD : V → Option Int → Option Int → Hp → VK → Prop := fun x lo hi H Q => ∃ F R d r, SubF F H ∧ RpB F H R d x ∧ slD d lo hi = some r ∧ Ans F H r Q
theorem sl_D : SlR X rSlD := by
  intro pins s σ H x v vl vu lo hi sl Q I rx hs pl pu h
  obtain ⟨F, R, d, r, sF, hx, ho, a⟩ := h
  unfold slD at ho
  split at ho
  · cases hx.str
    split at ho
    · cases ho
      exact sl_str pins s σ H _ v vl vu lo hi sl Q I rx hs pl pu ⟨_, rfl, by assumption, a.same sF (.str _)⟩
    · cases ho
  · obtain ⟨p, xs, rfl, hp, rp⟩ := hx.list sF
    cases ho
    refine sl_list pins s σ H _ v vl vu lo hi sl Q I rx hs pl pu ⟨p, xs, rfl, SqL.of hp, fun t nt => a.newL sF ?_ nt⟩
    unfold cutL cutV
    rw [rp.length]
    exact (rp.drop _).take _
  · obtain ⟨p, xs, rfl, ep, hp, rp⟩ := hx.tup sF
    cases ho
    have key : ∀ l : List D, RpL F l xs → RpL F (cutL l lo hi) (cutV xs lo hi) := fun l rl => by
      unfold cutL cutV
      rw [rl.length]
      exact (rl.drop _).take _
    refine sl_tupA pins s σ H _ v vl vu lo hi sl Q I rx hs pl pu ⟨p, xs, rfl, SqT.of hp, fun hw => a.same sF (.tup ep ?_), fun _ t nt => a.newT sF (key _ rp) nt⟩
    rename_i l
    have e : cutL l lo hi = l := by
      unfold cutL
      rw [rp.length, hw.1, hw.2]
      rw [List.drop_zero, Nat.sub_zero, ← rp.length, List.take_length]
    rw [e]; exact rp
  · cases ho
/-! ### built-in functions -/
theorem allOf_map {α : Type} {f : D → Option α} {g : α → D} (h : ∀ d a, f d = some a → d = g a) : ∀ {l : List D} {as : List α}, allOf f l = some as → l = as.map g
  | [], _, e => by cases e; rfl
  | d :: r, as, e => by
    obtain ⟨a, h1, h2⟩ := Option.bind_eq_some_iff.mp e
    obtain ⟨bs, h3, rfl⟩ := Option.map_eq_some_iff.mp h2
    rw [List.map_cons, ← h d a h1, ← allOf_map h h3]
theorem allInt {l : List D} {ns : List Int} (h : allOf asInt l = some ns) : l = ns.map PyData.int := allOf_map (fun d a e => by cases d <;> first | cases e; rfl | cases e) h
theorem allStr {l : List D} {ns : List PySem.Str} (h : allOf asStr l = some ns) : l = ns.map PyData.str := allOf_map (fun d a e => by cases d <;> first | cases e; rfl | cases e) h
theorem allBool {l : List D} {ns : List Bool} (h : allOf asBool l = some ns) : l = ns.map PyData.bool := allOf_map (fun d a e => by cases d <;> first | cases e; rfl | cases e) h
end
end PV
set_option maxHeartbeats 1000000
namespace PV
open PySem L2
/-! ### sorting -/
section
variable {α : Type} {lt : α → α → Bool}
theorem sort_unique : ∀ {l m : List α}, l.Perm m → l.Pairwise (fun x y => lt y x = false) → m.Pairwise (fun x y => lt y x = false) →
    (∀ a ∈ l, ∀ b ∈ l, lt a b = false → lt b a = false → a = b) → l = m
  | [], m, h, _, _, _ => (List.nil_perm.mp h).symm
  | x :: l, [], h, _, _, _ => absurd h.length_eq (by simp)
  | x :: l, y :: m, h, h1, h2, h3 => by
    have hy : y ∈ x :: l := h.mem_iff.mpr List.mem_cons_self
    have hx : x ∈ y :: m := h.mem_iff.mp List.mem_cons_self
    rw [List.pairwise_cons] at h1 h2
    have e : x = y := by
      rcases List.mem_cons.mp hy with e | hy'
      · exact e.symm
      · rcases List.mem_cons.mp hx with e | hx'
        · exact e
        · exact h3 x List.mem_cons_self y hy (h2.1 x hx') (h1.1 y hy')
    subst e
    rw [sort_unique (List.Perm.cons_inv h) h1.2 h2.2 fun a ha b hb => h3 a (List.mem_cons_of_mem _ ha) b (List.mem_cons_of_mem _ hb)]
end
theorem insD_perm (lt : D → D → Bool) (d : D) : ∀ l : List D, (insD lt d l).Perm (d :: l)
  | [] => List.Perm.refl _
  | e :: r => by
    unfold insD
    split
    · exact List.Perm.refl _
    · exact ((insD_perm lt d r).cons e).trans (List.Perm.swap d e r)
theorem foldl_ins_perm (lt : D → D → Bool) : ∀ (l acc : List D), (l.foldl (fun acc d => insD lt d acc) acc).Perm (l ++ acc)
  | [], acc => List.Perm.refl _
  | d :: r, acc => by
    rw [List.foldl_cons]
    refine (foldl_ins_perm lt r _).trans ?_
    refine ((insD_perm lt d acc).append_left r).trans ?_
    exact List.perm_middle
theorem sortD_perm (lt : D → D → Bool) (l : List D) : (sortD lt l).Perm l := by
  have := foldl_ins_perm lt l []
  rw [List.append_nil] at this
  exact this
theorem insD_sorted {lt : D → D → Bool} (O : SrtO.Swo lt) (d : D) : ∀ l : List D, l.Pairwise (fun x y => lt y x = false) → (insD lt d l).Pairwise (fun x y => lt y x = false)
  | [], _ => List.pairwise_singleton _ _
  | e :: r, h => by
    unfold insD
    rw [List.pairwise_cons] at h
    split
    · rename_i hde
      refine List.pairwise_cons.mpr ⟨fun z hz => ?_, List.pairwise_cons.mpr h⟩
      have h1 : lt e d = false := O.asym d e hde
      rcases List.mem_cons.mp hz with e1 | hz
      · rw [e1]; exact h1
      · exact O.tr d e z h1 (h.1 z hz)
    · rename_i hde
      have hde : lt d e = false := by simpa using hde
      refine List.pairwise_cons.mpr ⟨fun z hz => ?_, insD_sorted O d r h.2⟩
      rcases List.mem_cons.mp ((insD_perm lt d r).mem_iff.mp hz) with e1 | hz
      · rw [e1]; exact hde
      · exact h.1 z hz
theorem sortD_sorted {lt : D → D → Bool} (O : SrtO.Swo lt) (l : List D) : (sortD lt l).Pairwise (fun x y => lt y x = false) := by
  have key : ∀ (l acc : List D), acc.Pairwise (fun x y => lt y x = false) → (l.foldl (fun acc d => insD lt d acc) acc).Pairwise (fun x y => lt y x = false) := by
    intro l
    induction l with
    | nil => intro acc h; exact h
    | cons d r ih => intro acc h; exact ih _ (insD_sorted O d acc h)
  exact key l [] List.Pairwise.nil
theorem ltL_trans {a b c : Wd} (h : ltL b a = false) (g : ltL c b = false) : ltL c a = false := by
  unfold ltL at *
  have h := of_decide_eq_false h
  have g := of_decide_eq_false g
  exact decide_eq_false (List.not_lt.mpr (List.le_trans (List.not_lt.mp h) (List.not_lt.mp g)))
theorem ltL_asym {a b : Wd} (h : ltL a b = true) : ltL b a = false := by
  unfold ltL at *
  have h := of_decide_eq_true h
  exact decide_eq_false (List.lt_asymm h)
theorem ltL_anti {a b : Wd} (h : ltL a b = false) (g : ltL b a = false) : a = b := by
  unfold ltL at *
  have h := of_decide_eq_false h
  have g := of_decide_eq_false g
  exact List.le_antisymm (List.not_lt.mp g) (List.not_lt.mp h)
/-- the texts' order on the machine's values -/
def sv : Value → Wd
  | .str x _ => x.cps.toList
  | _ => []
def ltSv (v u : Value) : Bool := ltL (sv v) (sv u)
theorem swo_str : SrtO.Swo ltSv := ⟨fun x y h => ltL_asym h, fun x y z h g => ltL_trans h g⟩
theorem swo_cmpStr : SrtO.Swo (fun (x y : PySem.Str) => ltL x.cps.toList y.cps.toList) := ⟨fun x y h => ltL_asym h, fun x y z h g => ltL_trans h g⟩
section
variable {prog : Program} {w : World} {A : Around} {E : Value → Shared → Prop} {s : Shared}
theorem strs_in : ∀ {vs : List Value} {ss : List PySem.Str}, PyProof.Rows.StrsAre vs ss → ∀ v ∈ vs, ∃ i t, v = Value.str i t
  | _, _, .nil, v, h => absurd h (by simp)
  | _, _, .cons n t r, v, h => by
    rcases List.mem_cons.mp h with e | h
    · exact ⟨n, t, e⟩
    · exact strs_in r v h
theorem str_cmp {vs : List Value} {ss : List PySem.Str} (hI : PyProof.Rows.StrsAre vs ss) : SrtO.Cmp prog w A s PyProof.Rows.oneType' (fun p => p.1 ∈ vs) (SrtO.lt2 ltSv) := by
  intro p q hm hm'
  obtain ⟨a, t, e⟩ := strs_in hI _ hm
  obtain ⟨b, u, e'⟩ := strs_in hI _ hm'
  show wpAny (model prog w) A (PyProof.Rows.keyLt' PyProof.Rows.oneType' p.1 q.1) (fun r s' => s' = s ∧ r = ltSv p.1 q.1) (fun _ _ => False) s
  rw [e, e', PyProof.Rows.keyLt'_oneType]
  exact PyProof.Rows.oneLt_str ⟨rfl, rfl⟩
theorem strs_sortable {a : Addr} {vs : List Value} {ss : List PySem.Str} (hI : PyProof.Rows.StrsAre vs ss) (h2 : 2 ≤ vs.length) : SrtO.SortableO prog w A s a vs ltSv := by
  intro h' _
  refine ⟨PyProof.Rows.oneType', fun Q E hq => ?_, str_cmp hI⟩
  match vs, hI, h2 with
  | v1 :: v2 :: rest, hI, _ =>
    rw [PyProof.Rows.keyKind_strs hI]
    exact wpAny_pure hq
  | [], _, h => exact absurd h (by decide)
  | [v], _, h => exact absurd h (by simp)
end
/-- the texts of values -/
def strOf : Value → PySem.Str
  | .str x _ => x
  | _ => Str.empty
theorem strs_of : ∀ {vs : List Value}, (∀ v ∈ vs, ∃ i t, v = Value.str i t) → PyProof.Rows.StrsAre vs (vs.map strOf)
  | [], _ => .nil
  | v :: vs, h => by
    obtain ⟨i, t, e⟩ := h v List.mem_cons_self
    subst e
    exact .cons i t (strs_of fun u hu => h u (List.mem_cons_of_mem _ hu))
theorem of_strs : ∀ {vs : List Value} {ss : List PySem.Str}, PyProof.Rows.StrsAre vs ss → vs.map strOf = ss
  | _, _, .nil => rfl
  | _, _, .cons n t r => congrArg (n :: ·) (of_strs r)
theorem swo_cStr : SrtO.Swo cmpStr := ⟨fun x y h => ltL_asym h, fun x y z h g => ltL_trans h g⟩
theorem swo_cInt : SrtO.Swo cmpInt := by
  refine ⟨fun x y h => ?_, fun x y z h g => ?_⟩
  · have h := of_decide_eq_true (p := ik x < ik y) h
    exact decide_eq_false (p := ik y < ik x) (by omega)
  · have h := of_decide_eq_false (p := ik y < ik x) h
    have g := of_decide_eq_false (p := ik z < ik y) g
    exact decide_eq_false (p := ik z < ik x) (by omega)
theorem sortD_strs {ss tt : List PySem.Str} (p : tt.Perm ss) (h : tt.Pairwise fun x y => ltL y.cps.toList x.cps.toList = false) : tt.map PyData.str = sortD cmpStr (ss.map PyData.str) := by
  refine sort_unique (lt := cmpStr) ((p.map _).trans (sortD_perm cmpStr _).symm) (List.pairwise_map.mpr h) (sortD_sorted swo_cStr _) fun a ha b hb h1 h2 => ?_
  obtain ⟨x, _, rfl⟩ := List.mem_map.mp ha
  obtain ⟨y, _, rfl⟩ := List.mem_map.mp hb
  rw [TL.ext_tl (ltL_anti h1 h2)]
theorem sortD_ints {ss tt : List Int} (p : tt.Perm ss) (h : tt.Pairwise fun x y => x ≤ y) : tt.map PyData.int = sortD cmpInt (ss.map PyData.int) := by
  refine sort_unique (lt := cmpInt) ((p.map _).trans (sortD_perm cmpInt _).symm) (List.pairwise_map.mpr (h.imp fun {x y} z => decide_eq_false (p := y < x) (by omega))) (sortD_sorted swo_cInt _) fun a ha b hb h1 h2 => ?_
  obtain ⟨x, _, rfl⟩ := List.mem_map.mp ha
  obtain ⟨y, _, rfl⟩ := List.mem_map.mp hb
  have h1 := of_decide_eq_false (p := x < y) h1
  have h2 := of_decide_eq_false (p := y < x) h2
  rw [show x = y by omega]
theorem isStr_map : ∀ {l : List D}, l.all isStr = true → ∃ ss : List PySem.Str, l = ss.map PyData.str
  | [], _ => ⟨[], rfl⟩
  | d :: r, h => by
    rw [List.all_cons, Bool.and_eq_true] at h
    obtain ⟨ss, rfl⟩ := isStr_map h.2
    cases d <;> first | exact ⟨_ :: ss, rfl⟩ | cases h.1
theorem isInt_map : ∀ {l : List D}, l.all isInt = true → ∃ ss : List Int, l = ss.map PyData.int
  | [], _ => ⟨[], rfl⟩
  | d :: r, h => by
    rw [List.all_cons, Bool.and_eq_true] at h
    obtain ⟨ss, rfl⟩ := isInt_map h.2
    cases d <;> first | exact ⟨_ :: ss, rfl⟩ | cases h.1

/-! ### what is handed to a built-in -/
def RpBL (F H : Hp) (R : RA) : List D → List V → Prop
  | [], [] => True
  | d :: ds, v :: vs => RpB F H R d v ∧ RpBL F H R ds vs
  | _, _ => False
theorem RpBL.nil {F H : Hp} {R : RA} {vs : List V} (h : RpBL F H R [] vs) : vs = [] := by
  cases vs with
  | nil => rfl
  | cons v vs => exact h.elim
theorem RpBL.cons {F H : Hp} {R : RA} {d : D} {ds : List D} {vs : List V} (h : RpBL F H R (d :: ds) vs) : ∃ v ws, vs = v :: ws ∧ RpB F H R d v ∧ RpBL F H R ds ws := by
  cases vs with
  | nil => exact h.elim
  | cons v vs => exact ⟨v, vs, rfl, h.1, h.2⟩
theorem RpBL.one {F H : Hp} {R : RA} {d : D} {vs : List V} (h : RpBL F H R [d] vs) : ∃ v, vs = [v] ∧ RpB F H R d v := by
  obtain ⟨v, ws, rfl, h1, h2⟩ := h.cons
  rw [h2.nil]
  exact ⟨v, rfl, h1⟩
theorem RpBL.two {F H : Hp} {R : RA} {d e : D} {vs : List V} (h : RpBL F H R [d, e] vs) : ∃ v u, vs = [v, u] ∧ RpB F H R d v ∧ RpB F H R e u := by
  obtain ⟨v, ws, rfl, h1, h2⟩ := h.cons
  obtain ⟨u, rfl, h3⟩ := h2.one
  exact ⟨v, u, rfl, h1, h3⟩
def rF (o : List D → Option D) : List V → Hp → VK → Prop := fun vs H Q => ∃ F R ds r, SubF F H ∧ RpBL F H R ds vs ∧ o ds = some r ∧ Ans F H r Q
section
variable {X : Cx}
theorem len_ok (c : CxR X) : CallR X (.builtin "len") (rF lenB) := by
  intro pins s σ H vs us Q I r h
  obtain ⟨F, R, ds, d, sF, hx, ho, a⟩ := h
  unfold lenB at ho
  split at ho
  · obtain ⟨v, rfl, hv⟩ := hx.one
    cases hv.str
    split at ho
    · cases ho
      exact call_len_str pins s σ H _ us Q I r ⟨_, rfl, by assumption, a.same sF (.int _)⟩
    · cases ho
  · obtain ⟨v, rfl, hv⟩ := hx.one
    obtain ⟨p, xs, rfl, hp, rp⟩ := hv.list sF
    cases ho
    refine call_len_seq pins s σ H _ us Q I r ⟨p, xs, rfl, .inl (SqL.of hp), ?_⟩
    rw [← rp.length]
    exact a.same sF (.int _)
  · obtain ⟨v, rfl, hv⟩ := hx.one
    obtain ⟨p, xs, rfl, _, hp, rp⟩ := hv.tup sF
    cases ho
    refine call_len_seq pins s σ H _ us Q I r ⟨p, xs, rfl, .inr (SqT.of hp), ?_⟩
    rw [← rp.length]
    exact a.same sF (.int _)
  · obtain ⟨v, rfl, hv⟩ := hx.one
    obtain ⟨p, rfl, hd⟩ := hv.dict sF
    cases ho
    rw [Vals.ref1 r]
    rcases hd with ⟨kvs, rd, rk⟩ | ⟨kvs, rd, rk⟩
    · refine d_len I rd fun t s' I' => ⟨.int _, H, I', ⟨_, rfl⟩, ?_⟩
      rw [← rk.length]
      exact a.same sF (.int _)
    · obtain ⟨z, hd, ys, rel, dd⟩ := dt_rd I.hok rd
      have hl : kvs.length = ys.length := Paired.length rel
      refine call_len_dictH hd dd (by rw [← hl]; rw [sizeLine_eq] at z; omega) ?_
      rw [← hl, ← rk.length]
      exact ⟨.int _, H, I.tok _, ⟨_, rfl⟩, a.same sF (.int _)⟩
  · cases ho
theorem tuple_ok (c : CxR X) : CallR X (.type "tuple") (rF tupleB) := by
  intro pins s σ H vs us Q I r h
  obtain ⟨F, R, ds, d, sF, hx, ho, a⟩ := h
  unfold tupleB at ho
  split at ho
  · obtain ⟨v, rfl, hv⟩ := hx.one
    obtain ⟨p, xs, rfl, hp, rp⟩ := hv.list sF
    cases ho
    exact call_tuple_of pins s σ H _ us Q I r ⟨p, xs, rfl, .inl ⟨SqL.of hp, fun t nt => a.newT sF rp nt⟩⟩
  · obtain ⟨v, rfl, hv⟩ := hx.one
    obtain ⟨p, xs, rfl, ep, hp, rp⟩ := hv.tup sF
    cases ho
    exact call_tuple_of pins s σ H _ us Q I r ⟨p, xs, rfl, .inr ⟨SqT.of hp, a.same sF (.tup ep rp)⟩⟩
  · cases ho
theorem list_ok (c : CxR X) : CallR X (.type "list") (rF listB) := by
  intro pins s σ H vs us Q I r h
  obtain ⟨F, R, ds, d, sF, hx, ho, a⟩ := h
  unfold listB at ho
  split at ho
  · obtain ⟨v, rfl, hv⟩ := hx.one
    obtain ⟨p, xs, rfl, hp, rp⟩ := hv.list sF
    cases ho
    exact call_list_of pins s σ H _ us Q I r ⟨p, xs, rfl, .inl (SqL.of hp), fun t nt => a.newL sF rp nt⟩
  · obtain ⟨v, rfl, hv⟩ := hx.one
    obtain ⟨p, xs, rfl, ep, hp, rp⟩ := hv.tup sF
    cases ho
    exact call_list_of pins s σ H _ us Q I r ⟨p, xs, rfl, .inr (SqT.of hp), fun t nt => a.newL sF rp nt⟩
  · cases ho
theorem sum_tup {prog : Program} {w : World} {A : Around} {E : Value → Shared → Prop} {s : Shared} {l : Addr} {its : List Value} {ns : List Int} {Q : Value → Shared → Prop} (hh : A.handled = none) (hl : PyProof.Rows.IsTup s.heap l its.toArray)
    (hi : PyProof.Rows.IntsAre its ns) (h : ∀ h' tk t', (∀ b o, s.heap.get? b = some o → h'.get? b = some o) → Q (.int ns.sum t') { s with heap := h', toks := tk }) :
    wpAny (model prog w) A (call (.builtin "sum") [.ref l]) Q E s := by
  obtain ⟨xs, e⟩ := hi.allInts.items
  have hn : numsOf (intItems xs).toList = ns := by rw [← e]; exact hi.numsOf
  rw [nums_intItems] at hn
  have hlt : l < s.heap.objs.size := hl.lt
  have hT : s.heap.IsTuple l its.toArray := hl
  rw [e] at hT
  refine call_sum_walkG (wpAny_pyIter_tuple hT ?_)
  refine ⟨s.heap.objs.size, _, _, _, _, _, numAt xs, rfl, Walks.tuple (A := A.in1) hh _ l (Nat.ne_of_lt hlt) (intItems xs), ⟨⟨_, Heap.get?_push_size _ rfl, rfl, rfl⟩, hT.push _⟩, fun b hb => ?_, fun _ _ => intItems_at, fun h' tk t' hk => ?_⟩
  · show b < (s.heap.push _).objs.size
    rw [Heap.size_push]
    have e' : b = s.heap.objs.size ∨ b = l := by simpa using hb
    rcases e' with z | z
    · rw [z]; exact Nat.lt_succ_self _
    · rw [z]; exact Nat.lt_succ_of_lt hlt
  · have q := h h' tk t' fun b o eb => hk b o (by
      have : b < s.heap.objs.size := Heap.lt_size eb
      simp; exact Nat.ne_of_lt this) (Heap.get?_push_of_some _ eb)
    rw [← hn] at q
    have e2 : (intItems xs).size = xs.size := by simp [intItems]
    rw [e2]
    rw [preSum_eq, List.take_of_length_le (by simp)]
    exact q
theorem sum_ok (c : CxR X) : CallR X (.builtin "sum") (rF sumB) := by
  intro pins s σ H vs us Q I r h
  obtain ⟨F, R, ds, d, sF, hx, ho, a⟩ := h
  unfold sumB at ho
  split at ho
  · obtain ⟨v, rfl, hv⟩ := hx.one
    obtain ⟨p, xs, rfl, hp, rp⟩ := hv.list sF
    obtain ⟨ns, h1, rfl⟩ := Option.map_eq_some_iff.mp ho
    rw [allInt h1] at rp
    rw [rp.ints] at hp
    exact cr_sum c.calm pins s σ H _ us Q I r ⟨p, ns, rfl, SqL.of hp, a.same sF (.int _)⟩
  · obtain ⟨v, rfl, hv⟩ := hx.one
    obtain ⟨p, xs, rfl, _, hp, rp⟩ := hv.tup sF
    obtain ⟨ns, h1, rfl⟩ := Option.map_eq_some_iff.mp ho
    rw [allInt h1] at rp
    rw [rp.ints] at hp
    obtain ⟨its, rv, hT, _⟩ := I.tuple (SqT.of hp)
    rw [Vals.ref1 r]
    exact sum_tup (I.ok.hd c.calm) hT rv.ints fun h' tk t' hk => ⟨.int _, H, I.kept hk, ⟨_, rfl⟩, a.same sF (.int _)⟩
  · cases ho
theorem int_ok (c : CxR X) : CallR X (.type "int") (rF intB) := by
  intro pins s σ H vs us Q I r h
  obtain ⟨F, R, ds, d, sF, hx, ho, a⟩ := h
  unfold intB at ho
  split at ho
  · obtain ⟨v, rfl, hv⟩ := hx.one
    cases hv.int; cases ho
    exact call_int1 pins s σ H _ us Q I r (.inl ⟨_, rfl, a.same sF (.int _)⟩)
  · obtain ⟨v, rfl, hv⟩ := hx.one
    cases hv.bool; cases ho
    exact call_int1 pins s σ H _ us Q I r (.inr ⟨_, rfl, a.same sF (.int _)⟩)
  · cases ho
theorem abs_ok (c : CxR X) : CallR X (.builtin "abs") (rF absB) := by
  intro pins s σ H vs us Q I r h
  obtain ⟨F, R, ds, d, sF, hx, ho, a⟩ := h
  unfold absB at ho
  split at ho
  · obtain ⟨v, rfl, hv⟩ := hx.one
    cases hv.int; cases ho
    exact call_abs pins s σ H _ us Q I r ⟨_, rfl, a.same sF (.int _)⟩
  · cases ho
theorem max_ok (c : CxR X) : CallR X (.builtin "max") (rF maxB) := by
  intro pins s σ H vs us Q I r h
  obtain ⟨F, R, ds, d, sF, hx, ho, a⟩ := h
  unfold maxB at ho
  split at ho
  · obtain ⟨v, u, rfl, hv, hu⟩ := hx.two
    cases hv.int; cases hu.int; cases ho
    exact call_max2 c.calm pins s σ H _ us Q I r ⟨_, _, rfl, a.same sF (.int _)⟩
  · cases ho
theorem min_ok (c : CxR X) : CallR X (.builtin "min") (rF minB) := by
  intro pins s σ H vs us Q I r h
  obtain ⟨F, R, ds, d, sF, hx, ho, a⟩ := h
  unfold minB at ho
  split at ho
  · obtain ⟨v, u, rfl, hv, hu⟩ := hx.two
    cases hv.int; cases hu.int; cases ho
    exact call_min2 c.calm pins s σ H _ us Q I r ⟨_, _, rfl, a.same sF (.int _)⟩
  · cases ho
theorem any_ok (c : CxR X) : CallR X (.builtin "any") (rF anyB) := by
  intro pins s σ H vs us Q I r h
  obtain ⟨F, R, ds, d, sF, hx, ho, a⟩ := h
  unfold anyB at ho
  split at ho
  · obtain ⟨v, rfl, hv⟩ := hx.one
    obtain ⟨p, xs, rfl, hp, rp⟩ := hv.list sF
    obtain ⟨ns, h1, rfl⟩ := Option.map_eq_some_iff.mp ho
    rw [allBool h1] at rp
    rw [rp.bools] at hp
    exact cr_any c.calm pins s σ H _ us Q I r ⟨p, ns, rfl, SqL.of hp, a.same sF (.bl _)⟩
  · cases ho
theorem all_ok (c : CxR X) : CallR X (.builtin "all") (rF allB) := by
  intro pins s σ H vs us Q I r h
  obtain ⟨F, R, ds, d, sF, hx, ho, a⟩ := h
  unfold allB at ho
  split at ho
  · obtain ⟨v, rfl, hv⟩ := hx.one
    obtain ⟨p, xs, rfl, hp, rp⟩ := hv.list sF
    obtain ⟨ns, h1, rfl⟩ := Option.map_eq_some_iff.mp ho
    rw [allBool h1] at rp
    rw [rp.bools] at hp
    exact cr_all c.calm pins s σ H _ us Q I r ⟨p, ns, rfl, SqL.of hp, a.same sF (.bl _)⟩
  · cases ho
theorem sorted_ok (c : CxR X) : CallR X (.builtin "sorted") (rF sortedB) := by
  intro pins s σ H vs us Q I r h
  obtain ⟨F, R, ds, d, sF, hx, ho, a⟩ := h
  unfold sortedB at ho
  split at ho
  · rename_i l
    obtain ⟨v, rfl, hv⟩ := hx.one
    obtain ⟨p, xs, rfl, hp, rp⟩ := hv.list sF
    unfold sortedD at ho
    split at ho
    · rename_i hz
      split at ho
      · rename_i hs
        obtain ⟨ss, rfl⟩ := isStr_map hs
        cases ho
        rw [rp.strs] at hp
        obtain ⟨its, rv, hl, hz'⟩ := I.list (SqL.of hp)
        rw [Vals.ref1 r]
        have hi := rv.strs
        have hlen0 := rv.length
        rw [List.length_map] at hlen0
        refine SrtO.sorted_ord swo_str hl.isList (by rw [← hlen0]; rw [List.length_map] at hz; exact hz) (fun h2 h₁ a' _ _ => strs_sortable hi h2) fun out h1 h2 => ?_
        have ho := strs_of (vs := out) fun v hv => strs_in hi v (h2.perm.mem_iff.mp hv)
        have hp2 : (out.map strOf).Perm ss := by
          have q := h2.perm.map strOf
          rw [of_strs hi] at q
          exact q
        have hs2 : (out.map strOf).Pairwise fun x y => ltL y.cps.toList x.cps.toList = false := by
          refine List.pairwise_map.mpr (List.Pairwise.imp_of_mem (fun {x y} mx my z => ?_) h1)
          obtain ⟨a1, t1, rfl⟩ := strs_in hi x (h2.perm.mem_iff.mp mx)
          obtain ⟨a2, t2, rfl⟩ := strs_in hi y (h2.perm.mem_iff.mp my)
          exact z
        have e := sortD_strs hp2 hs2
        obtain ⟨ep, he'⟩ := PyProof.Rows.sortedAll_at s.heap its out.toArray
        have hlen : ((out.map strOf).map V.str).length ≤ sizeLine := by
          rw [List.length_map, hp2.length_eq]
          rw [List.length_map] at hz
          exact hz
        refine ⟨.ref _, upd H (s.heap.objs.size + 1) (.lst ((out.map strOf).map V.str)), I.laid (t' := s.toks) (fun _ _ => PyProof.Rows.sortedAll_old) (Nat.le_succ _) ⟨hlen, out, ep, vals_of_strs ho, he'⟩, rfl, ?_⟩
        rw [← e] at a
        exact a.newL sF (RpL.of_strs _) (I.hok.fresh (Nat.le_succ _))
      · split at ho
        · rename_i hs
          obtain ⟨ss, rfl⟩ := isInt_map hs
          cases ho
          rw [rp.ints] at hp
          refine cr_sortedI pins s σ H _ us Q I r ⟨p, ss, rfl, SqL.of hp, fun ns' t h1 h2 nt => ?_⟩
          rw [← sortD_ints h1 h2] at a
          exact a.newL sF (RpL.of_ints _) nt
        · cases ho
    · cases ho
  · cases ho
theorem repr_ok (c : CxR X) : CallR X (.builtin "repr") (rF reprB) := by
  intro pins s σ H vs us Q I r h
  obtain ⟨F, R, ds, d, sF, hx, ho, a⟩ := h
  unfold reprB at ho
  split at ho
  · rename_i e
    obtain ⟨v, rfl, hv⟩ := hx.one
    split at ho
    · rename_i k
      obtain ⟨k1, k2, k3⟩ := k
      cases ho
      have hd := SeqAt.depth_of_shaped k2
      have hu := c.units
      obtain ⟨u, rfl, rv⟩ := r.one
      obtain ⟨as, rd⟩ := reads_B I sF hv (SeqAt.canLay_of_shaped k2) rv
      have hnd : e.hasDict = true → sysModules ∉ as := PyData.noDict_hsm (PyData.hasDict_of_canLay e (SeqAt.canLay_of_shaped k2))
      have fin : ∀ h' t tk, (∀ b o, s.heap.get? b = some o → h'.get? b = some o) → EP X pins σ Q (.str e.shown t) { s with heap := h', toks := tk } := fun h' t tk hk =>
        ⟨.str e.shown, H, I.kept hk, ⟨_, rfl⟩, a.same sF (.str _)⟩
      cases rd with
      | none => exact PySem.P.repr_of_none (fin _ _ _ fun _ _ z => z)
      | bool b => exact PySem.P.repr_of_bool (fin _ _ _ fun _ _ z => z)
      | int i t => exact PySem.P.repr_of_int (by simpa [PyData.showable] using k1) (fin _ _ _ fun _ _ z => z)
      | str x t => exact PySem.P.repr_of_str (fin _ _ _ fun _ _ z => z) (by simpa [PyData.shown] using k3)
      | list h1 h2 h3 h4 => exact repr_of_reads' (.list h1 h2 h3 h4) k1 hnd c.guards (by omega) (fun _ _ z => z) (fun h' t tk hk => fin h' t tk hk) k3
      | tuple h1 h2 h3 h4 => exact repr_of_reads' (.tuple h1 h2 h3 h4) k1 hnd c.guards (by omega) (fun _ _ z => z) (fun h' t tk hk => fin h' t tk hk) k3
      | dict h1 h2 h3 h4 h5 => exact repr_of_reads' (.dict h1 h2 h3 h4 h5) k1 hnd c.guards (by omega) (fun _ _ z => z) (fun h' t tk hk => fin h' t tk hk) k3
    · cases ho
  · cases ho

/-! ### dict of pairs -/
theorem putD_K {F : Hp} {d : D} {v : V} (r : Rp F d v) (k : Key) : ∀ {ps : List (D × D)} {kvs : List (Key × V)}, RpK F ps kvs → RpK F (putD ps (keyD k) d) (putK kvs k v) := by
  intro ps kvs h
  have hk : hasD ps (keyD k) = (kvs.any fun kv => decide (kv.1 = k)) := by
    unfold hasD
    rw [valV_any]
    rcases h.find k with ⟨h1, h2⟩ | ⟨d', v', h1, h2, _⟩
    · rw [h1, h2]; rfl
    · rw [h1, h2]; rfl
  unfold putD putK
  rw [hk]
  split
  · have key : ∀ {ps : List (D × D)} {kvs : List (Key × V)}, RpK F ps kvs →
        RpK F (ps.map fun p => if keyEq p.1 (keyD k) = true then (p.1, d) else p) (kvs.map fun kv => if kv.1 = k then (kv.1, v) else kv) := by
      intro ps
      induction ps with
      | nil => intro kvs h; cases h; exact .nil
      | cons p ps ih =>
        intro kvs h
        cases h with
        | @cons k' d' v' _ kvs r' t =>
          rw [List.map_cons, List.map_cons]
          simp only [keyEq_K, decide_eq_true_eq]
          by_cases e : k' = k
          · rw [if_pos e, if_pos e]; exact .cons r (ih t)
          · rw [if_neg e, if_neg e]; exact .cons r' (ih t)
    exact key h
  · have key : ∀ {ps : List (D × D)} {kvs : List (Key × V)}, RpK F ps kvs → RpK F (ps ++ [(keyD k, d)]) (kvs ++ [(k, v)]) := by
      intro ps
      induction ps with
      | nil => intro kvs h; cases h; exact .cons r .nil
      | cons p ps ih =>
        intro kvs h
        cases h with
        | cons r' t => exact .cons r' (ih t)
    exact key h
theorem merge_K {F : Hp} : ∀ {ps : List (D × D)} {kvs : List (Key × V)}, RpK F ps kvs → ∀ {acc : List (D × D)} {bcc : List (Key × V)}, RpK F acc bcc →
    RpK F (ps.foldl (fun acc p => putD acc p.1 p.2) acc) (mergeK bcc kvs)
  | _, _, .nil, acc, bcc, h => h
  | _, _, .cons (k := k) (d := d) (v := v) r t, acc, bcc, h => merge_K t (putD_K r k h)
theorem pairs_K {F : Hp} : ∀ {l : List D} {ps : List (D × D)} {xs : List V}, allOf asPair l = some ps → (ps.all fun p => isKey p.1) = true → RpL F l xs →
    ∃ (qs : List Addr) (kvs : List (Key × V)), xs = qs.map V.ref ∧ RpK F ps kvs ∧ Paired (fun q (kv : Key × V) => F q = some (.tup [kV kv.1, kv.2])) qs kvs
  | [], _, _, e, _, .nil => by cases e; exact ⟨[], [], rfl, .nil, .nil⟩
  | d :: l, ps, _, e, hk, .cons (v := v) r t => by
    obtain ⟨p, h1, h2⟩ := Option.bind_eq_some_iff.mp e
    obtain ⟨ps', h3, rfl⟩ := Option.map_eq_some_iff.mp h2
    rw [List.all_cons, Bool.and_eq_true] at hk
    obtain ⟨qs, kvs, rfl, h5, h6⟩ := pairs_K h3 hk.2 t
    unfold asPair at h1
    split at h1
    · cases h1
      obtain ⟨a, xs, rfl, ea, ra⟩ := r.tup_inv
      cases ra with
      | cons r1 ra =>
        cases ra with
        | cons r2 ra =>
          cases ra
          obtain ⟨k, e⟩ := key_of hk.1
          have e : _ = keyD k := e
          subst e
          rw [keyD_V r1] at ea
          exact ⟨a :: qs, (k, _) :: kvs, rfl, .cons r2 h5, .cons ea h6⟩
    · cases h1
theorem dict_ok (c : CxR X) : CallR X (.type "dict") (rF dictB) := by
  intro pins s σ H vs us Q I r h
  obtain ⟨F, R, ds, d, sF, hx, ho, a⟩ := h
  unfold dictB at ho
  split at ho
  · obtain ⟨v, rfl, hv⟩ := hx.one
    obtain ⟨p, xs, rfl, hp, rp⟩ := hv.list sF
    obtain ⟨ps, h1, h2⟩ := Option.bind_eq_some_iff.mp ho
    split at h2
    · rename_i hk
      cases h2
      obtain ⟨qs, kvs, rfl, h5, h6⟩ := pairs_K h1 hk rp
      refine call_dictP c.calm pins s σ H _ us Q I r ⟨p, qs, kvs, rfl, SqL.of hp, Paired.mapP h6 fun q kv e => SqT.of (sF.tup e), fun t nt => a.newK sF (merge_K h5 .nil) nt⟩
    · cases h2
  · cases ho
/-! ### methods, isinstance -/
def rM (o : D → List D → Option D) : V → List V → Hp → VK → Prop := fun x vs H Q => ∃ F R d ds r, SubF F H ∧ RpB F H R d x ∧ RpBL F H R ds vs ∧ o d ds = some r ∧ Ans F H r Q
theorem join_ok (c : CxR X) : MtR X "str.join" (rM joinM) := by
  intro pins s σ H x vs v us Q I rx r h
  obtain ⟨F, R, e, ds, d, sF, hx, hs, ho, a⟩ := h
  unfold joinM at ho
  split at ho
  · cases hx.str
    obtain ⟨v, rfl, hv⟩ := hs.one
    obtain ⟨p, xs, rfl, hp, rp⟩ := hv.list sF
    obtain ⟨ys, h1, h2⟩ := Option.bind_eq_some_iff.mp ho
    split at h2
    · cases h2
      rw [allStr h1] at rp
      rw [rp.strs] at hp
      refine mt_join pins s σ H _ _ v us Q I rx r ⟨_, p, ys, rfl, rfl, .inl (SqL.of hp), by assumption, ?_⟩
      rw [TL.join_eq]
      exact a.same sF (.str _)
    · cases h2
  · cases hx.str
    obtain ⟨v, rfl, hv⟩ := hs.one
    obtain ⟨p, xs, rfl, _, hp, rp⟩ := hv.tup sF
    obtain ⟨ys, h1, h2⟩ := Option.bind_eq_some_iff.mp ho
    split at h2
    · cases h2
      rw [allStr h1] at rp
      rw [rp.strs] at hp
      refine mt_join pins s σ H _ _ v us Q I rx r ⟨_, p, ys, rfl, rfl, .inr (SqT.of hp), by assumption, ?_⟩
      rw [TL.join_eq]
      exact a.same sF (.str _)
    · cases h2
  · cases ho
theorem un_negD : UnR X (unaryOp .USub) (fun x H Q => ∃ F R d r, SubF F H ∧ RpB F H R d x ∧ negD d = some r ∧ Ans F H r Q) := by
  intro pins s σ H x v Q I rx h
  obtain ⟨F, R, d, r, sF, hx, ho, a⟩ := h
  unfold negD at ho
  split at ho
  · cases hx.int; cases ho
    exact un_neg pins s σ H _ v Q I rx ⟨_, rfl, a.same sF (.int _)⟩
  · cases ho
end
end PV
set_option maxHeartbeats 1000000
namespace PV
open PySem L2
/-! ### the program's text against the small language -/
structure PInfo where
  fds : List Fd
  glo : List (PySem.Str × D)
  blt : List PySem.Str
  nm : RN
  kws : List (Nat × List PySem.Str × List Nat)
  mkr : Option (PySem.Str × (List Int → Rl))
def constD : Const → Option D
  | .none => some .none
  | .bool b => some (.bool b)
  | .int i => some (.int i)
  | .str s => some (.str s)
  | _ => none
def flatEq : D → D → Bool
  | .none, .none => true
  | .bool a, .bool b => a == b
  | .int a, .int b => a == b
  | .str a, .str b => decide (a = b)
  | _, _ => false
theorem flatEq_eq {a b : D} (h : flatEq a b = true) : a = b := by
  cases a <;> cases b <;> simp [flatEq] at h <;> first | rfl | (subst h; rfl)
def visB (sc : Scope) (y : PySem.Str) : Bool := match sc.names.lookup y with | some .local => true | some .cell => true | some .free => true | _ => false
def glB (sc : Scope) (y : PySem.Str) : Bool := match sc.names.lookup y with | some .globalImplicit => true | _ => false
def locB (sc : Scope) (y : PySem.Str) : Bool := match sc.names.lookup y with | some .local => true | some .cell => true | _ => false
def okN (y : PySem.Str) : Bool := !(y == ("__debug__" : PySem.Str)) && !(y == ("__classdict__" : PySem.Str)) && !(y == ("__name__" : PySem.Str))
theorem visB_vis {sc : Scope} {y : PySem.Str} (h : visB sc y = true) : Vis sc y := by
  unfold visB at h
  split at h <;> first | exact .inl (by assumption) | exact .inr (.inl (by assumption)) | exact .inr (.inr (by assumption)) | cases h
theorem glB_gl {sc : Scope} {y : PySem.Str} (h : glB sc y = true) : sc.names.lookup y = some .globalImplicit := by
  unfold glB at h
  split at h <;> first | assumption | cases h
theorem locB_loc {sc : Scope} {y : PySem.Str} (h : locB sc y = true) : Loc sc y := by
  unfold locB at h
  split at h <;> first | exact .inl (by assumption) | exact .inr (by assumption) | cases h
def noSlice : Expr → Bool
  | .Slice .. => false
  | _ => true
def noSet : Expr → Bool
  | .Set .. => false
  | _ => true
def plainBase : Expr → Bool
  | .Call .. => false
  | _ => true
def isTupE : Expr → Bool
  | .Tuple .. => true
  | _ => false
def isBor : E → Bool
  | .bor _ => true
  | _ => false
def noBor : Es → Bool
  | .nil => true
  | .cons e l => !isBor e && noBor l
/-- the built-in functions: a function's name, or a type's -/
def biKind : String → Option Value
  | "len" => some (.builtin "len")
  | "tuple" => some (.type "tuple")
  | "list" => some (.type "list")
  | "sum" => some (.builtin "sum")
  | "sorted" => some (.builtin "sorted")
  | "int" => some (.type "int")
  | "abs" => some (.builtin "abs")
  | "max" => some (.builtin "max")
  | "min" => some (.builtin "min")
  | "any" => some (.builtin "any")
  | "all" => some (.builtin "all")
  | "repr" => some (.builtin "repr")
  | "dict" => some (.type "dict")
  | _ => none
def esLen : Es → Nat
  | .nil => 0
  | .cons _ l => esLen l + 1
/-- targets -/
inductive CkT (N : List PySem.Str) : Scope → (PySem.Str → Bool) → Tg → Expr → Prop
  | v {sc fn i y pos} : N[i]? = some y → Loc sc y → (fn y = true ∨ sc.names.lookup y = some .local) → CkT N sc fn (.v i) (.Name y pos)
  | t2 {sc fn a b x y k pos} : CkT N sc fn a x → CkT N sc fn b y → CkT N sc fn (.t2 a b) (.Tuple [x, y] k pos)
  | t3 {sc fn a b c x y z k pos} : CkT N sc fn a x → CkT N sc fn b y → CkT N sc fn c z → CkT N sc fn (.t3 a b c) (.Tuple [x, y, z] k pos)
mutual
/-- e is the expression's form in the small language -/
inductive CkE (P : PInfo) (N : List PySem.Str) : Scope → E → Expr → Prop
  | loc {sc i y pos} : N[i]? = some y → Vis sc y → okN y = true → CkE P N sc (.loc i) (.Name y pos)
  | bor {sc i y pos} : N[i]? = some y → Vis sc y → okN y = true → CkE P N sc (.bor i) (.Name y pos)
  | con {sc d c k pos} : constD c = some d → CkE P N sc (.con d) (.Constant c k pos)
  | glo {sc y d pos} : sc.names.lookup y = some .globalImplicit → (y, d) ∈ P.glo → okN y = true → CkE P N sc (.glo y d) (.Name y pos)
  | bin {sc o a b l r pos} : CkE P N sc a l → CkE P N sc b r → CkE P N sc (.bin o a b) (.BinOp l o r pos)
  | neg {sc a x pos} : CkE P N sc a x → CkE P N sc (.neg a) (.UnaryOp .USub x pos)
  | cmp {sc o a b l r pos} : CkE P N sc a l → CkE P N sc b r → noSet r = true → CkE P N sc (.cmp o a b) (.Compare l [o] [r] pos)
  | isN {sc a x k p2 pos} : CkE P N sc a x → CkE P N sc (.isN a) (.Compare x [.Is] [.Constant .none k p2] pos)
  | notN {sc a x k p2 pos} : CkE P N sc a x → CkE P N sc (.notN a) (.Compare x [.IsNot] [.Constant .none k p2] pos)
  | chn {sc o p a b c l m r pos} : CkE P N sc a l → CkE P N sc b m → CkE P N sc c r → noSet r = true → CkE P N sc (.chn o p a b c) (.Compare l [o, p] [m, r] pos)
  | and {sc a b x y rest pos} : CkE P N sc a x → CkB P N sc .And b (y :: rest) → isBor b = false → CkE P N sc (.and a b) (.BoolOp .And (x :: y :: rest) pos)
  | or {sc a b x y rest pos} : CkE P N sc a x → CkB P N sc .Or b (y :: rest) → isBor b = false → CkE P N sc (.or a b) (.BoolOp .Or (x :: y :: rest) pos)
  | not {sc a x pos} : CkE P N sc a x → CkE P N sc (.not a) (.UnaryOp .Not x pos)
  | ite {sc t a b x y z pos} : CkE P N sc t x → CkE P N sc a y → CkE P N sc b z → isBor a = false → isBor b = false → CkE P N sc (.ite t a b) (.IfExp x y z pos)
  | ix {sc a i x y pos} : CkE P N sc a x → CkE P N sc i y → noSlice y = true → CkE P N sc (.ix a i) (.Subscript x y pos)
  | sl {sc a lo hi x l h p2 pos} : CkE P N sc a x → CkO P N sc lo l → CkO P N sc hi h → CkE P N sc (.sl a lo hi) (.Subscript x (.Slice l h none p2) pos)
  | rev {sc a x k p1 p2 p3 pos} : CkE P N sc a x → CkE P N sc (.rev a) (.Subscript x (.Slice none none (some (.UnaryOp .USub (.Constant (.int 1) k p1) p2)) p3) pos)
  | tup {sc l xs k pos} : CkEs P N sc l xs → noBor l = true → CkE P N sc (.tup l) (.Tuple xs k pos)
  | lst {sc l xs pos} : CkEs P N sc l xs → noBor l = true → CkE P N sc (.lst l) (.List xs pos)
  | bi {sc f y v l x xs p pos} : y = PySem.Str.ofString f → sc.names.lookup y = some .globalImplicit → y ∈ P.blt → okN y = true → biKind f = some v → bootBuiltins y = some v → CkEs P N sc l (x :: xs) →
      CkE P N sc (.bi f l) (.Call (.Name y p) (x :: xs) [] pos)
  | join {sc o e x y apos pos} : CkE P N sc o x → CkE P N sc e y → (apos.endLine == pos.line) = true → plainBase x = true → CkE P N sc (.mt "join" o (.cons e .nil)) (.Call (.Attribute x "join" apos) [y] [] pos)
  | call {sc f fd l x xs p pos} : P.fds[f]? = some fd → sc.names.lookup fd.name = some .globalImplicit → okN fd.name = true → CkEs P N sc l (x :: xs) → noBor l = true → (x :: xs).length = fd.np →
      CkE P N sc (.call f l (List.range fd.np)) (.Call (.Name fd.name p) (x :: xs) [] pos)
  | call0 {sc f fd p pos} : P.fds[f]? = some fd → sc.names.lookup fd.name = some .globalImplicit → okN fd.name = true → fd.np = 0 → CkE P N sc (.call f .nil []) (.Call (.Name fd.name p) [] [] pos)
  | callk {sc f fd l kws ks q p pos} : P.fds[f]? = some fd → sc.names.lookup fd.name = some .globalImplicit → okN fd.name = true → CkK P N sc l kws ks → noBor l = true → (f, ks, q) ∈ P.kws → ks.length = fd.np → (permA q (List.range fd.np)).length = fd.np →
      CkE P N sc (.call f l q) (.Call (.Name fd.name p) [] kws pos)
  | cmpr {sc scope e t it k elt tg iter ifs pos} : CkI P N sc (isTupE tg) it iter → noSet iter = true → CkT N (relS scope sc) (fun x => scope.names.lookup x == some .cell) t tg → CkC P N (relS scope sc) k ifs → CkE P N (relS scope sc) e elt → isBor e = false →
      blkC N sc scope ((tgIx t).map fun i => (N.getD i Str.empty, i)) = true → (tgIx t).Nodup →
      CkE P N sc (.cmpr e t it k) (.ListComp elt [⟨tg, iter, ifs, 0⟩] scope pos)
inductive CkB (P : PInfo) (N : List PySem.Str) : Scope → BoolOp → E → List Expr → Prop
  | one {sc o e x} : CkE P N sc e x → CkB P N sc o e [x]
  | and {sc a b x y rest} : CkE P N sc a x → CkB P N sc .And b (y :: rest) → isBor b = false → CkB P N sc .And (.and a b) (x :: y :: rest)
  | or {sc a b x y rest} : CkE P N sc a x → CkB P N sc .Or b (y :: rest) → isBor b = false → CkB P N sc .Or (.or a b) (x :: y :: rest)
inductive CkK (P : PInfo) (N : List PySem.Str) : Scope → Es → List Keyword → List PySem.Str → Prop
  | nil {sc} : CkK P N sc .nil [] []
  | cons {sc e l n x pos kws ks} : CkE P N sc e x → CkK P N sc l kws ks → CkK P N sc (.cons e l) (⟨some n, x, pos⟩ :: kws) (n :: ks)
inductive CkO (P : PInfo) (N : List PySem.Str) : Scope → E → Option Expr → Prop
  | no {sc} : CkO P N sc .no none
  | some {sc e x} : CkE P N sc e x → CkO P N sc e (some x)
inductive CkC (P : PInfo) (N : List PySem.Str) : Scope → E → List Expr → Prop
  | no {sc} : CkC P N sc .no []
  | one {sc e x} : CkE P N sc e x → CkC P N sc e [x]
inductive CkEs (P : PInfo) (N : List PySem.Str) : Scope → Es → List Expr → Prop
  | nil {sc} : CkEs P N sc .nil []
  | cons {sc e l x xs} : CkE P N sc e x → CkEs P N sc l xs → CkEs P N sc (.cons e l) (x :: xs)
inductive CkI (P : PInfo) (N : List PySem.Str) : Scope → Bool → It → Expr → Prop
  | val {sc q e x} : CkE P N sc e x → CkI P N sc q (.val e) x
  | rng1 {sc q a p x pos} : sc.names.lookup ("range" : PySem.Str) = some .globalImplicit → ("range" : PySem.Str) ∈ P.blt → CkE P N sc a x → CkI P N sc q (.rng (.cons a .nil)) (.Call (.Name "range" p) [x] [] pos)
  | rng2 {sc q a b p x y pos} : sc.names.lookup ("range" : PySem.Str) = some .globalImplicit → ("range" : PySem.Str) ∈ P.blt → CkE P N sc a x → CkE P N sc b y → CkI P N sc q (.rng (.cons a (.cons b .nil))) (.Call (.Name "range" p) [x, y] [] pos)
  | rng3 {sc q a b d p x y z pos} : sc.names.lookup ("range" : PySem.Str) = some .globalImplicit → ("range" : PySem.Str) ∈ P.blt → CkE P N sc a x → CkE P N sc b y → CkE P N sc d z → CkI P N sc q (.rng (.cons a (.cons b (.cons d .nil)))) (.Call (.Name "range" p) [x, y, z] [] pos)
  | zip {sc a b p x z pos} : sc.names.lookup ("zip" : PySem.Str) = some .globalImplicit → ("zip" : PySem.Str) ∈ P.blt → CkE P N sc a x → CkE P N sc b z → CkI P N sc true (.zip a b) (.Call (.Name "zip" p) [x, z] [] pos)
  | enu {sc a p x pos} : sc.names.lookup ("enumerate" : PySem.Str) = some .globalImplicit → ("enumerate" : PySem.Str) ∈ P.blt → CkE P N sc a x → CkI P N sc true (.enu a) (.Call (.Name "enumerate" p) [x] [] pos)
end

/-! ### what holds between a def's names and their values -/
def ScrAt (K : PySem.W.Frag) (H : Hp) (R : RA) (a : Addr) (ns : List Int) : Prop :=
  (Rd H a (.lst (ns.map V.int)) ∧ ¬ inR R a) ∨ ∀ H : Hp, SqL K H a (ns.map V.int)
theorem ScrAt.sq {K : PySem.W.Frag} {H : Hp} {R : RA} {a : Addr} {ns : List Int} (h : ScrAt K H R a ns) : SqL K H a (ns.map V.int) := by
  rcases h with ⟨h, _⟩ | h
  · exact .inl h
  · exact h H
theorem ScrAt.ext {K : PySem.W.Frag} {F H F' H' : Hp} {R R' : RA} {a : Addr} {ns : List Int} (h : ScrAt K H R a ns) (e : Ext F H R F' H' R') : ScrAt K H' R' a ns := by
  rcases h with ⟨h, n⟩ | h
  · have n' : ¬ inR R' a := fun i => by
      rcases e.rn a i with z | z
      · exact n z
      · rcases h with h | ⟨o, h⟩ <;> (rw [z] at h; cases h)
    refine .inl ⟨?_, n'⟩
    rcases h with h | ⟨o, h⟩
    · exact .inl (e.keep _ _ h n')
    · exact .inr ⟨o, e.keep _ _ h n'⟩
  · exact .inr h
def SlOk (K : PySem.W.Frag) (F H H₀ : Hp) (R : RA) : Sl → Option (Option V) → Prop
  | .un, _ => True
  | .v d, x => ∃ v, x = some (some v) ∧ Rp F d v
  | .own d, x => ∃ p, x = some (some (.ref p)) ∧ OwnAt F H p d ∧ F p = none ∧ H₀ p = none ∧ ¬ inR R p
  | .rill, x => ∃ p, R = some p ∧ x = some (some (.ref p.1))
  | .scr ns, x => ∃ a, x = some (some (.ref a)) ∧ ScrAt K H R a ns ∧ (H₀ a = none → ∀ H : Hp, SqL K H a (ns.map V.int))
theorem SlOk.ext {K : PySem.W.Frag} {F H F' H' H₀ : Hp} {R R' : RA} {s : Sl} {x : Option (Option V)} (h : SlOk K F H H₀ R s x) (e : Ext F H R F' H' R') : SlOk K F' H' H₀ R' s x := by
  cases s with
  | un => trivial
  | v d => obtain ⟨v, h1, h2⟩ := h; exact ⟨v, h1, h2.mono e.fz⟩
  | own d =>
    obtain ⟨p, h1, h2, h3, h4, h5⟩ := h
    obtain ⟨o, ho⟩ := h2.some
    have n' : ¬ inR R' p := fun i => by
      rcases e.rn p i with z | z
      · exact h5 z
      · rw [ho] at z; cases z
    refine ⟨p, h1, h2.mono e.fz fun o q => e.keep _ _ q n', ?_, h4, n'⟩
    cases q : F' p with
    | none => rfl
    | some o' =>
      rcases e.new p o' q with z | z
      · rw [h3] at z; cases z
      · rw [ho] at z; cases z
  | rill =>
    obtain ⟨p, h1, h2⟩ := h
    refine ⟨p, ?_, h2⟩
    rcases e.rr with r | r
    · rw [r] at h1; cases h1
    · rw [r]; exact h1
  | scr ns => obtain ⟨a, h1, h2, h3⟩ := h; exact ⟨a, h1, h2.ext e, h3⟩
structure Hold (nm : RN) (K : PySem.W.Frag) (F₀ H₀ : Hp) (R₀ : RA) (F H : Hp) (R : RA) (ρ : List Sl) (g : G) (σ : St) : Prop where
  ext : Ext F₀ H₀ R₀ F H R
  rill : RillAt nm R g H
  rill0 : ∀ a, inR R₀ a → ∃ o, H₀ a = some o
  slot : ∀ (i : Nat) s, ρ[i]? = some s → SlOk K F H H₀ R s σ[i]?
  dist : ∀ (i j : Nat) d e p, i ≠ j → ρ[i]? = some (.own d) → ρ[j]? = some (.own e) → σ[i]? = some (some (.ref p)) → σ[j]? = some (some (.ref p)) → False
  len : ρ.length = σ.length
section
variable {nm : RN} {K : PySem.W.Frag} {F₀ H₀ F H F' H' : Hp} {R₀ R R' : RA} {ρ : List Sl} {g g' : G} {σ : St}
theorem Hold.rs (h : Hold nm K F₀ H₀ R₀ F H R ρ g σ) : ∀ a, inR R a → ∃ o, H a = some o := fun _ i => h.rill.some i
theorem Hold.sub (h : Hold nm K F₀ H₀ R₀ F H R ρ g σ) : SubF F H := h.ext.sub
theorem Hold.step (h : Hold nm K F₀ H₀ R₀ F H R ρ g σ) (e : Ext F H R F' H' R') (r : RillAt nm R' g' H') : Hold nm K F₀ H₀ R₀ F' H' R' ρ g' σ where
  ext := h.ext.trans e h.rs h.rill0
  rill := r
  rill0 := h.rill0
  slot := fun i s q => (h.slot i s q).ext e
  dist := h.dist
  len := h.len
end
/-- the answer of an expression -/
def Ans1 (nm : RN) (F H : Hp) (R : RA) (g' : G) (b : Bool) (d : D) (Q : VK) : Prop :=
  ∀ v F' H' R', Ext F H R F' H' R' → RillAt nm R' g' H' → (if b = true then RpB F' H' R' d v else Rp F' d v) → Q v H'
def tE (nm : RN) (K : PySem.W.Frag) (c : Cal) (e : E) : TE := fun σ H Q => ∃ F₀ H₀ R₀ F R ρ g, Hold nm K F₀ H₀ R₀ F H R ρ g σ ∧ ∃ d g', ev c e ρ g = some (d, g') ∧ Ans1 nm F H R g' (isBor e) d Q
/-- .. of a test -/
def Ans2 (nm : RN) (F H : Hp) (R : RA) (g' : G) (k : Bool) (Q : Bool → Hp → Prop) : Prop :=
  ∀ F' H' R', Ext F H R F' H' R' → RillAt nm R' g' H' → Q k H'
def tT (nm : RN) (K : PySem.W.Frag) (c : Cal) (e : E) : TT := fun σ H Q => ∃ F₀ H₀ R₀ F R ρ g, Hold nm K F₀ H₀ R₀ F H R ρ g σ ∧ ∃ k g', ev c e ρ g = some (.bool k, g') ∧ Ans2 nm F H R g' k Q
section
variable {nm : RN} {K : PySem.W.Frag} {F₀ H₀ F H F' H' F1 H1 : Hp} {R₀ R R' R1 : RA} {ρ : List Sl} {g g' g1 : G} {σ : St} {b : Bool} {d : D} {Q : VK}
theorem Ans1.ans (h : Hold nm K F₀ H₀ R₀ F H R ρ g σ) (a : Ans1 nm F H R g false d Q) : Ans F H d Q := fun v F' H' e r => by
  refine a v F' H' R (e.ext h.rs h.ext.rf) ?_ r
  have h2 := h.rill
  revert h2
  unfold RillAt
  split
  · exact fun z => z
  · exact fun z => ⟨e.keep _ _ z.1, e.keep _ _ z.2⟩
  · exact fun z => z
theorem Ans1.step (h : Hold nm K F₀ H₀ R₀ F H R ρ g σ) (h1 : Hold nm K F₀ H₀ R₀ F1 H1 R1 ρ g1 σ) (a : Ans1 nm F H R g' b d Q) (e : Ext F H R F1 H1 R1) : Ans1 nm F1 H1 R1 g' b d Q :=
  fun v F' H' R' e' r' w => a v F' H' R' (e.trans e' h1.rs h.rs) r' w
theorem Ans1.here (h : Hold nm K F₀ H₀ R₀ F H R ρ g σ) (a : Ans1 nm F H R g b d Q) {v : V} (w : if b = true then RpB F H R d v else Rp F d v) : Q v H :=
  a v F H R (Ext.refl h.sub h.ext.rf) h.rill w
theorem Ans2.step {k : Bool} {Q : Bool → Hp → Prop} (h : Hold nm K F₀ H₀ R₀ F H R ρ g σ) (h1 : Hold nm K F₀ H₀ R₀ F1 H1 R1 ρ g1 σ) (a : Ans2 nm F H R g' k Q) (e : Ext F H R F1 H1 R1) : Ans2 nm F1 H1 R1 g' k Q :=
  fun F' H' R' e' r' => a F' H' R' (e.trans e' h1.rs h.rs) r'
theorem rpb_of {b : Bool} {v : V} (h : if b = true then RpB F H R d v else Rp F d v) : RpB F H R d v := by
  cases b with
  | true => rw [if_pos rfl] at h; exact h
  | false => rw [if_neg Bool.false_ne_true] at h; exact .inl h
end
end PV
set_option maxHeartbeats 1000000
namespace PV
open PySem PySem.Spec PyProof.Rows L2
/-! ### calls, the machine's guards known -/
structure FnG (P : Program) (w : World) (K : PySem.W.Frag) (mg : PySem.Str → Option Value) (base : Heap) (k : Nat) (f : Addr) (fdt : FuncData) (ps : List PySem.Str) (sp : Sp) : Prop where
  len : ∀ vs H Q, sp vs H Q E0 → vs.length = ps.length
  run : ∀ (A : Around) (outer : List Env) (s : Shared) (H : Hp) (args : Args) (us : List Value) (vs : List V) (Q : VK), Room k A → A.guards = some [] → Env0 P w K mg base A outer s H →
    BindsTo s fdt args (ps.zip us) → Vals vs us → sp vs H Q E0 → codeAny (model P w) A (.call (.ref f) args) (CR CX0 outer P w H s Q E0) s
theorem deeper_guards (A : Around) (env : Env) : (A.deeper env).guards = A.guards := rfl
section
variable {P : Program} {w : World} {K : PySem.W.Frag} {mg : PySem.Str → Option Value} {base : Heap}
theorem FnG.mono {j k : Nat} {f : Addr} {fdt : FuncData} {ps : List PySem.Str} {sp : Sp} (F : FnG P w K mg base j f fdt ps sp) (h : j ≤ k) : FnG P w K mg base k f fdt ps sp :=
  ⟨F.len, fun A outer s H args us vs Q hr => F.run A outer s H args us vs Q (hr.mono h)⟩
theorem fng_of {qual x : PySem.Str} {st : Stmt} {k : Nat} {f : Addr} {fdt : FuncData} {N ps : List PySem.Str} {sp : Sp} (F : Fun K x qual st f fdt) (S : FnScope N ps (defScope st))
    (len : ∀ vs H Q, sp vs H Q E0 → vs.length = ps.length)
    (hbody : ∀ (cdv : Value) (A : Around) (outer : List Env) (s : Shared) (H : Hp) (vs : List V) (Q : VK), Room k (A.deeper (envOfC qual (defScope st) s.heap.objs.size f cdv)) → (A.deeper (envOfC qual (defScope st) s.heap.objs.size f cdv)).guards = some [] → sp vs H Q E0 →
      ∃ t, PSs (cxOf CX0 P w K mg base N qual (defScope st) f cdv A outer s H E0).nox (defBody st) t ∧ t { nx := fun _ H' => Q .non H', rt := Q } (start N vs) H) : FnG P w K mg base (k + 1) f fdt ps sp := by
  obtain ⟨oc, od, kV, doc, pm, an, cdv, ct, osl, rfl, lk, hcd⟩ := F.ex
  refine ⟨len, fun A outer s H args us vs Q hr hg e0 hb r hsp => ?_⟩
  have hl := len _ _ _ hsp
  have KX : K.In s.heap := e0.mod.kin.keeps fun b o e => (e0.bs b o e).1
  have lim : s.heap.NoLimit := e0.mod.nolimit.keeps fun b o e => (e0.bs b o e).1
  have hkind : ∀ y ∈ ps.zip us, (defScope st).names.lookup y.1 = some .local ∨ ((defScope st).names.lookup y.1 = some .cell ∧ ((cellsFrom (s.heap.objs.size + 1) (defScope st).names []).lookup y.1).isSome = true) := fun ⟨n, v⟩ hy => by
    rcases S.par n (List.of_mem_zip hy).1 with q | q
    · exact .inl q
    · exact .inr ⟨q, PySem.W.cellsFrom_some _ _ _ (.inl q)⟩
  refine codeAny_call_function hr.depth (KX _ _ lk) rfl S.co S.gen rfl (PySem.W.codeRec_of KX hcd) (hb _ _ _ _ ?_)
  refine wpAny_newFunctionEnv_cells S.kind hkind fun env he s1 x => ?_
  subst he
  refine ⟨lim.keeps x.toInCall.keep, codeAny_func ?_⟩
  obtain ⟨t, ht, hq⟩ := hbody cdv A outer s H vs Q (hr.deeper _) ((deeper_guards A _).trans hg) hsp
  have I := inv_start (CX := CX0) (P := P) (w := w) (mg := mg) (base := base) (E := E0) S hr.hd e0 hl r x
  refine wpAny_mono (ht.nox.run [] s1 (start N vs) H _ I hq) (fun fl s' hs => ?_) fun e s' hs => hs
  cases fl with
  | ret u =>
    obtain ⟨v, σ', H', J, rv, q⟩ := hs
    exact ⟨v, H', J.os, J.bare, J.base, J.hok, rv, q⟩
  | next =>
    obtain ⟨σ', H', J, q⟩ := hs
    exact ⟨V.non, H', J.os, J.bare, J.base, J.hok, rfl, q⟩
  | brk =>
    obtain ⟨_, _, _, q⟩ := hs
    exact False.elim q
  | cont =>
    obtain ⟨_, _, _, q⟩ := hs
    exact False.elim q
end
section
variable {X : Cx} {k : Nat} {f : Addr} {fdt : FuncData} {ps : List PySem.Str} {sp : Sp} {x : PySem.Str} {p pos : Pos} {e : Expr} {es : List Expr} {t : TA}
theorem run_fng {pins : List (Addr × Obj)} {σ : L2.St} {H : Hp} {s : Shared} {Q : VK} {us : List Value} {vs : List V} (F : FnG X.prog X.w X.K X.mg X.base k f fdt ps sp) (hr : Room k X.A) (hg : X.A.guards = some []) (hb : Binds X.K fdt ps [])
    (I : L2.Inv X pins σ H s) (r : Vals vs us) (h : sp vs H Q E0) : wpAny (model X.prog X.w) X.A (call (.ref f) us) (EP X pins σ Q) X.xe s := by
  have hl : us.length = ps.length := by rw [← r.length]; exact F.len _ _ _ h
  have hb2 := hb s us I.kIn (by rw [List.append_nil]; exact hl)
  rw [List.append_nil] at hb2
  refine wpAny_call (codeAny_mono (F.run X.A X.stack s H ⟨us, []⟩ us vs Q hr hg I.env0 hb2 r h) fun r s' hq => ?_)
  cases r with
  | error e => exact False.elim hq
  | ok fl =>
    cases fl with
    | ret u => exact I.after hq
    | next => exact False.elim hq
    | brk => exact False.elim hq
    | cont => exact False.elim hq
theorem pe_callG (F : FnG X.prog X.w X.K X.mg X.base k f fdt ps sp) (hr : Room k X.A) (hgs : X.A.guards = some []) (hg : Gl X x) (hm : X.mg x = some (.ref f)) (hk : PySem.W.keepIn X.K (.ref f) = true) (hb : Binds X.K fdt ps [])
    (ha : PA X (e :: es) t) (hdb : (x == ("__debug__" : PySem.Str)) = false) (he : starEach (e :: es) X.env = (false, eval e X.env) :: starEach es X.env) (hpl : (backTo pos (starEach es X.env)).any (·.1) = false) :
    PE X (.Call (.Name x p) (e :: es) [] pos) (fun σ H Q => t σ H fun vs H1 => sp vs H1 Q E0) := by
  refine ⟨fun pins s σ H Q I h => ?_⟩
  refine wpAny_Call_Name_kw (ld_glob I hg hm ?_ hdb)
  refine PySem.W.callWith_K (h₀ := X.base) I.ok.mod.kin hk (thn (ha.run pos pins s σ H _ I h) fun us s1 ⟨vs, H1, I1, r, q⟩ => ⟨I1.kIn, ?_⟩) he hpl
  exact run_fng F hr hgs hb I1 r q
end

/-! ### the promise of each def: what the evaluator says -/
def ArgOk (K : PySem.W.Frag) (F H : Hp) (R : RA) : Arg → V → Prop
  | .d d, v => Rp F d v
  | .rill, v => ∃ p, R = some p ∧ v = .ref p.1
  | .scr ns, v => ∃ a, v = .ref a ∧ ScrAt K H R a ns
def ArgsOk (K : PySem.W.Frag) (F H : Hp) (R : RA) : List Arg → List V → Prop
  | [], [] => True
  | a :: as, v :: vs => ArgOk K F H R a v ∧ ArgsOk K F H R as vs
  | _, _ => False
theorem ArgsOk.length {K : PySem.W.Frag} {F H : Hp} {R : RA} : ∀ {as : List Arg} {vs : List V}, ArgsOk K F H R as vs → as.length = vs.length
  | [], [], _ => rfl
  | [], _ :: _, h => h.elim
  | _ :: _, [], h => h.elim
  | a :: as, v :: vs, h => congrArg (· + 1) (ArgsOk.length h.2)
theorem ArgOk.ext {K : PySem.W.Frag} {F H F' H' : Hp} {R R' : RA} {a : Arg} {v : V} (h : ArgOk K F H R a v) (e : Ext F H R F' H' R') : ArgOk K F' H' R' a v := by
  cases a with
  | d d => exact Rp.mono e.fz h
  | rill =>
    obtain ⟨p, h1, h2⟩ := h
    refine ⟨p, ?_, h2⟩
    rcases e.rr with r | r
    · rw [r] at h1; cases h1
    · rw [r]; exact h1
  | scr ns => obtain ⟨b, h1, h2⟩ := h; exact ⟨b, h1, h2.ext e⟩
theorem ArgsOk.ext {K : PySem.W.Frag} {F H F' H' : Hp} {R R' : RA} (e : Ext F H R F' H' R') : ∀ {as : List Arg} {vs : List V}, ArgsOk K F H R as vs → ArgsOk K F' H' R' as vs
  | [], [], _ => trivial
  | [], _ :: _, h => h.elim
  | _ :: _, [], h => h.elim
  | a :: as, v :: vs, h => ⟨h.1.ext e, ArgsOk.ext e h.2⟩
def spF (nm : RN) (K : PySem.W.Frag) (c : Cal) (n i : Nat) : Sp := fun vs H Q _ => ∃ F R g as d g', SubF F H ∧ (∀ a, inR R a → F a = none) ∧ RillAt nm R g H ∧ ArgsOk K F H R as vs ∧ as.length = n ∧ c i as g = some (d, g') ∧
  ∀ v F' H' R', Ext F H R F' H' R' → RillAt nm R' g' H' → Rp F' d v → Q v H'

/-- the promise of the def that makes the random numbers -/
def spR (nm : RN) (K : PySem.W.Frag) (f : List Int → Rl) : Sp := fun vs H Q _ => ∃ F a ns, SubF F H ∧ vs = [.ref a] ∧ ScrAt K H none a ns ∧
  ∀ p F' H', Ext F H none F' H' (some p) → RillAt nm (some p) (some (f ns)) H' → Q (.ref p.1) H'
/-- the call with keywords alone binds so -/
def KwB (fdt : FuncData) (ps ks : List PySem.Str) (q : List Nat) : Prop := ∀ us : List Value, us.length = ks.length → bindArgs fdt ⟨[], ks.zip us⟩ = pure (ps.zip (permA q us))
/-- what is known where the program's code runs -/
structure CxW (P : PInfo) (k : Nat) (c : Cal) (X : Cx) : Prop extends CxR X where
  xe : X.xe = fun _ _ => False
  nd : X.N.Nodup
  room : Room k X.A
  funs : ∀ i fd, P.fds[i]? = some fd → ∃ f fdt, X.mg fd.name = some (.ref f) ∧ PySem.W.keepIn X.K (.ref f) = true ∧ FnG X.prog X.w X.K X.mg X.base k f fdt (fd.N.take fd.np) (spF P.nm X.K c fd.np i) ∧ Binds X.K fdt (fd.N.take fd.np) [] ∧ fd.np ≤ fd.N.length ∧ ∀ ks q, (i, ks, q) ∈ P.kws → KwB fdt (fd.N.take fd.np) ks q
  glo : ∀ y d, (y, d) ∈ P.glo → ∃ u v, X.mg y = some u ∧ RelV v u ∧ ∀ F, Rp F d v
  blt : ∀ y, y ∈ P.blt → X.mg y = none
  mkr : ∀ y h, P.mkr = some (y, h) → ∃ f fdt q, X.mg y = some (.ref f) ∧ PySem.W.keepIn X.K (.ref f) = true ∧ FnG X.prog X.w X.K X.mg X.base k f fdt [q] (spR P.nm X.K h) ∧ Binds X.K fdt [q] []
theorem CxW.blk {P : PInfo} {k : Nat} {c : Cal} {X : Cx} (w : CxW P k c X) (s : Shared) (H : Hp) (scope : Scope) (cenv : Env) (fp : List Addr) : CxW P k c (X.blk s H scope cenv fp) where
  calm := w.calm
  guards := w.guards
  units := w.units
  xe := rfl
  nd := w.nd
  room := w.room
  funs := w.funs
  glo := w.glo
  blt := w.blt
  mkr := w.mkr
end PV
set_option maxHeartbeats 1000000
namespace PV
open PySem PySem.Spec PyProof.Rows L2
theorem RillAt.ext0 {nm : RN} {R : RA} {g : G} {F H F' H' : Hp} (h : RillAt nm R g H) (e : Ext0 F H F' H') : RillAt nm R g H' := by
  revert h
  unfold RillAt
  split
  · exact fun z => z
  · exact fun z => ⟨e.keep _ _ z.1, e.keep _ _ z.2⟩
  · exact fun z => z
theorem PE_imp {X : Cx} {x : Expr} {t t' : TE} (h : PE X x t) (f : ∀ σ H Q, t' σ H Q → t σ H Q) : PE X x t' := ⟨fun pins s σ H Q I q => h.run pins s σ H Q I (f σ H Q q)⟩
theorem PT_imp {X : Cx} {x : Expr} {t t' : TT} (h : PT X x t) (f : ∀ σ H Q, t' σ H Q → t σ H Q) : PT X x t' := ⟨fun pins s σ H Q I q => h.run pins s σ H Q I (f σ H Q q)⟩
section
variable {P : PInfo} {k : Nat} {c : Cal} {X : Cx} {nm : RN} {K : PySem.W.Frag} {F₀ H₀ F H : Hp} {R₀ R : RA} {ρ : List Sl} {g g1 g2 : G} {σ : L2.St} {Q : VK} {a b e : E} {x y : D} {d : D}
theorem t1 (h : Hold nm K F₀ H₀ R₀ F H R ρ g σ) (ha : ev c a ρ g = some (x, g1)) {W : V → Hp → Prop}
    (w : ∀ v F2 H2 R2, Hold nm K F₀ H₀ R₀ F2 H2 R2 ρ g1 σ → Ext F H R F2 H2 R2 → (if isBor a = true then RpB F2 H2 R2 x v else Rp F2 x v) → W v H2) : tE nm K c a σ H W :=
  ⟨F₀, H₀, R₀, F, R, ρ, g, h, x, g1, ha, fun v F' H' R' e r z => w v F' H' R' (h.step e r) e z⟩
theorem t2 (h : Hold nm K F₀ H₀ R₀ F H R ρ g σ) (ha : ev c a ρ g = some (x, g1)) (hb : ev c b ρ g1 = some (y, g2)) {W : V → V → Hp → Prop}
    (w : ∀ v1 v2 F2 H2 R2, Hold nm K F₀ H₀ R₀ F2 H2 R2 ρ g2 σ → Ext F H R F2 H2 R2 → RpB F2 H2 R2 x v1 → RpB F2 H2 R2 y v2 → W v1 v2 H2) : tE nm K c a σ H fun v1 H1 => tE nm K c b σ H1 fun v2 H2 => W v1 v2 H2 :=
  t1 h ha fun v1 F1 H1 R1 h1 e1 r1 => t1 h1 hb fun v2 F2 H2 R2 h2 e2 r2 => w v1 v2 F2 H2 R2 h2 (e1.trans e2 h1.rs h.rs) ((rpb_of r1).ext e2) (rpb_of r2)
theorem e_loc (w : CxW P k c X) {i : Nat} {n : PySem.Str} {pos : Pos} (hn : X.N[i]? = some n) (hv : Vis X.env.scope n) (ho : okN n = true) : PE X (.Name n pos) (tE nm K c (.loc i)) := by
  unfold okN at ho
  simp only [Bool.and_eq_true, Bool.not_eq_true'] at ho
  refine PE_imp (pe_var hn hv ho.1.1 ho.1.2) fun σ H Q ⟨F₀, H₀, R₀, F, R, ρ, g, h, d, g', he, an⟩ => ?_
  unfold ev at he
  split at he
  · rename_i d0 hs
    cases he
    obtain ⟨v, h1, h2⟩ := h.slot i _ hs
    exact ⟨v, h1, an.here h h2⟩
  · cases he
theorem e_bor (w : CxW P k c X) {i : Nat} {n : PySem.Str} {pos : Pos} (hn : X.N[i]? = some n) (hv : Vis X.env.scope n) (ho : okN n = true) : PE X (.Name n pos) (tE nm K c (.bor i)) := by
  unfold okN at ho
  simp only [Bool.and_eq_true, Bool.not_eq_true'] at ho
  refine PE_imp (pe_var hn hv ho.1.1 ho.1.2) fun σ H Q ⟨F₀, H₀, R₀, F, R, ρ, g, h, d, g', he, an⟩ => ?_
  unfold ev at he
  split at he
  · rename_i d0 hs
    cases he
    obtain ⟨v, h1, h2⟩ := h.slot i _ hs
    exact ⟨v, h1, an.here h (.inl h2)⟩
  · rename_i d0 hs
    cases he
    obtain ⟨p, h1, h2, h3, h4, h5⟩ := h.slot i _ hs
    exact ⟨.ref p, h1, an.here h (.inr ⟨p, rfl, h2, h5⟩)⟩
  · cases he
theorem e_con {cc : Const} {d : D} {kk : Nat} {pos : Pos} (hd : constD cc = some d) : PE X (.Constant cc kk pos) (tE nm K c (.con d)) := by
  have fin : ∀ {v : V}, (∀ F, Rp F d v) → ∀ σ H Q, tE nm K c (.con d) σ H Q → tC v σ H Q := fun hv σ H Q ⟨F₀, H₀, R₀, F, R, ρ, g, h, d', g', he, an⟩ => by
    cases he
    exact an.here h (hv F)
  unfold constD at hd
  split at hd
  · cases hd; exact PE_imp pe_non (fin fun _ => .non)
  · cases hd; exact PE_imp pe_bl (fin fun _ => .bl _)
  · cases hd; exact PE_imp pe_int (fin fun _ => .int _)
  · cases hd; exact PE_imp pe_str (fin fun _ => .str _)
  · cases hd
theorem e_glo (w : CxW P k c X) {n : PySem.Str} {d : D} {pos : Pos} (hg : X.env.scope.names.lookup n = some .globalImplicit) (hm : (n, d) ∈ P.glo) (ho : okN n = true) : PE X (.Name n pos) (tE nm K c (.glo n d)) := by
  unfold okN at ho
  simp only [Bool.and_eq_true, Bool.not_eq_true'] at ho
  obtain ⟨u, v, h1, h2, h3⟩ := w.glo n d hm
  refine PE_imp (pe_glob hg h1 h2 ho.1.1) fun σ H Q ⟨F₀, H₀, R₀, F, R, ρ, g, h, d', g', he, an⟩ => ?_
  cases he
  exact an.here h (h3 F)
theorem e_bin {o : Operator} {l r : Expr} {pos : Pos} (ha : PE X l (tE nm K c a)) (hb : PE X r (tE nm K c b)) : PE X (.BinOp l o r pos) (tE nm K c (.bin o a b)) :=
  PE_imp (pe_op (op_binD o) ha hb) fun σ H Q ⟨F₀, H₀, R₀, F, R, ρ, g, h, d, g', he, an⟩ => by
    rw [ev] at he
    obtain ⟨⟨x, g1⟩, h1, he⟩ := Option.bind_eq_some_iff.mp he
    obtain ⟨⟨y, g2⟩, h2, he⟩ := Option.bind_eq_some_iff.mp he
    obtain ⟨z, h3, he⟩ := Option.map_eq_some_iff.mp he
    cases he
    exact t2 h h1 h2 fun v1 v2 F2 H2 R2 k2 e2 r1 r2 => ⟨F2, R2, x, y, _, k2.sub, r1, r2, h3, (an.step h k2 e2).ans k2⟩
theorem e_neg {l : Expr} {pos : Pos} (ha : PE X l (tE nm K c a)) : PE X (.UnaryOp .USub l pos) (tE nm K c (.neg a)) :=
  PE_imp (pe_un un_negD ha) fun σ H Q ⟨F₀, H₀, R₀, F, R, ρ, g, h, d, g', he, an⟩ => by
    rw [ev] at he
    obtain ⟨⟨x, g1⟩, h1, he⟩ := Option.bind_eq_some_iff.mp he
    obtain ⟨z, h3, he⟩ := Option.map_eq_some_iff.mp he
    cases he
    exact t1 h h1 fun v1 F2 H2 R2 k2 e2 r1 => ⟨F2, R2, x, _, k2.sub, rpb_of r1, h3, (an.step h k2 e2).ans k2⟩
theorem nomarks {o : CmpOp} {r : Expr} (h : noSet r = true) : behindInMarks o r = false := by
  cases r <;> first | rfl | cases h
theorem cmp_inv {o : CmpOp} {ρ : List Sl} {g g' : G} {d : D} (he : ev c (.cmp o a b) ρ g = some (d, g')) : ∃ x g1 y z, ev c a ρ g = some (x, g1) ∧ ev c b ρ g1 = some (y, g') ∧ cmpD o x y = some z ∧ d = .bool z := by
  rw [ev] at he
  obtain ⟨⟨x, g1⟩, h1, he⟩ := Option.bind_eq_some_iff.mp he
  obtain ⟨⟨y, g2⟩, h2, he⟩ := Option.bind_eq_some_iff.mp he
  obtain ⟨z, h3, he⟩ := Option.map_eq_some_iff.mp he
  cases he
  exact ⟨x, g1, y, z, h1, h2, h3, rfl⟩
theorem e_cmp (w : CxW P k c X) {o : CmpOp} {l r : Expr} {pos : Pos} (ha : PE X l (tE nm K c a)) (hb : PE X r (tE nm K c b)) (hs : noSet r = true) : PE X (.Compare l [o] [r] pos) (tE nm K c (.cmp o a b)) :=
  PE_imp (pe_cmpR (op_cmpD w.toCxR o) ha hb (nomarks hs)) fun σ H Q ⟨F₀, H₀, R₀, F, R, ρ, g, h, d, g', he, an⟩ => by
    obtain ⟨x, g1, y, z, h1, h2, h3, rfl⟩ := cmp_inv he
    exact t2 h h1 h2 fun v1 v2 F2 H2 R2 k2 e2 r1 r2 => ⟨F2, R2, x, y, _, k2.sub, r1, r2, h3, (an.step h k2 e2).ans k2⟩
theorem Ans2.ans {k : Bool} {Q : Bool → Hp → Prop} (h : Hold nm K F₀ H₀ R₀ F H R ρ g σ) (a : Ans2 nm F H R g k Q) : Ans F H (.bool k) fun v H' => ∃ k, v = .bl k ∧ Q k H' := fun v F' H' e r => by
  refine ⟨k, r.bool_inv, a F' H' R (e.ext h.rs h.ext.rf) (h.rill.ext0 e)⟩
theorem p_cmp (w : CxW P k c X) {o : CmpOp} {l r : Expr} {pos : Pos} (ha : PE X l (tE nm K c a)) (hb : PE X r (tE nm K c b)) (hs : noSet r = true) : PT X (.Compare l [o] [r] pos) (tT nm K c (.cmp o a b)) :=
  PT_imp (pt_cmpR (op_cmpD w.toCxR o) ha hb (nomarks hs)) fun σ H Q ⟨F₀, H₀, R₀, F, R, ρ, g, h, d, g', he, an⟩ => by
    obtain ⟨x, g1, y, z, h1, h2, h3, e⟩ := cmp_inv he
    cases e
    exact t2 h h1 h2 fun v1 v2 F2 H2 R2 k2 e2 r1 r2 => ⟨F2, R2, x, y, _, k2.sub, r1, r2, h3, (an.step h k2 e2).ans k2⟩
theorem rpb_none {F H : Hp} {R : RA} {d : D} {v : V} (h : RpB F H R d v) : decide (v = .non) = noneD d := by
  rcases h with h | ⟨p, rfl, h, _⟩
  · cases h <;> rfl
  · cases h <;> rfl
theorem e_isN {l : Expr} {kk : Nat} {p2 pos : Pos} (ha : PE X l (tE nm K c a)) : PE X (.Compare l [.Is] [.Constant .none kk p2] pos) (tE nm K c (.isN a)) :=
  PE_imp (pe_cmp (pc_isN ha) rfl) fun σ H Q ⟨F₀, H₀, R₀, F, R, ρ, g, h, d, g', he, an⟩ => by
    rw [ev] at he
    obtain ⟨⟨x, g1⟩, h1, he⟩ := Option.map_eq_some_iff.mp he
    cases he
    exact t1 h h1 fun v1 F2 H2 R2 k2 e2 r1 => by
      rw [rpb_none (rpb_of r1)]
      exact (an.step h k2 e2).here k2 (.bl _)
theorem e_notN {l : Expr} {kk : Nat} {p2 pos : Pos} (ha : PE X l (tE nm K c a)) : PE X (.Compare l [.IsNot] [.Constant .none kk p2] pos) (tE nm K c (.notN a)) :=
  PE_imp (pe_cmp (pc_notN ha) rfl) fun σ H Q ⟨F₀, H₀, R₀, F, R, ρ, g, h, d, g', he, an⟩ => by
    rw [ev] at he
    obtain ⟨⟨x, g1⟩, h1, he⟩ := Option.map_eq_some_iff.mp he
    cases he
    exact t1 h h1 fun v1 F2 H2 R2 k2 e2 r1 => by
      rw [rpb_none (rpb_of r1)]
      exact (an.step h k2 e2).here k2 (.bl _)
theorem p_isN {l : Expr} {kk : Nat} {p2 pos : Pos} (ha : PE X l (tE nm K c a)) : PT X (.Compare l [.Is] [.Constant .none kk p2] pos) (tT nm K c (.isN a)) :=
  PT_imp (pt_cmp (pc_isN ha) rfl) fun σ H Q ⟨F₀, H₀, R₀, F, R, ρ, g, h, d, g', he, an⟩ => by
    rw [ev] at he
    obtain ⟨⟨x, g1⟩, h1, he⟩ := Option.map_eq_some_iff.mp he
    cases he
    exact t1 h h1 fun v1 F2 H2 R2 k2 e2 r1 => by
      rw [rpb_none (rpb_of r1)]
      exact (an.step h k2 e2).ans k2 _ _ _ (Ext0.refl k2.sub) (.bl _)
theorem p_notN {l : Expr} {kk : Nat} {p2 pos : Pos} (ha : PE X l (tE nm K c a)) : PT X (.Compare l [.IsNot] [.Constant .none kk p2] pos) (tT nm K c (.notN a)) :=
  PT_imp (pt_cmp (pc_notN ha) rfl) fun σ H Q ⟨F₀, H₀, R₀, F, R, ρ, g, h, d, g', he, an⟩ => by
    rw [ev] at he
    obtain ⟨⟨x, g1⟩, h1, he⟩ := Option.map_eq_some_iff.mp he
    cases he
    exact t1 h h1 fun v1 F2 H2 R2 k2 e2 r1 => by
      rw [rpb_none (rpb_of r1)]
      exact (an.step h k2 e2).ans k2 _ _ _ (Ext0.refl k2.sub) (.bl _)
theorem lastm {o p : CmpOp} {m r : Expr} (h : noSet r = true) : lastMarks [o, p] [m, r] = false := by
  show behindInMarks p r = false
  exact nomarks h
theorem chn_inv {o p : CmpOp} {ρ : List Sl} {g g' : G} {d : D} (he : ev c (.chn o p a b e) ρ g = some (d, g')) :
    ∃ x g1 y g2 z, ev c a ρ g = some (x, g1) ∧ ev c b ρ g1 = some (y, g2) ∧ cmpD o x y = some z ∧ ((z = false ∧ d = .bool false ∧ g' = g2) ∨ (z = true ∧ ∃ u q, ev c e ρ g2 = some (u, g') ∧ cmpD p y u = some q ∧ d = .bool q)) := by
  rw [ev] at he
  obtain ⟨⟨x, g1⟩, h1, he⟩ := Option.bind_eq_some_iff.mp he
  obtain ⟨⟨y, g2⟩, h2, he⟩ := Option.bind_eq_some_iff.mp he
  obtain ⟨z, h3, he⟩ := Option.bind_eq_some_iff.mp he
  refine ⟨x, g1, y, g2, z, h1, h2, h3, ?_⟩
  cases z with
  | false => cases he; exact .inl ⟨rfl, rfl, rfl⟩
  | true =>
    simp only [if_true] at he
    obtain ⟨⟨u, g3⟩, h4, he⟩ := Option.bind_eq_some_iff.mp he
    obtain ⟨q, h5, he⟩ := Option.map_eq_some_iff.mp he
    cases he
    exact .inr ⟨rfl, u, q, h4, h5, rfl⟩
theorem e_chn (w : CxW P k c X) {o p : CmpOp} {l m r : Expr} {pos : Pos} (ha : PE X l (tE nm K c a)) (hb : PE X m (tE nm K c b)) (hc : PE X r (tE nm K c e)) (hs : noSet r = true) : PE X (.Compare l [o, p] [m, r] pos) (tE nm K c (.chn o p a b e)) :=
  PE_imp (pe_chain (op_cmpD w.toCxR o) (op_cmpD w.toCxR p) ha hb hc (lastm hs)) fun σ H Q ⟨F₀, H₀, R₀, F, R, ρ, g, h, d, g', he, an⟩ => by
    obtain ⟨x, g1, y, g2, z, h1, h2, h3, h4⟩ := chn_inv he
    refine t2 h h1 h2 fun v1 v2 F2 H2 R2 k2 e2 r1 r2 => ⟨F2, R2, x, y, z, k2.sub, r1, r2, h3, fun v F3 H3 e3 r3 => ⟨z, r3.bool_inv, ?_⟩⟩
    have E3 := e3.ext k2.rs k2.ext.rf
    have k3 := k2.step E3 (k2.rill.ext0 e3)
    have e3' := e2.trans E3 k2.rs h.rs
    rcases h4 with ⟨rfl, rfl, rfl⟩ | ⟨rfl, u, q, h5, h6, rfl⟩
    · rw [if_neg Bool.false_ne_true]
      exact (an.step h k3 e3').here k3 (.bl _)
    · rw [if_pos rfl]
      exact t1 k3 h5 fun v3 F4 H4 R4 k4 e4 r4 => ⟨F4, R4, y, u, q, k4.sub, (r2.ext E3).ext e4, rpb_of r4, h6, (an.step h k4 (e3'.trans e4 k3.rs h.rs)).ans k4⟩
theorem p_chn (w : CxW P k c X) {o p : CmpOp} {l m r : Expr} {pos : Pos} (ha : PE X l (tE nm K c a)) (hb : PE X m (tE nm K c b)) (hc : PE X r (tE nm K c e)) (hs : noSet r = true) : PT X (.Compare l [o, p] [m, r] pos) (tT nm K c (.chn o p a b e)) :=
  PT_imp (pt_chain (op_cmpD w.toCxR o) (op_cmpD w.toCxR p) ha hb hc (lastm hs)) fun σ H Q ⟨F₀, H₀, R₀, F, R, ρ, g, h, d, g', he, an⟩ => by
    obtain ⟨x, g1, y, g2, z, h1, h2, h3, h4⟩ := chn_inv he
    refine t2 h h1 h2 fun v1 v2 F2 H2 R2 k2 e2 r1 r2 => ⟨F2, R2, x, y, z, k2.sub, r1, r2, h3, fun v F3 H3 e3 r3 => ⟨z, r3.bool_inv, ?_⟩⟩
    have E3 := e3.ext k2.rs k2.ext.rf
    have k3 := k2.step E3 (k2.rill.ext0 e3)
    have e3' := e2.trans E3 k2.rs h.rs
    rcases h4 with ⟨rfl, e5, rfl⟩ | ⟨rfl, u, q, h5, h6, e5⟩
    · cases e5
      rw [if_neg Bool.false_ne_true]
      exact (an.step h k3 e3').ans k3 _ _ _ (Ext0.refl k3.sub) (.bl _)
    · cases e5
      rw [if_pos rfl]
      exact t1 k3 h5 fun v3 F4 H4 R4 k4 e4 r4 => ⟨F4, R4, y, u, _, k4.sub, (r2.ext E3).ext e4, rpb_of r4, h6, (an.step h k4 (e3'.trans e4 k3.rs h.rs)).ans k4⟩
end
end PV
set_option maxHeartbeats 1000000
namespace PV
open PySem PySem.Spec PyProof.Rows L2
section
variable {P : PInfo} {k : Nat} {c : Cal} {X : Cx} {nm : RN} {K : PySem.W.Frag} {F₀ H₀ F H : Hp} {R₀ R : RA} {ρ : List Sl} {g g1 g2 : G} {σ : L2.St} {Q : VK} {a b e : E} {x y : D} {d : D}
/-- a test by its value -/
theorem p_val {xe : Expr} (h : PE X xe (tE nm K c e)) (he : ∀ whole, isTrue xe X.env whole = (do let v ← whole; standAt xe.pos; holding [v] (truthy v))) : PT X xe (tT nm K c e) :=
  PT_imp (pt_val h he) fun σ H Q ⟨F₀, H₀, R₀, F, R, ρ, g, hh, d, g', he, an⟩ =>
    ⟨F₀, H₀, R₀, F, R, ρ, g, hh, .bool d, g', he, fun v F' H' R' e r w => ⟨d, (rpb_of w).bool, an F' H' R' e r⟩⟩
theorem pw_of {o : BoolOp} {vs : List Expr} {pos : Pos} {t : TT} (h : PT X (.BoolOp o vs pos) t) : PW X (.BoolOp o vs pos) t := ⟨fun wh pins s σ H Q I q => h.run pins s σ H Q I q⟩
theorem p_one {o : BoolOp} {xe : Expr} {pos : Pos} {t : TT} (h : PT X xe t) : PT X (.BoolOp o [xe] pos) t := by
  cases o with
  | And => exact (pw_and1 h).pt
  | Or => exact (pw_or1 h).pt
theorem and_inv {ρ : List Sl} {g g' : G} {d : D} (he : ev c (.and a b) ρ g = some (d, g')) : ∃ q g1, ev c a ρ g = some (.bool q, g1) ∧ ((q = true ∧ ev c b ρ g1 = some (d, g')) ∨ (q = false ∧ d = .bool false ∧ g' = g1)) := by
  rw [ev] at he
  obtain ⟨⟨x, g1⟩, h1, he⟩ := Option.bind_eq_some_iff.mp he
  dsimp only at he
  split at he
  · exact ⟨true, g1, h1, .inl ⟨rfl, he⟩⟩
  · cases he; exact ⟨false, _, h1, .inr ⟨rfl, rfl, rfl⟩⟩
  · cases he
theorem or_inv {ρ : List Sl} {g g' : G} {d : D} (he : ev c (.or a b) ρ g = some (d, g')) : ∃ q g1, ev c a ρ g = some (.bool q, g1) ∧ ((q = false ∧ ev c b ρ g1 = some (d, g')) ∨ (q = true ∧ d = .bool true ∧ g' = g1)) := by
  rw [ev] at he
  obtain ⟨⟨x, g1⟩, h1, he⟩ := Option.bind_eq_some_iff.mp he
  dsimp only at he
  split at he
  · exact ⟨false, g1, h1, .inl ⟨rfl, he⟩⟩
  · cases he; exact ⟨true, _, h1, .inr ⟨rfl, rfl, rfl⟩⟩
  · cases he
theorem bor_ans {b : Bool} {v : V} {F H : Hp} {R : RA} {d : D} (h : if b = true then RpB F H R d v else Rp F d v) (hb : b = false) : Rp F d v := by
  subst hb; rw [if_neg Bool.false_ne_true] at h; exact h
theorem e_and {xe ye : Expr} {rest : List Expr} {pos : Pos} (ha : PE X xe (tE nm K c a)) (hb : PE X (.BoolOp .And (ye :: rest) pos) (tE nm K c b)) (nb : isBor b = false) : PE X (.BoolOp .And (xe :: ye :: rest) pos) (tE nm K c (.and a b)) :=
  PE_imp (pe_and ha hb) fun σ H Q ⟨F₀, H₀, R₀, F, R, ρ, g, h, d, g', he, an⟩ => by
    obtain ⟨q, g1, h1, h2⟩ := and_inv he
    refine t1 h h1 fun v F2 H2 R2 k2 e2 r => ⟨q, (rpb_of r).bool, ?_⟩
    rcases h2 with ⟨rfl, h2⟩ | ⟨rfl, rfl, rfl⟩
    · rw [if_pos rfl]
      exact t1 k2 h2 fun v F3 H3 R3 k3 e3 r3 => (an.step h k3 (e2.trans e3 k2.rs h.rs)).here k3 (bor_ans r3 nb)
    · rw [if_neg Bool.false_ne_true]
      exact (an.step h k2 e2).here k2 (.bl _)
theorem e_or {xe ye : Expr} {rest : List Expr} {pos : Pos} (ha : PE X xe (tE nm K c a)) (hb : PE X (.BoolOp .Or (ye :: rest) pos) (tE nm K c b)) (nb : isBor b = false) : PE X (.BoolOp .Or (xe :: ye :: rest) pos) (tE nm K c (.or a b)) :=
  PE_imp (pe_or ha hb) fun σ H Q ⟨F₀, H₀, R₀, F, R, ρ, g, h, d, g', he, an⟩ => by
    obtain ⟨q, g1, h1, h2⟩ := or_inv he
    refine t1 h h1 fun v F2 H2 R2 k2 e2 r => ⟨q, (rpb_of r).bool, ?_⟩
    rcases h2 with ⟨rfl, h2⟩ | ⟨rfl, rfl, rfl⟩
    · rw [if_neg Bool.false_ne_true]
      exact t1 k2 h2 fun v F3 H3 R3 k3 e3 r3 => (an.step h k3 (e2.trans e3 k2.rs h.rs)).here k3 (bor_ans r3 nb)
    · rw [if_pos rfl]
      exact (an.step h k2 e2).here k2 (.bl _)
theorem tt1 (h : Hold nm K F₀ H₀ R₀ F H R ρ g σ) {q : Bool} (ha : ev c a ρ g = some (.bool q, g1)) {W : Bool → Hp → Prop}
    (w : ∀ F2 H2 R2, Hold nm K F₀ H₀ R₀ F2 H2 R2 ρ g1 σ → Ext F H R F2 H2 R2 → W q H2) : tT nm K c a σ H W :=
  ⟨F₀, H₀, R₀, F, R, ρ, g, h, q, g1, ha, fun F' H' R' e r => w F' H' R' (h.step e r) e⟩
theorem Ans2.here {q : Bool} {Q : Bool → Hp → Prop} (h : Hold nm K F₀ H₀ R₀ F H R ρ g σ) (a : Ans2 nm F H R g q Q) : Q q H := a F H R (Ext.refl h.sub h.ext.rf) h.rill
theorem p_and {xe ye : Expr} {rest : List Expr} {pos : Pos} (ha : PT X xe (tT nm K c a)) (hb : PT X (.BoolOp .And (ye :: rest) pos) (tT nm K c b)) : PT X (.BoolOp .And (xe :: ye :: rest) pos) (tT nm K c (.and a b)) :=
  PT_imp (pw_and ha (pw_of hb)).pt fun σ H Q ⟨F₀, H₀, R₀, F, R, ρ, g, h, d, g', he, an⟩ => by
    obtain ⟨q, g1, h1, h2⟩ := and_inv he
    refine tt1 h h1 fun F2 H2 R2 k2 e2 => ?_
    rcases h2 with ⟨rfl, h2⟩ | ⟨rfl, e5, rfl⟩
    · rw [if_pos rfl]
      exact tt1 k2 h2 fun F3 H3 R3 k3 e3 => (an.step h k3 (e2.trans e3 k2.rs h.rs)).here k3
    · cases e5
      rw [if_neg Bool.false_ne_true]
      exact (an.step h k2 e2).here k2
theorem p_or {xe ye : Expr} {rest : List Expr} {pos : Pos} (ha : PT X xe (tT nm K c a)) (hb : PT X (.BoolOp .Or (ye :: rest) pos) (tT nm K c b)) : PT X (.BoolOp .Or (xe :: ye :: rest) pos) (tT nm K c (.or a b)) :=
  PT_imp (pw_or ha (pw_of hb)).pt fun σ H Q ⟨F₀, H₀, R₀, F, R, ρ, g, h, d, g', he, an⟩ => by
    obtain ⟨q, g1, h1, h2⟩ := or_inv he
    refine tt1 h h1 fun F2 H2 R2 k2 e2 => ?_
    rcases h2 with ⟨rfl, h2⟩ | ⟨rfl, e5, rfl⟩
    · rw [if_neg Bool.false_ne_true]
      exact tt1 k2 h2 fun F3 H3 R3 k3 e3 => (an.step h k3 (e2.trans e3 k2.rs h.rs)).here k3
    · cases e5
      rw [if_pos rfl]
      exact (an.step h k2 e2).here k2
theorem not_inv {ρ : List Sl} {g g' : G} {d : D} (he : ev c (.not a) ρ g = some (d, g')) : ∃ q, ev c a ρ g = some (.bool q, g') ∧ d = .bool (!q) := by
  rw [ev] at he
  obtain ⟨⟨x, g1⟩, h1, he⟩ := Option.bind_eq_some_iff.mp he
  dsimp only at he
  split at he
  · cases he; exact ⟨_, h1, rfl⟩
  · cases he
theorem e_not {xe : Expr} {pos : Pos} (ha : PE X xe (tE nm K c a)) : PE X (.UnaryOp .Not xe pos) (tE nm K c (.not a)) :=
  PE_imp (pe_not ha) fun σ H Q ⟨F₀, H₀, R₀, F, R, ρ, g, h, d, g', he, an⟩ => by
    obtain ⟨q, h1, rfl⟩ := not_inv he
    exact t1 h h1 fun v F2 H2 R2 k2 e2 r => ⟨q, (rpb_of r).bool, (an.step h k2 e2).here k2 (.bl _)⟩
theorem p_not {xe : Expr} {pos : Pos} (ha : PT X xe (tT nm K c a)) : PT X (.UnaryOp .Not xe pos) (tT nm K c (.not a)) :=
  PT_imp (pt_not ha) fun σ H Q ⟨F₀, H₀, R₀, F, R, ρ, g, h, d, g', he, an⟩ => by
    obtain ⟨q, h1, e⟩ := not_inv he
    cases e
    exact tt1 h h1 fun F2 H2 R2 k2 e2 => (an.step h k2 e2).here k2
theorem ite_inv {t : E} {ρ : List Sl} {g g' : G} {d : D} (he : ev c (.ite t a b) ρ g = some (d, g')) : ∃ q g1, ev c t ρ g = some (.bool q, g1) ∧ (if q = true then ev c a ρ g1 = some (d, g') else ev c b ρ g1 = some (d, g')) := by
  rw [ev] at he
  obtain ⟨⟨x, g1⟩, h1, he⟩ := Option.bind_eq_some_iff.mp he
  dsimp only at he
  split at he
  · exact ⟨true, g1, h1, by rw [if_pos rfl]; exact he⟩
  · exact ⟨false, g1, h1, by rw [if_neg Bool.false_ne_true]; exact he⟩
  · cases he
theorem e_ite {t : E} {te xe ye : Expr} {pos : Pos} (ht : PT X te (tT nm K c t)) (ha : PE X xe (tE nm K c a)) (hb : PE X ye (tE nm K c b)) (na : isBor a = false) (nb : isBor b = false) : PE X (.IfExp te xe ye pos) (tE nm K c (.ite t a b)) :=
  PE_imp (pe_ifExp ht ha hb) fun σ H Q ⟨F₀, H₀, R₀, F, R, ρ, g, h, d, g', he, an⟩ => by
    obtain ⟨q, g1, h1, h2⟩ := ite_inv he
    refine tt1 h h1 fun F2 H2 R2 k2 e2 => ?_
    cases q with
    | true =>
      rw [if_pos rfl] at h2 ⊢
      exact t1 k2 h2 fun v F3 H3 R3 k3 e3 r3 => (an.step h k3 (e2.trans e3 k2.rs h.rs)).here k3 (bor_ans r3 na)
    | false =>
      rw [if_neg Bool.false_ne_true] at h2 ⊢
      exact t1 k2 h2 fun v F3 H3 R3 k3 e3 r3 => (an.step h k3 (e2.trans e3 k2.rs h.rs)).here k3 (bor_ans r3 nb)
theorem pt_ifExp {ce xe ye : Expr} {pos : Pos} {tA tB' tC' : TT} (hc : PT X ce tA) (ha : PT X xe tB') (hb : PT X ye tC') : PT X (.IfExp ce xe ye pos) (fun σ H Q => tA σ H fun q H1 => if q = true then tB' σ H1 Q else tC' σ H1 Q) := by
  refine ⟨fun pins s σ H Q I h => ?_⟩
  refine isTrue_IfExp (thn (hc.run pins s σ H _ I h) fun d s1 ⟨H1, I1, q1⟩ => ?_)
  cases d with
  | true => exact ha.run pins s1 σ H1 Q I1 q1
  | false => exact hb.run pins s1 σ H1 Q I1 q1
theorem p_ite {t : E} {te xe ye : Expr} {pos : Pos} (ht : PT X te (tT nm K c t)) (ha : PT X xe (tT nm K c a)) (hb : PT X ye (tT nm K c b)) : PT X (.IfExp te xe ye pos) (tT nm K c (.ite t a b)) :=
  PT_imp (pt_ifExp ht ha hb) fun σ H Q ⟨F₀, H₀, R₀, F, R, ρ, g, h, d, g', he, an⟩ => by
    obtain ⟨q, g1, h1, h2⟩ := ite_inv he
    refine tt1 h h1 fun F2 H2 R2 k2 e2 => ?_
    cases q with
    | true =>
      rw [if_pos rfl] at h2 ⊢
      exact tt1 k2 h2 fun F3 H3 R3 k3 e3 => (an.step h k3 (e2.trans e3 k2.rs h.rs)).here k3
    | false =>
      rw [if_neg Bool.false_ne_true] at h2 ⊢
      exact tt1 k2 h2 fun F3 H3 R3 k3 e3 => (an.step h k3 (e2.trans e3 k2.rs h.rs)).here k3
theorem plainIx {ye : Expr} (h : noSlice ye = true) : PlainIx ye := fun o i => by
  cases ye <;> first | rfl | cases h
theorem e_ix {xe ye : Expr} {pos : Pos} (ha : PE X xe (tE nm K c a)) (hb : PE X ye (tE nm K c b)) (hs : noSlice ye = true) : PE X (.Subscript xe ye pos) (tE nm K c (.ix a b)) :=
  PE_imp (pe_ix ix_D ha hb (plainIx hs)) fun σ H Q ⟨F₀, H₀, R₀, F, R, ρ, g, h, d, g', he, an⟩ => by
    rw [ev] at he
    obtain ⟨⟨x, g1⟩, h1, he⟩ := Option.bind_eq_some_iff.mp he
    obtain ⟨⟨y, g2⟩, h2, he⟩ := Option.bind_eq_some_iff.mp he
    obtain ⟨z, h3, he⟩ := Option.map_eq_some_iff.mp he
    cases he
    exact t2 h h1 h2 fun v1 v2 F2 H2 R2 k2 e2 r1 r2 => ⟨F2, R2, x, y, _, k2.sub, r1, r2, h3, (an.step h k2 e2).ans k2⟩
/-- a slice's part -/
def evO (c : Cal) (lo : E) (ρ : List Sl) (g : G) : Option (Option Int × G) := match lo with | .no => some (none, g) | _ => (ev c lo ρ g).bind fun (y, g) => (optI y).map fun o => (o, g)
def tO (nm : RN) (K : PySem.W.Frag) (c : Cal) (e : E) : TO := fun σ H Q => ∃ F₀ H₀ R₀ F R ρ g, Hold nm K F₀ H₀ R₀ F H R ρ g σ ∧ ∃ o g', evO c e ρ g = some (o, g') ∧ ∀ F' H' R', Ext F H R F' H' R' → RillAt nm R' g' H' → Q o H'
theorem PO_imp {ex : Option Expr} {t t' : TO} (h : PO X ex t) (f : ∀ σ H Q, t' σ H Q → t σ H Q) : PO X ex t' := ⟨fun pins s σ H Q I q => h.run pins s σ H Q I (f σ H Q q)⟩
theorem o_no : PO X none (tO nm K c .no) := PO_imp po_none fun σ H Q ⟨F₀, H₀, R₀, F, R, ρ, g, h, o, g', he, an⟩ => by
  cases he
  exact an F H R (Ext.refl h.sub h.ext.rf) h.rill
theorem o_some {xe : Expr} (ha : PE X xe (tE nm K c a)) (hn : a ≠ .no) : PO X (some xe) (tO nm K c a) := PO_imp (po_some ha) fun σ H Q ⟨F₀, H₀, R₀, F, R, ρ, g, h, o, g', he, an⟩ => by
  have key : ∃ i, ev c a ρ g = some (.int i, g') ∧ o = some i := by
    unfold evO at he
    split at he
    · exact absurd rfl hn
    · obtain ⟨⟨y, g1⟩, h1, he⟩ := Option.bind_eq_some_iff.mp he
      obtain ⟨z, h2, he⟩ := Option.map_eq_some_iff.mp he
      cases he
      unfold optI at h2
      split at h2
      · cases h2; exact ⟨_, h1, rfl⟩
      · cases h2
  obtain ⟨i, h1, rfl⟩ := key
  exact t1 h h1 fun v F2 H2 R2 k2 e2 r => ⟨i, (rpb_of r).int, an F2 H2 R2 e2 k2.rill⟩
end
end PV
set_option maxHeartbeats 1000000
namespace PV
open PySem PySem.Spec PyProof.Rows L2
section
variable {P : PInfo} {k : Nat} {c : Cal} {X : Cx} {nm : RN} {K : PySem.W.Frag} {F₀ H₀ F H : Hp} {R₀ R : RA} {ρ : List Sl} {g g1 g2 : G} {σ : L2.St} {Q : VK} {a b e : E} {x y : D} {d : D}
theorem t1o (h : Hold nm K F₀ H₀ R₀ F H R ρ g σ) {o : Option Int} (ha : evO c a ρ g = some (o, g1)) {W : Option Int → Hp → Prop}
    (w : ∀ F2 H2 R2, Hold nm K F₀ H₀ R₀ F2 H2 R2 ρ g1 σ → Ext F H R F2 H2 R2 → W o H2) : tO nm K c a σ H W :=
  ⟨F₀, H₀, R₀, F, R, ρ, g, h, o, g1, ha, fun F' H' R' e r => w F' H' R' (h.step e r) e⟩
theorem sl_inv {lo hi : E} {ρ : List Sl} {g g' : G} {d : D} (he : ev c (.sl a lo hi) ρ g = some (d, g')) :
    ∃ x g1 l g2 u, ev c a ρ g = some (x, g1) ∧ evO c lo ρ g1 = some (l, g2) ∧ evO c hi ρ g2 = some (u, g') ∧ slD x l u = some d := by
  rw [ev] at he
  obtain ⟨⟨x, g1⟩, h1, he⟩ := Option.bind_eq_some_iff.mp he
  obtain ⟨⟨l, g2⟩, h2, he⟩ := Option.bind_eq_some_iff.mp he
  obtain ⟨⟨u, g3⟩, h3, he⟩ := Option.bind_eq_some_iff.mp he
  obtain ⟨z, h4, he⟩ := Option.map_eq_some_iff.mp he
  cases he
  exact ⟨x, g1, l, g2, u, h1, h2, h3, h4⟩
theorem e_sl {lo hi : E} {xe : Expr} {le ue : Option Expr} {p2 pos : Pos} (ha : PE X xe (tE nm K c a)) (hl : PO X le (tO nm K c lo)) (hu : PO X ue (tO nm K c hi)) : PE X (.Subscript xe (.Slice le ue none p2) pos) (tE nm K c (.sl a lo hi)) :=
  PE_imp (pe_slice sl_D ha hl hu) fun σ H Q ⟨F₀, H₀, R₀, F, R, ρ, g, h, d, g', he, an⟩ => by
    obtain ⟨x, g1, l, g2, u, h1, h2, h3, h4⟩ := sl_inv he
    exact t1 h h1 fun v1 F1 H1 R1 k1 e1 r1 => t1o k1 h2 fun F2 H2 R2 k2 e2 => t1o k2 h3 fun F3 H3 R3 k3 e3 =>
      ⟨F3, R3, x, _, k3.sub, ((rpb_of r1).ext e2).ext e3, h4, (an.step h k3 ((e1.trans e2 k1.rs h.rs).trans e3 k2.rs h.rs)).ans k3⟩
theorem rev_signs (z : PySem.Str) : (((Builtin.Str.strSliceIndices none none (-1) z.length).filterMap (z.cps[·]?)).toArray) = z.cps.toList.reverse.toArray := by
  have e : Builtin.Str.strSliceIndices none none (-1) z.length = sliceRange ((z.length : Int) - 1) (-1) (-1) := rfl
  rw [e, PySem.W.krv_sliceRange, PySem.W.krv_range, List.filterMap_reverse]
  rw [show z.length = z.cps.size from rfl, PySem.W.krv_all]
theorem e_rev {xe : Expr} {kk : Nat} {p1 p2 p3 pos : Pos} (ha : PE X xe (tE nm K c a)) : PE X (.Subscript xe (.Slice none none (some (.UnaryOp .USub (.Constant (.int 1) kk p1) p2)) p3) pos) (tE nm K c (.rev a)) := by
  refine ⟨fun pins s σ H Q I ⟨F₀, H₀, R₀, F, R, ρ, g, h, d, g', he, an⟩ => ?_⟩
  rw [ev] at he
  obtain ⟨⟨x, g1⟩, h1, he⟩ := Option.bind_eq_some_iff.mp he
  obtain ⟨z, h3, he⟩ := Option.map_eq_some_iff.mp he
  cases he
  refine Subscript_ (thn (ha.run pins s σ H _ I (t1 h h1 (W := fun v2 H2 => ∃ F2 R2, Hold nm K F₀ H₀ R₀ F2 H2 R2 ρ _ σ ∧ Ext F H R F2 H2 R2 ∧ RpB F2 H2 R2 x v2) fun v F2 H2 R2 k2 e2 r => ⟨F2, R2, k2, e2, rpb_of r⟩)) fun v s1 ⟨v0, H1, I1, r1, F1, R1, k1, e1, r⟩ => ?_)
  have an1 := (an.step h k1 e1).ans k1
  have hst : PO X (some (.UnaryOp .USub (.Constant (.int 1) kk p1) p2)) (tPart (tUn (rU fun i => .int (-i)) (tC (.int 1)))) := po_some (pe_un un_neg pe_int)
  refine wpAny_Slice (thn (po_none.run pins s1 σ H1 (fun o H2 => o = none ∧ H2 = H1) I1 ⟨rfl, rfl⟩) fun vl s2 ⟨l, H2, I2, pl, el, eH2⟩ => thn (po_none.run pins s2 σ H2 (fun o H3 => o = none ∧ H3 = H2) I2 ⟨rfl, rfl⟩) fun vu s3 ⟨u, H3, I3, pu, eu, eH3⟩ => thn (hst.run pins s3 σ H3 (fun o H4 => o = some (-1) ∧ H4 = H3) I3 ⟨1, rfl, -1, rfl, rfl, rfl⟩) fun vs s4 ⟨o, H4, I4, ps, eo, eH4⟩ => ?_)
  subst el eu eo eH2 eH3 eH4
  have I5 : L2.Inv X pins σ H4 { s4 with heap := s4.heap.push { cls := .type "slice", data := .fields #[vl, vu, vs] } } := I4.kept (t' := s4.toks) fun b ob q => Heap.get?_push_of_some _ q
  unfold revD at h3
  split at h3
  · cases r.str
    split at h3
    · rename_i _ x0 _ hx
      cases h3
      obtain ⟨t, rfl⟩ := r1
      have hs : Heap.IsSliceOf (s4.heap.push { cls := .type "slice", data := .fields #[vl, vu, vs] }) s4.heap.objs.size vl vu vs := Heap.IsSliceOf.new _ vl vu vs
      obtain ⟨l', e1', e2'⟩ := IsPart.raw pl
      obtain ⟨u', e3', e4'⟩ := IsPart.raw pu
      obtain ⟨w', e5', e6'⟩ := IsPart.raw ps
      have el : l' = none := by cases l' with | none => rfl | some z => cases e2'
      have eu : u' = none := by cases u' with | none => rfl | some z => cases e4'
      subst el eu
      obtain ⟨os, hos, hcs, hds⟩ := hs
      have hs' : Heap.IsSlice (s4.heap.push { cls := .type "slice", data := .fields #[vl, vu, vs] }) s4.heap.objs.size none none w' := ⟨os, hos, hcs, by rw [hds, e1', e3', e5']⟩
      refine tail_any (ops := [.str x0 t, .ref s4.heap.objs.size]) (typeIs_str _ x0 t) PySem.F.slot_str_getitem.lookup ?_ (by with_unfolding_all rfl)
      refine wpAny_getItem_str_slice hs' (by rw [e6']; rfl) ?_
      unfold sliceMade slicePicked
      rw [e6']
      show Made.post (Made.str ⟨((Builtin.Str.strSliceIndices none none (-1) x0.length).filterMap (x0.cps[·]?)).toArray⟩) _ _
      rw [rev_signs]
      refine ⟨?_, .str _, H4, I5.tok _, ⟨_, rfl⟩, an1.same k1.sub (.str _)⟩
      show (x0.cps.toList.reverse.toArray).size ≤ sizeLine
      rw [List.size_toArray, List.length_reverse, Array.length_toList]
      exact hx
    · cases h3
  · cases h3
    obtain ⟨p, xs, rfl, hp, rp⟩ := r.list k1.sub
    cases r1
    obtain ⟨its, rr, ht, hz⟩ := I5.list (SqL.of hp)
    have hlen := rr.length
    refine tail_any (ops := [.ref p, .ref s4.heap.objs.size]) ht.isList.typeIs (PySem.slot_list_getitem.lookup) ?_ (by with_unfolding_all rfl)
    refine wpAny_getItem_list_slice ht.isList (Heap.IsSliceOf.new _ vl vu vs) pl pu ps (by decide) ?_ (by rw [List.size_toArray]; omega)
    rw [PySem.W.krv_pick]
    refine ⟨.ref _, _, I5.laid (t' := s4.toks) (o := .lst xs.reverse) (fun b ob q => Heap.get?_push_of_some _ q) (Nat.le_refl _) ?_, rfl, an1.newL k1.sub rp.reverse (I5.hok.fresh (Nat.le_refl _))⟩
    exact ⟨by rw [List.length_reverse]; exact hz, _, 0, rr.reverse, Heap.get?_push_size _ rfl⟩
  · cases h3
/-! ### lists of arguments -/
def AnsL (nm : RN) (F H : Hp) (R : RA) (g' : G) (l : Es) (ds : List D) (Q : List V → Hp → Prop) : Prop :=
  ∀ vs F' H' R', Ext F H R F' H' R' → RillAt nm R' g' H' → RpBL F' H' R' ds vs → (noBor l = true → RpL F' ds vs) → Q vs H'
def tEs (nm : RN) (K : PySem.W.Frag) (c : Cal) (l : Es) : TA := fun σ H Q => ∃ F₀ H₀ R₀ F R ρ g, Hold nm K F₀ H₀ R₀ F H R ρ g σ ∧ ∃ ds g', evs c l ρ g = some (ds, g') ∧ AnsL nm F H R g' l ds Q
theorem PA_imp {es : List Expr} {t t' : TA} (h : PA X es t) (f : ∀ σ H Q, t' σ H Q → t σ H Q) : PA X es t' := ⟨fun pos pins s σ H Q I q => h.run pos pins s σ H Q I (f σ H Q q)⟩
theorem RpBL.ext {F H F' H' : Hp} {R R' : RA} (e : Ext F H R F' H' R') : ∀ {ds : List D} {vs : List V}, RpBL F H R ds vs → RpBL F' H' R' ds vs
  | [], [], _ => trivial
  | [], _ :: _, h => h.elim
  | _ :: _, [], h => h.elim
  | _ :: _, _ :: _, h => ⟨h.1.ext e, RpBL.ext e h.2⟩
theorem as_nil : PA X [] (tEs nm K c .nil) := PA_imp pa_nil fun σ H Q ⟨F₀, H₀, R₀, F, R, ρ, g, h, ds, g', he, an⟩ => by
  cases he
  exact an [] F H R (Ext.refl h.sub h.ext.rf) h.rill trivial fun _ => .nil
theorem as_cons {l : Es} {xe : Expr} {xs : List Expr} (ha : PE X xe (tE nm K c a)) (hl : PA X xs (tEs nm K c l)) (hs : starEach (xe :: xs) X.env = (false, eval xe X.env) :: starEach xs X.env) : PA X (xe :: xs) (tEs nm K c (.cons a l)) :=
  PA_imp (pa_cons ha hl hs) fun σ H Q ⟨F₀, H₀, R₀, F, R, ρ, g, h, ds, g', he, an⟩ => by
    rw [evs] at he
    obtain ⟨⟨x, g1⟩, h1, he⟩ := Option.bind_eq_some_iff.mp he
    obtain ⟨⟨r, g2⟩, h2, he⟩ := Option.map_eq_some_iff.mp he
    cases he
    refine t1 h h1 fun v F1 H1 R1 k1 e1 r1 => ⟨F₀, H₀, R₀, F1, R1, ρ, _, k1, r, _, h2, fun vs F2 H2 R2 e2 w2 q1 q2 => ?_⟩
    refine an (v :: vs) F2 H2 R2 (e1.trans e2 k1.rs h.rs) w2 ⟨(rpb_of r1).ext e2, q1⟩ fun nb => ?_
    have nb' : isBor a = false ∧ noBor l = true := by
      unfold noBor at nb
      simpa using nb
    exact .cons ((bor_ans r1 nb'.1).mono e2.fz) (q2 nb'.2)
theorem e_tup {l : Es} {xs : List Expr} {kk : Nat} {pos : Pos} (hl : PA X xs (tEs nm K c l)) (nb : noBor l = true) : PE X (.Tuple xs kk pos) (tE nm K c (.tup l)) :=
  PE_imp (pe_tup hl) fun σ H Q ⟨F₀, H₀, R₀, F, R, ρ, g, h, d, g', he, an⟩ => by
    rw [ev] at he
    obtain ⟨⟨ds, g1⟩, h1, he⟩ := Option.bind_eq_some_iff.mp he
    dsimp only at he
    split at he
    · rename_i hz
      cases he
      refine ⟨F₀, H₀, R₀, F, R, ρ, g, h, ds, _, h1, fun vs F2 H2 R2 e2 w2 q1 q2 => ⟨by rw [← (q2 nb).length]; exact hz, fun p np => ?_⟩⟩
      have k2 := h.step e2 w2
      exact ((an.step h k2 e2).ans k2).newT k2.sub (q2 nb) np
    · cases he
theorem e_lst {l : Es} {xs : List Expr} {pos : Pos} (hl : PA X xs (tEs nm K c l)) (nb : noBor l = true) : PE X (.List xs pos) (tE nm K c (.lst l)) :=
  PE_imp (pe_lst hl) fun σ H Q ⟨F₀, H₀, R₀, F, R, ρ, g, h, d, g', he, an⟩ => by
    rw [ev] at he
    obtain ⟨⟨ds, g1⟩, h1, he⟩ := Option.bind_eq_some_iff.mp he
    dsimp only at he
    split at he
    · rename_i hz
      cases he
      refine ⟨F₀, H₀, R₀, F, R, ρ, g, h, ds, _, h1, fun vs F2 H2 R2 e2 w2 q1 q2 => ⟨by rw [← (q2 nb).length]; exact hz, fun p np => ?_⟩⟩
      have k2 := h.step e2 w2
      exact ((an.step h k2 e2).ans k2).newL k2.sub (q2 nb) np
    · cases he
theorem bi_ans {f : String} {l : Es} {σ : L2.St} {H : Hp} {Q : VK} (t : tE nm K c (.bi f l) σ H Q) : tCB (rF (biD f)) (tEs nm K c l) σ H Q := by
  obtain ⟨F₀, H₀, R₀, F, R, ρ, g, h, d, g', he, an⟩ := t
  rw [ev] at he
  obtain ⟨⟨ds, g1⟩, h1, he⟩ := Option.bind_eq_some_iff.mp he
  obtain ⟨z, h2, he⟩ := Option.map_eq_some_iff.mp he
  cases he
  refine ⟨F₀, H₀, R₀, F, R, ρ, g, h, ds, _, h1, fun vs F2 H2 R2 e2 w2 q1 q2 => ⟨F2, R2, ds, _, (h.step e2 w2).sub, q1, h2, (an.step h (h.step e2 w2) e2).ans (h.step e2 w2)⟩⟩
/-- each built-in function -/
theorem bi_ok (w : CxR X) {f : String} {v : Value} (h : biKind f = some v) : CallR X v (rF (biD f)) := by
  unfold biKind at h
  split at h <;> first | cases h | skip
  all_goals first
    | exact len_ok w | exact tuple_ok w | exact list_ok w | exact sum_ok w | exact sorted_ok w | exact int_ok w | exact abs_ok w | exact max_ok w | exact min_ok w | exact any_ok w | exact all_ok w | exact repr_ok w | exact dict_ok w
theorem bi_kind {f : String} {v : Value} (h : biKind f = some v) : (∃ id, v = .builtin id) ∨ ∃ T, v = .type T := by
  unfold biKind at h
  split at h <;> first | (cases h; exact .inl ⟨_, rfl⟩) | (cases h; exact .inr ⟨_, rfl⟩) | cases h
theorem okN_parts {y : PySem.Str} (h : okN y = true) : (y == ("__debug__" : PySem.Str)) = false ∧ (y == ("__classdict__" : PySem.Str)) = false ∧ y ≠ "__name__" := by
  unfold okN at h
  simp only [Bool.and_eq_true, Bool.not_eq_true'] at h
  exact ⟨h.1.1, h.1.2, fun e => by rw [e] at h; exact absurd h.2 (by decide)⟩
theorem e_bi (w : CxW P k c X) {f : String} {l : Es} {n : PySem.Str} {v : Value} {xe : Expr} {xs : List Expr} {p pos : Pos} (hg : X.env.scope.names.lookup n = some .globalImplicit) (hm : n ∈ P.blt) (ho : okN n = true) (hk : biKind f = some v) (hv : bootBuiltins n = some v)
    (hl : PA X (xe :: xs) (tEs nm K c l)) (hs : starEach (xe :: xs) X.env = (false, eval xe X.env) :: starEach xs X.env) (hpl : (backTo pos (starEach xs X.env)).any (·.1) = false) : PE X (.Call (.Name n p) (xe :: xs) [] pos) (tE nm K c (.bi f l)) := by
  have o := okN_parts ho
  rcases bi_kind hk with ⟨id, rfl⟩ | ⟨T, rfl⟩
  · exact PE_imp (pe_callB (bi_ok w.toCxR hk) hg (w.blt n hm) hv hl o.2.2 o.1 hs hpl) fun σ H Q => bi_ans
  · exact PE_imp (pe_callTy (bi_ok w.toCxR hk) hg (w.blt n hm) hv hl o.2.2 o.1 hs hpl) fun σ H Q => bi_ans
theorem e_join (w : CxW P k c X) {oe ye : Expr} {apos pos : Pos} (ha : PE X oe (tE nm K c a)) (hb : PE X ye (tE nm K c b)) (hs : starEach [ye] X.env = [(false, eval ye X.env)]) (hbase : attributeBase oe "join" X.env (eval oe X.env) = eval oe X.env) (hline : (apos.endLine == pos.line) = true) :
    PE X (.Call (.Attribute oe "join" apos) [ye] [] pos) (tE nm K c (.mt "join" a (.cons b .nil))) :=
  PE_imp (pe_m1 PySem.F.slot_str_join PySem.F.type_str_join (join_ok w.toCxR) ha hb hs hbase hline) fun σ H Q ⟨F₀, H₀, R₀, F, R, ρ, g, h, d, g', he, an⟩ => by
    rw [ev] at he
    obtain ⟨⟨x, g1⟩, h1, he⟩ := Option.bind_eq_some_iff.mp he
    obtain ⟨⟨ds, g2⟩, h2, he⟩ := Option.bind_eq_some_iff.mp he
    obtain ⟨z, h3, he⟩ := Option.map_eq_some_iff.mp he
    cases he
    rw [evs] at h2
    obtain ⟨⟨y, g3⟩, h2, h4⟩ := Option.bind_eq_some_iff.mp h2
    obtain ⟨⟨r, g4⟩, h5, h4⟩ := Option.map_eq_some_iff.mp h4
    cases h4
    cases h5
    have hj : joinM x [y] = some d := h3
    refine t1 h h1 fun v1 F1 H1 R1 k1 e1 r1 => ⟨?_, t1 k1 h2 fun v2 F2 H2 R2 k2 e2 r2 => ⟨F2, R2, x, [y], d, k2.sub, (rpb_of r1).ext e2, ⟨rpb_of r2, trivial⟩, hj, (an.step h k2 (e1.trans e2 k1.rs h.rs)).ans k2⟩⟩
    unfold joinM at hj
    split at hj
    · exact ⟨_, (rpb_of r1).str⟩
    · exact ⟨_, (rpb_of r1).str⟩
    · cases hj
end
end PV
set_option maxHeartbeats 1000000
namespace PV
open PySem PySem.Spec PyProof.Rows L2
/-! ### arguments of calls -/
def evA (c : Cal) (e : E) (ρ : List Sl) (g : G) : Option (Arg × G) :=
  match e with
  | .loc i => (match ρ[i]? with
    | some (.v d) => some (Arg.d d, g)
    | some .rill => some (Arg.rill, g)
    | some (.scr ns) => some (Arg.scr ns, g)
    | _ => none)
  | _ => (ev c e ρ g).map fun (x, g) => (Arg.d x, g)
theorem evAs_cons (c : Cal) (e : E) (l : Es) (ρ : List Sl) (g : G) : evAs c (.cons e l) ρ g = (evA c e ρ g).bind fun (x, g) => (evAs c l ρ g).map fun (xs, g) => (x :: xs, g) := by
  cases e <;> simp only [evAs, evA] <;> rfl
def AnsA (nm : RN) (K : PySem.W.Frag) (F H : Hp) (R : RA) (g' : G) (as : List Arg) (Q : List V → Hp → Prop) : Prop :=
  ∀ vs F' H' R', Ext F H R F' H' R' → RillAt nm R' g' H' → ArgsOk K F' H' R' as vs → Q vs H'
def tArg (nm : RN) (K : PySem.W.Frag) (c : Cal) (e : E) : TE := fun σ H Q => ∃ F₀ H₀ R₀ F R ρ g, Hold nm K F₀ H₀ R₀ F H R ρ g σ ∧ ∃ a g', evA c e ρ g = some (a, g') ∧ ∀ v F' H' R', Ext F H R F' H' R' → RillAt nm R' g' H' → ArgOk K F' H' R' a v → Q v H'
def tAs (nm : RN) (K : PySem.W.Frag) (c : Cal) (l : Es) : TA := fun σ H Q => ∃ F₀ H₀ R₀ F R ρ g, Hold nm K F₀ H₀ R₀ F H R ρ g σ ∧ ∃ as g', evAs c l ρ g = some (as, g') ∧ AnsA nm K F H R g' as Q
section
variable {P : PInfo} {k : Nat} {c : Cal} {X : Cx} {nm : RN} {K : PySem.W.Frag} {F₀ H₀ F H : Hp} {R₀ R : RA} {ρ : List Sl} {g g1 g2 : G} {σ : L2.St} {Q : VK} {a b e : E} {x y : D} {d : D}
theorem arg_loc {i : Nat} {n : PySem.Str} {pos : Pos} (hn : X.N[i]? = some n) (hv : Vis X.env.scope n) (ho : okN n = true) : PE X (.Name n pos) (tArg nm K c (.loc i)) := by
  have o := okN_parts ho
  refine PE_imp (pe_var hn hv o.1 o.2.1) fun σ H Q ⟨F₀, H₀, R₀, F, R, ρ, g, h, d, g', he, an⟩ => ?_
  unfold evA at he
  dsimp only at he
  split at he
  · rename_i d0 hs
    cases he
    obtain ⟨v, h1, h2⟩ := h.slot i _ hs
    exact ⟨v, h1, an v F H R (Ext.refl h.sub h.ext.rf) h.rill h2⟩
  · rename_i hs
    cases he
    obtain ⟨p, h1, h2⟩ := h.slot i _ hs
    exact ⟨.ref p.1, h2, an _ F H R (Ext.refl h.sub h.ext.rf) h.rill ⟨p, h1, rfl⟩⟩
  · rename_i ns hs
    cases he
    obtain ⟨p, h1, h2, _⟩ := h.slot i _ hs
    exact ⟨.ref p, h1, an _ F H R (Ext.refl h.sub h.ext.rf) h.rill ⟨p, rfl, h2⟩⟩
  · cases he
theorem arg_val {xe : Expr} (ha : PE X xe (tE nm K c a)) (nb : isBor a = false) (nl : ∀ i, a ≠ .loc i) : PE X xe (tArg nm K c a) :=
  PE_imp ha fun σ H Q ⟨F₀, H₀, R₀, F, R, ρ, g, h, d, g', he, an⟩ => by
    have e : evA c a ρ g = (ev c a ρ g).map fun (x, g) => (Arg.d x, g) := by
      unfold evA
      split
      · exact absurd rfl (nl _)
      · rfl
    rw [e] at he
    obtain ⟨⟨x, g1⟩, h1, he⟩ := Option.map_eq_some_iff.mp he
    cases he
    exact ⟨F₀, H₀, R₀, F, R, ρ, g, h, x, _, h1, fun v F' H' R' e r w => an v F' H' R' e r (bor_ans w nb)⟩
theorem arg_of {N : List PySem.Str} {sc : Scope} {xe : Expr} (hN : X.N = N) (hsc : X.env.scope = sc) (hx : CkE P N sc a xe) (ha : PE X xe (tE nm K c a)) (nb : isBor a = false) : PE X xe (tArg nm K c a) := by
  by_cases hl : ∃ i, a = .loc i
  · obtain ⟨i, rfl⟩ := hl
    cases hx with
    | loc h1 h2 h3 => exact arg_loc (by rw [hN]; exact h1) (by rw [hsc]; exact h2) h3
  · exact arg_val ha nb fun i e => hl ⟨i, e⟩
theorem ga_nil : PA X [] (tAs nm K c .nil) := PA_imp pa_nil fun σ H Q ⟨F₀, H₀, R₀, F, R, ρ, g, h, ds, g', he, an⟩ => by
  cases he
  exact an [] F H R (Ext.refl h.sub h.ext.rf) h.rill trivial
theorem ga_step {l : Es} {σ : L2.St} {H : Hp} {Q : List V → Hp → Prop} (t : tAs nm K c (.cons a l) σ H Q) : tCons (tArg nm K c a) (tAs nm K c l) σ H Q := by
  obtain ⟨F₀, H₀, R₀, F, R, ρ, g, h, ds, g', he, an⟩ := t
  rw [evAs_cons] at he
  obtain ⟨⟨x, g1⟩, h1, he⟩ := Option.bind_eq_some_iff.mp he
  obtain ⟨⟨r, g2⟩, h2, he⟩ := Option.map_eq_some_iff.mp he
  cases he
  refine ⟨F₀, H₀, R₀, F, R, ρ, g, h, x, g1, h1, fun v F1 H1 R1 e1 w1 r1 => ?_⟩
  have k1 := h.step e1 w1
  exact ⟨F₀, H₀, R₀, F1, R1, ρ, _, k1, r, _, h2, fun vs F2 H2 R2 e2 w2 q1 => an (v :: vs) F2 H2 R2 (e1.trans e2 k1.rs h.rs) w2 ⟨r1.ext e2, q1⟩⟩
theorem ga_cons {l : Es} {xe : Expr} {xs : List Expr} (ha : PE X xe (tArg nm K c a)) (hl : PA X xs (tAs nm K c l)) (hs : starEach (xe :: xs) X.env = (false, eval xe X.env) :: starEach xs X.env) : PA X (xe :: xs) (tAs nm K c (.cons a l)) :=
  PA_imp (pa_cons ha hl hs) fun σ H Q => ga_step
theorem PK_imp {es : List Keyword} {t t' : TA} (h : PK X es t) (f : ∀ σ H Q, t' σ H Q → t σ H Q) : PK X es t' := ⟨fun pos pins s σ H Q I q => h.run pos pins s σ H Q I (f σ H Q q)⟩
theorem gk_nil : PK X [] (tAs nm K c .nil) := PK_imp pk_nil fun σ H Q ⟨F₀, H₀, R₀, F, R, ρ, g, h, ds, g', he, an⟩ => by
  cases he
  exact an [] F H R (Ext.refl h.sub h.ext.rf) h.rill trivial
theorem gk_cons {l : Es} {xe : Expr} {n : PySem.Str} {kp : Pos} {xs : List Keyword} (ha : PE X xe (tArg nm K c a)) (hl : PK X xs (tAs nm K c l)) : PK X (⟨some n, xe, kp⟩ :: xs) (tAs nm K c (.cons a l)) :=
  PK_imp (pk_cons ha hl) fun σ H Q => ga_step
theorem find_range {n j : Nat} (h : j < n) : (List.range n).findIdx? (· == j) = some j := by
  rw [List.findIdx?_eq_some_iff_getElem]
  refine ⟨by simpa using h, by simp, fun i hi => ?_⟩
  simp only [List.getElem_range, beq_iff_eq]
  omega
theorem fm_congr {α β : Type} {f g : α → Option β} : ∀ {l : List α}, (∀ a ∈ l, f a = g a) → l.filterMap f = l.filterMap g
  | [], _ => rfl
  | a :: l, h => by
    rw [List.filterMap_cons, List.filterMap_cons, h a (List.mem_cons_self ..), fm_congr fun b hb => h b (List.mem_cons_of_mem _ hb)]
theorem permA_range {α : Type} (l : List α) : permA (List.range l.length) l = l := by
  unfold permA
  have e : ∀ j ∈ List.range l.length, (((List.range l.length).findIdx? (· == j)).bind fun i => l[i]?) = l[j]? := fun j hj => by
    rw [find_range (List.mem_range.mp hj)]
    rfl
  rw [fm_congr e]
  apply List.ext_getElem?
  intro i
  have key : ∀ (m : List α), (List.range m.length).filterMap (fun j => m[j]?) = m := by
    intro m
    induction m with
    | nil => rfl
    | cons a m ih =>
      rw [List.length_cons, List.range_succ_eq_map, List.filterMap_cons]
      simp only [List.getElem?_cons_zero]
      rw [List.filterMap_map]
      have : ((fun j => (a :: m)[j]?) ∘ Nat.succ) = fun j => m[j]? := by
        funext j
        simp
      rw [this, ih]
  rw [key]
theorem ArgsOk.get {K : PySem.W.Frag} {F H : Hp} {R : RA} : ∀ {as : List Arg} {vs : List V} (i : Nat), ArgsOk K F H R as vs → (as[i]? = none ∧ vs[i]? = none) ∨ ∃ a v, as[i]? = some a ∧ vs[i]? = some v ∧ ArgOk K F H R a v
  | [], [], _, _ => .inl ⟨by simp, by simp⟩
  | [], _ :: _, _, h => h.elim
  | _ :: _, [], _, h => h.elim
  | _ :: _, _ :: _, 0, h => .inr ⟨_, _, rfl, rfl, h.1⟩
  | _ :: as, _ :: vs, i + 1, h => by simpa using ArgsOk.get i h.2
theorem ArgsOk.perm {K : PySem.W.Frag} {F H : Hp} {R : RA} {as : List Arg} {vs : List V} (q : List Nat) (h : ArgsOk K F H R as vs) : ArgsOk K F H R (permA q as) (permA q vs) := by
  unfold permA
  rw [h.length]
  generalize List.range vs.length = r
  induction r with
  | nil => exact trivial
  | cons j r ih =>
    rw [List.filterMap_cons, List.filterMap_cons]
    cases hf : q.findIdx? (· == j) with
    | none => exact ih
    | some i =>
      rcases h.get i with ⟨e1, e2⟩ | ⟨a, v, e1, e2, hav⟩
      · simp only [Option.bind_some, e1, e2]; exact ih
      · simp only [Option.bind_some, e1, e2]; exact ⟨hav, ih⟩
theorem vals_get : ∀ {vs : List V} {us : List Value} (i : Nat), Vals vs us → (vs[i]? = none ∧ us[i]? = none) ∨ ∃ a v, vs[i]? = some a ∧ us[i]? = some v ∧ RelV a v
  | _, _, _, .nil => .inl ⟨by simp, by simp⟩
  | _, _, 0, .cons r _ => .inr ⟨_, _, rfl, rfl, r⟩
  | _, _, i + 1, .cons _ t => by simpa using vals_get i t
theorem vals_perm {vs : List V} {us : List Value} (q : List Nat) (h : Vals vs us) : Vals (permA q vs) (permA q us) := by
  unfold permA
  rw [h.length]
  generalize List.range us.length = r
  induction r with
  | nil => exact .nil
  | cons j r ih =>
    rw [List.filterMap_cons, List.filterMap_cons]
    cases hf : q.findIdx? (· == j) with
    | none => exact ih
    | some i =>
      rcases vals_get i h with ⟨e1, e2⟩ | ⟨a, v, e1, e2, hav⟩
      · simp only [Option.bind_some, e1, e2]; exact ih
      · simp only [Option.bind_some, e1, e2]; exact .cons hav ih
/-- the call's promise from the evaluator's -/
theorem call_ans {f : Nat} {l : Es} {q : List Nat} {n : Nat} (hn : ∀ as : List Arg, True) {σ : L2.St} {H : Hp} {Q : VK} (t : tE nm K c (.call f l q) σ H Q) :
    tAs nm K c l σ H fun vs H1 => ∃ F R g as d g', SubF F H1 ∧ (∀ a, inR R a → F a = none) ∧ RillAt nm R g H1 ∧ ArgsOk K F H1 R as vs ∧ c f (permA q as) g = some (d, g') ∧
      ∀ v F' H' R', Ext F H1 R F' H' R' → RillAt nm R' g' H' → Rp F' d v → Q v H' := by
  obtain ⟨F₀, H₀, R₀, F, R, ρ, g, h, d, g', he, an⟩ := t
  rw [ev] at he
  obtain ⟨⟨as, g1⟩, h1, he⟩ := Option.bind_eq_some_iff.mp he
  refine ⟨F₀, H₀, R₀, F, R, ρ, g, h, as, g1, h1, fun vs F2 H2 R2 e2 w2 q1 => ?_⟩
  have k2 := h.step e2 w2
  exact ⟨F2, R2, g1, as, d, g', k2.sub, k2.ext.rf, w2, q1, he, fun v F' H' R' e r z => an v F' H' R' (e2.trans e k2.rs h.rs) r z⟩
theorem e_call (w : CxW P k c X) {f : Nat} {fd : Fd} {l : Es} {xe : Expr} {xs : List Expr} {p pos : Pos} (hf : P.fds[f]? = some fd) (hg : X.env.scope.names.lookup fd.name = some .globalImplicit) (ho : okN fd.name = true) (hl : PA X (xe :: xs) (tAs P.nm X.K c l))
    (hlen : ∀ {σ H Q}, tAs P.nm X.K c l σ H Q → tAs P.nm X.K c l σ H fun vs H' => vs.length = fd.np ∧ Q vs H')
    (hs : starEach (xe :: xs) X.env = (false, eval xe X.env) :: starEach xs X.env) (hpl : (backTo pos (starEach xs X.env)).any (·.1) = false) :
    PE X (.Call (.Name fd.name p) (xe :: xs) [] pos) (tE P.nm X.K c (.call f l (List.range fd.np))) := by
  obtain ⟨fa, fdt, hm, hk, fok, hb, hnp, hkw⟩ := w.funs f fd hf
  refine PE_imp (pe_callG fok w.room w.guards hg hm hk hb hl (okN_parts ho).1 hs hpl) fun σ H Q t => ?_
  have t2 := hlen (call_ans (n := 0) (fun _ => trivial) t)
  obtain ⟨F₀, H₀, R₀, F, R, ρ, g, h, as, g', he, an⟩ := t2
  refine ⟨F₀, H₀, R₀, F, R, ρ, g, h, as, g', he, fun vs F' H' R' e r q => ?_⟩
  obtain ⟨hv, F1, R1, g1, as1, d, g2, s1, s2, s3, s4, s5, s6⟩ := an vs F' H' R' e r q
  have la : as1.length = fd.np := s4.length.trans hv
  refine ⟨F1, R1, g1, as1, d, g2, s1, s2, s3, s4, la, ?_, s6⟩
  rw [← la, permA_range] at s5
  exact s5
end
end PV
set_option maxHeartbeats 1000000
namespace PV
open PySem PySem.Spec PyProof.Rows L2
theorem evAs_len {c : Cal} {ρ : List Sl} : ∀ {l : Es} {g g' : G} {as : List Arg}, evAs c l ρ g = some (as, g') → as.length = esLen l
  | .nil, _, _, _, h => by cases h; rfl
  | .cons e l, _, _, _, h => by
    rw [evAs_cons] at h
    obtain ⟨⟨x, g1⟩, h1, h⟩ := Option.bind_eq_some_iff.mp h
    obtain ⟨⟨r, g2⟩, h2, h⟩ := Option.map_eq_some_iff.mp h
    cases h
    exact congrArg (· + 1) (evAs_len h2)
theorem permA_length {α β : Type} (q : List Nat) {l : List α} {m : List β} (h : l.length = m.length) : (permA q l).length = (permA q m).length := by
  unfold permA
  rw [h]
  generalize List.range m.length = r
  induction r with
  | nil => rfl
  | cons j r ih =>
    rw [List.filterMap_cons, List.filterMap_cons]
    cases hf : q.findIdx? (· == j) with
    | none => exact ih
    | some i =>
      simp only [Option.bind_some]
      by_cases hi : i < l.length
      · rw [List.getElem?_eq_getElem hi, List.getElem?_eq_getElem (h ▸ hi)]
        exact congrArg (· + 1) ih
      · rw [List.getElem?_eq_none (Nat.le_of_not_lt hi), List.getElem?_eq_none (by omega)]
        exact ih
section
variable {P : PInfo} {k : Nat} {c : Cal} {X : Cx} {nm : RN} {K : PySem.W.Frag} {F₀ H₀ F H : Hp} {R₀ R : RA} {ρ : List Sl} {g g1 g2 : G} {σ : L2.St} {Q : VK} {a b e : E} {x y : D} {d : D}
theorem tAs_len {l : Es} {σ : L2.St} {H : Hp} {Q : List V → Hp → Prop} (t : tAs nm K c l σ H Q) : tAs nm K c l σ H fun vs H' => vs.length = esLen l ∧ Q vs H' := by
  obtain ⟨F₀, H₀, R₀, F, R, ρ, g, h, as, g', he, an⟩ := t
  exact ⟨F₀, H₀, R₀, F, R, ρ, g, h, as, g', he, fun vs F' H' R' e r q => ⟨by rw [← q.length, evAs_len he], an vs F' H' R' e r q⟩⟩
theorem e_call0 (w : CxW P k c X) {f : Nat} {fd : Fd} {p pos : Pos} (hf : P.fds[f]? = some fd) (hg : X.env.scope.names.lookup fd.name = some .globalImplicit) (ho : okN fd.name = true) (hnp0 : fd.np = 0) :
    PE X (.Call (.Name fd.name p) [] [] pos) (tE P.nm X.K c (.call f .nil [])) := by
  obtain ⟨fa, fdt, hm, hk, fok, hb, hnp, hkw⟩ := w.funs f fd hf
  refine ⟨fun pins s σ H Q I t => ?_⟩
  obtain ⟨F₀, H₀, R₀, F, R, ρ, g, h, as, g', he, an⟩ := call_ans (n := 0) (fun _ => trivial) t
  cases he
  obtain ⟨F1, R1, g1, as1, d, g2, s1, s2, s3, s4, s5, s6⟩ := an [] F H R (Ext.refl h.sub h.ext.rf) h.rill trivial
  have la : as1.length = 0 := s4.length
  have e0 : as1 = [] := List.length_eq_zero_iff.mp la
  subst e0
  refine wpAny_Call_Name_kw (ld_glob I hg hm ?_ (okN_parts ho).1)
  exact PySem.W.callWith_K0 I.kIn hk (run_fng (us := []) (vs := []) fok w.room w.guards hb I .nil ⟨F1, R1, g1, [], d, g2, s1, s2, s3, trivial, hnp0.symm, s5, s6⟩)
theorem pk_len {es : List Keyword} {t : TA} (h : PK X es t) : True := trivial
theorem run_fngk {pins : List (Addr × Obj)} {σ : L2.St} {H : Hp} {s : Shared} {Q : VK} {us : List Value} {vs : List V} {f : Addr} {fdt : FuncData} {ps ks : List PySem.Str} {q : List Nat} {sp : Sp} (Fk : FnG X.prog X.w X.K X.mg X.base k f fdt ps sp) (hr : Room k X.A) (hg : X.A.guards = some [])
    (hb : KwB fdt ps ks q) (hl : us.length = ks.length) (I : L2.Inv X pins σ H s) (r : Vals vs us) (h : sp (permA q vs) H Q E0) : wpAny (model X.prog X.w) X.A (call (.ref f) [] (ks.zip us)) (EP X pins σ Q) X.xe s := by
  refine wpAny_call (codeAny_mono (Fk.run X.A X.stack s H ⟨[], ks.zip us⟩ (permA q us) (permA q vs) Q hr hg I.env0 (.of_eq (hb us hl)) (vals_perm q r) h) fun r s' hq => ?_)
  cases r with
  | error e => exact False.elim hq
  | ok fl =>
    cases fl with
    | ret u => exact I.after hq
    | next => exact False.elim hq
    | brk => exact False.elim hq
    | cont => exact False.elim hq
theorem e_callk (w : CxW P k c X) {f : Nat} {fd : Fd} {l : Es} {kws : List Keyword} {ks : List PySem.Str} {q : List Nat} {p pos : Pos} (hf : P.fds[f]? = some fd) (hg : X.env.scope.names.lookup fd.name = some .globalImplicit) (ho : okN fd.name = true)
    (hl : PK X kws (tAs P.nm X.K c l)) (hq : (f, ks, q) ∈ P.kws) (hlen : esLen l = ks.length) (hnpk : ks.length = fd.np) (hqp : (permA q (List.range fd.np)).length = fd.np)
    (hall : (backToKw pos (keywordEach kws X.env)).all (·.1.isSome) = true) (hks : (backToKw pos (keywordEach kws X.env)).filterMap (·.1) = ks) (hnone : (backToKw pos (keywordEach kws X.env)).any (·.1.isNone) = false) :
    PE X (.Call (.Name fd.name p) [] kws pos) (tE P.nm X.K c (.call f l q)) := by
  obtain ⟨fa, fdt, hm, hk, fok, hb, hnp, hkw⟩ := w.funs f fd hf
  refine ⟨fun pins s σ H Q I t => ?_⟩
  have t2 := tAs_len (call_ans (n := 0) (fun _ => trivial) t)
  refine wpAny_Call_Name_kw (ld_glob I hg hm ?_ (okN_parts ho).1)
  refine PySem.W.callWith_KW0 (h₀ := X.base) I.ok.mod.kin hk hall (thn (hl.run pos pins s σ H _ I t2) fun us s1 ⟨vs, H1, I1, r, hv, F1, R1, g1, as1, d, g2, s1', s2, s3, s4, s5, s6⟩ => ⟨I1.kIn, ?_⟩) (by rw [hnone]; rfl)
  rw [hks]
  have lu : us.length = ks.length := by rw [← r.length, hv, hlen]
  refine run_fngk fok w.room w.guards (hkw ks q hq) lu I1 r ⟨F1, R1, g1, permA q as1, d, g2, s1', s2, s3, s4.perm q, ?_, s5, s6⟩
  rw [permA_length q (m := List.range fd.np) (by rw [List.length_range, s4.length, hv, hlen, hnpk]), hqp]
end
end PV
set_option maxHeartbeats 1000000
namespace PV
open PySem PySem.Spec PyProof.Rows L2
/-! ### targets -/
def gT (K : PySem.W.Frag) : Tg → TG
  | .v i => gName i
  | .t2 a b => gTup K 2 (gCons (gT K a) (gCons (gT K b) gNil))
  | .t3 a b c => gTup K 3 (gCons (gT K a) (gCons (gT K b) (gCons (gT K c) gNil)))
section
variable {P : PInfo} {k : Nat} {c : Cal} {X : Cx} {nm : RN} {K : PySem.W.Frag} {F₀ H₀ F H : Hp} {R₀ R : RA} {ρ : List Sl} {g g1 g2 : G} {σ : L2.St} {Q : VK} {a b e : E} {x y : D} {d : D}
theorem ckT_plain {N : List PySem.Str} {sc : Scope} {fn : PySem.Str → Bool} {t : Tg} {x : Expr} {xs : List Expr} (h : CkT N sc fn t x) (env : Env) : assignEach (x :: xs) env = (false, assign x env) :: assignEach xs env := by
  cases h <;> rfl
theorem g_ok {N : List PySem.Str} {sc : Scope} {fn : PySem.Str → Bool} (hN : X.N = N) (hnd : N.Nodup) (hcal : X.calm = true) (hsc : X.env.scope = sc) (hfn : X.fn = fn) : ∀ {t : Tg} {x : Expr}, CkT N sc fn t x → PG X x (gT X.K t)
  | _, _, .v h1 h2 h3 => by
    subst hN hsc hfn
    exact pg_name hnd h1 h2 h3
  | _, _, .t2 (x := x) (y := y) ha hb => by
    have e2 := ckT_plain (xs := []) hb X.env
    have e1 := ckT_plain (xs := [y]) ha X.env
    refine pg_tup hcal (pgs_cons (g_ok hN hnd hcal hsc hfn ha) (pgs_cons (g_ok hN hnd hcal hsc hfn hb) pgs_nil ?_) ?_) ?_ ?_
    · rw [e2]; rfl
    · rw [e1]; rfl
    · rw [e1, e2]; rfl
    · rw [e1, e2]; rfl
  | _, _, .t3 (x := x) (y := y) (z := z) ha hb hc => by
    have e3 := ckT_plain (xs := []) hc X.env
    have e2 := ckT_plain (xs := [z]) hb X.env
    have e1 := ckT_plain (xs := [y, z]) ha X.env
    refine pg_tup hcal (pgs_cons (g_ok hN hnd hcal hsc hfn ha) (pgs_cons (g_ok hN hnd hcal hsc hfn hb) (pgs_cons (g_ok hN hnd hcal hsc hfn hc) pgs_nil ?_) ?_) ?_) ?_ ?_
    · rw [e3]; rfl
    · rw [e2]; rfl
    · rw [e1]; rfl
    · rw [e1, e2, e3]; rfl
    · rw [e1, e2, e3]; rfl
/-- off the slots vs nothing is changed -/
def Off (vs : List Nat) (σ σ' : L2.St) : Prop := σ'.length = σ.length ∧ ∀ i, i ∉ vs → σ'[i]? = σ[i]?
theorem Off.trans {vs ws : List Nat} {σ σ1 σ2 : L2.St} (h : Off vs σ σ1) (g : Off ws σ1 σ2) : Off (vs ++ ws) σ σ2 :=
  ⟨g.1.trans h.1, fun i n => by
    rw [List.mem_append, not_or] at n
    rw [g.2 i n.2, h.2 i n.1]⟩
theorem wipe_get (σ : L2.St) (i : Nat) : ∀ vs : List Nat, (wipe σ vs)[i]? = if i ∈ vs ∧ i < σ.length then some none else σ[i]?
  | [] => by simp [wipe]
  | v :: vs => by
    unfold wipe
    rw [List.getElem?_set, wipe_length, wipe_get σ i vs]
    by_cases e : v = i
    · subst e
      by_cases hl : v < σ.length
      · simp [hl]
      · simp [hl]
    · have e' : ¬ i = v := fun q => e q.symm
      simp [e, e', List.mem_cons]
theorem Off.wipe {vs : List Nat} {σ σ' : L2.St} (h : Off vs (wipe σ vs) σ') : wipe σ' vs = wipe σ vs := by
  apply List.ext_getElem?
  intro i
  have hl : σ'.length = σ.length := by rw [h.1, wipe_length]
  rw [wipe_get, wipe_get, hl]
  by_cases hi : i ∈ vs
  · by_cases hlt : i < σ.length
    · simp [hi, hlt]
    · simp [hlt]
      omega
  · simp [hi]
    rw [h.2 i hi, wipe_get]
    simp [hi]
theorem Hold.put (h : Hold nm K F₀ H₀ R₀ F H R ρ g σ) {v : V} (i : Nat) (r : Rp F d v) : Hold nm K F₀ H₀ R₀ F H R (ρ.set i (.v d)) g (σ.set i (some v)) where
  ext := h.ext
  rill := h.rill
  rill0 := h.rill0
  len := by rw [List.length_set, List.length_set, h.len]
  slot := fun j s q => by
    rw [List.getElem?_set] at q ⊢
    by_cases e : i = j
    · subst e
      rw [if_pos rfl] at q ⊢
      split at q
      · rename_i hlt
        cases q
        rw [if_pos (h.len ▸ hlt)]
        exact ⟨v, rfl, r⟩
      · cases q
    · rw [if_neg e] at q ⊢
      exact h.slot j s q
  dist := fun j l d' e' p hjl h1 h2 h3 h4 => by
    rw [List.getElem?_set] at h1 h2 h3 h4
    by_cases e : i = j
    · subst e
      rw [if_pos rfl] at h1
      split at h1 <;> cases h1
    · by_cases e2 : i = l
      · subst e2
        rw [if_pos rfl] at h2
        split at h2 <;> cases h2
      · rw [if_neg e] at h1 h3
        rw [if_neg e2] at h2 h4
        exact h.dist j l d' e' p hjl h1 h2 h3 h4
theorem bindT2 {a b : Tg} {d : D} {ρ ρ' : List Sl} (h : bindT (.t2 a b) d ρ = some ρ') : ∃ x y, d = .tuple [x, y] ∧ ∃ ρ1, bindT a x ρ = some ρ1 ∧ bindT b y ρ1 = some ρ' := by
  unfold bindT at h
  split at h
  · rename_i heq; cases heq
  · rename_i heq
    cases heq
    exact ⟨_, _, rfl, Option.bind_eq_some_iff.mp h⟩
  · rename_i heq; cases heq
  · cases h
theorem bindT3 {a b c : Tg} {d : D} {ρ ρ' : List Sl} (h : bindT (.t3 a b c) d ρ = some ρ') : ∃ x y z, d = .tuple [x, y, z] ∧ ∃ ρ1, bindT a x ρ = some ρ1 ∧ ∃ ρ2, bindT b y ρ1 = some ρ2 ∧ bindT c z ρ2 = some ρ' := by
  unfold bindT at h
  split at h
  · rename_i heq; cases heq
  · rename_i heq; cases heq
  · rename_i heq
    cases heq
    obtain ⟨ρ1, h1, h2⟩ := Option.bind_eq_some_iff.mp h
    exact ⟨_, _, _, rfl, ρ1, h1, Option.bind_eq_some_iff.mp h2⟩
  · cases h
theorem g_bind {t : Tg} : ∀ {d : D} {v : V} {ρ ρ' : List Sl} {σ : L2.St} {Q : L2.St → Hp → Prop}, Hold nm K F₀ H₀ R₀ F H R ρ g σ → Rp F d v → bindT t d ρ = some ρ' →
    (∀ σ', Hold nm K F₀ H₀ R₀ F H R ρ' g σ' → Off (tgIx t) σ σ' → Q σ' H) → gT K t v σ H Q := by
  induction t with
  | v i =>
    intro d v ρ ρ' σ Q h r hb q
    cases hb
    refine q _ (h.put i r) ⟨by rw [List.length_set], fun j n => ?_⟩
    rw [List.getElem?_set_ne]
    exact fun e => n (by rw [e]; exact List.mem_cons_self ..)
  | t2 a b iha ihb =>
    intro d v ρ ρ' σ Q h r hb q
    obtain ⟨x, y, rfl, ρ1, h1, h2⟩ := bindT2 hb
    obtain ⟨p, xs, rfl, ep, rl⟩ := r.tup_inv
    cases rl with
    | cons r1 rl =>
      cases rl with
      | cons r2 rl =>
        cases rl
        refine ⟨p, _, rfl, SqT.of (h.sub.tup ep), rfl, _, _, rfl, iha h r1 h1 fun σ1 k1 o1 => ⟨_, _, rfl, ihb k1 r2 h2 fun σ2 k2 o2 => ⟨rfl, q σ2 k2 (o1.trans o2)⟩⟩⟩
  | t3 a b c iha ihb ihc =>
    intro d v ρ ρ' σ Q h r hb q
    obtain ⟨x, y, z, rfl, ρ1, h1, ρ2, h2, h3⟩ := bindT3 hb
    obtain ⟨p, xs, rfl, ep, rl⟩ := r.tup_inv
    cases rl with
    | cons r1 rl =>
      cases rl with
      | cons r2 rl =>
        cases rl with
        | cons r3 rl =>
          cases rl
          refine ⟨p, _, rfl, SqT.of (h.sub.tup ep), rfl, _, _, rfl, iha h r1 h1 fun σ1 k1 o1 => ⟨_, _, rfl, ihb k1 r2 h2 fun σ2 k2 o2 => ⟨_, _, rfl, ihc k2 r3 h3 fun σ3 k3 o3 => ⟨rfl, q σ3 k3 ((o1.trans o2).trans o3)⟩⟩⟩⟩
theorem wipeR_get (ρ : List Sl) (i : Nat) : ∀ vs : List Nat, (wipeR ρ vs)[i]? = if i ∈ vs ∧ i < ρ.length then some .un else ρ[i]?
  | [] => by simp [wipeR]
  | v :: vs => by
    have hl : (wipeR ρ vs).length = ρ.length := by
      clear i
      induction vs with
      | nil => rfl
      | cons v vs ih => unfold wipeR; rw [List.length_set, ih]
    unfold wipeR
    rw [List.getElem?_set, hl, wipeR_get ρ i vs]
    by_cases e : v = i
    · subst e
      by_cases hl : v < ρ.length
      · simp [hl]
      · simp [hl]
    · have e' : ¬ i = v := fun q => e q.symm
      simp [e, e', List.mem_cons]
theorem wipeR_length (ρ : List Sl) : ∀ vs : List Nat, (wipeR ρ vs).length = ρ.length
  | [] => rfl
  | v :: vs => by unfold wipeR; rw [List.length_set, wipeR_length ρ vs]
theorem Hold.wipe (h : Hold nm K F₀ H₀ R₀ F H R ρ g σ) (vs : List Nat) : Hold nm K F₀ H₀ R₀ F H R (wipeR ρ vs) g (L2.wipe σ vs) where
  ext := h.ext
  rill := h.rill
  rill0 := h.rill0
  len := by rw [wipeR_length, wipe_length, h.len]
  slot := fun j s q => by
    rw [wipeR_get] at q
    rw [wipe_get, ← h.len]
    split at q
    · cases q; trivial
    · rename_i hn
      rw [if_neg hn]
      exact h.slot j s q
  dist := fun j l d' e' p hjl h1 h2 h3 h4 => by
    rw [wipeR_get] at h1 h2
    rw [wipe_get, ← h.len] at h3 h4
    split at h1
    · cases h1
    · split at h2
      · cases h2
      · rename_i n1 n2
        rw [if_neg n1] at h3
        rw [if_neg n2] at h4
        exact h.dist j l d' e' p hjl h1 h2 h3 h4
/-! ### what is walked -/
/-- the iterator J gives the items l, in the states S -/
def GW (S : Hp → Hp → RA → Prop) (J : L2.It) (l : List D) : Prop :=
  ∃ (G : Hp → Prop) (Y : Nat → Hp → V → Hp → Prop), Walk J l.length G Y ∧ (∀ F' H' R', S F' H' R' → G H') ∧
    ∀ i H1 x H2 F1 R1 d, S F1 H1 R1 → l[i]? = some d → Y i H1 x H2 → ∃ F2, Ext0 F1 H1 F2 H2 ∧ Rp F2 d x
/-- what is reached by expressions; by anything that keeps what is frozen -/
def ExtS (F H : Hp) (R : RA) : Hp → Hp → RA → Prop := fun F' H' R' => Ext F H R F' H' R'
def FzS (F : Hp) : Hp → Hp → RA → Prop := fun F' H' _ => LeF F F' ∧ SubF F' H'
def itNB : PV.It → Bool
  | .val e => !isBor e
  | .rng _ => true
  | .enu e => !isBor e
  | .zip a b => !isBor a && !isBor b
def GWB (it : PV.It) (J : L2.It) (l : List D) (F H : Hp) (R : RA) : Prop := GW (ExtS F H R) J l ∧ (itNB it = true → GW (FzS F) J l)
def tIt (nm : RN) (K : PySem.W.Frag) (c : Cal) (it : PV.It) : TI := fun σ H W => ∃ F₀ H₀ R₀ F R ρ g, Hold nm K F₀ H₀ R₀ F H R ρ g σ ∧ ∃ l g', evIt c it ρ g = some (l, g') ∧
  ∀ J F' H' R', Ext F H R F' H' R' → RillAt nm R' g' H' → GWB it J l F' H' R' → W J H'
theorem keepL {p : Addr} {xs : List V} {ds : List D} (r : RpB F H R (.list ds) (.ref p)) (s : SubF F H) (hp : H p = some (.lst xs)) : ∀ F' H' R', ExtS F H R F' H' R' → H' p = some (.lst xs) := fun F' H' R' e => by
  rcases r with r | ⟨p', ep, r, nr⟩
  · obtain ⟨a, xs2, ea, hf, _⟩ := r.lst_inv
    cases ea
    have h1 := s.lst hf
    rw [hp] at h1; cases h1
    exact Ext.sub e |>.lst (Ext.fz e _ _ hf)
  · cases ep
    have n' : ¬ inR R' p := fun i => by
      rcases Ext.rn e p i with z | z
      · exact nr z
      · rw [hp] at z; cases z
    exact Ext.keep e _ _ hp n'
theorem keepF {p : Addr} {xs : List V} {ds : List D} (r : Rp F (.list ds) (.ref p)) (s : SubF F H) (hp : H p = some (.lst xs)) : ∀ F' H' R', FzS F F' H' R' → H' p = some (.lst xs) := fun F' H' R' e => by
  obtain ⟨a, xs2, ea, hf, _⟩ := r.lst_inv
  cases ea
  have h1 := s.lst hf
  rw [hp] at h1; cases h1
  exact e.2.lst (e.1 _ _ hf)
theorem extS_ok : ∀ F' H' R', ExtS F H R F' H' R' → LeF F F' ∧ SubF F' H' := fun _ _ _ e => ⟨Ext.fz e, Ext.sub e⟩
theorem fzS_ok : ∀ F' H' R', FzS F F' H' R' → LeF F F' ∧ SubF F' H' := fun _ _ _ e => e
section
variable {S : Hp → Hp → RA → Prop} (hS : ∀ F' H' R', S F' H' R' → LeF F F' ∧ SubF F' H')
include hS
theorem gw_list {p : Addr} {xs : List V} {ds : List D} (hk : ∀ F' H' R', S F' H' R' → H' p = some (.lst xs)) (rp : RpL F ds xs) : GW S (Itl K p) ds := by
  refine ⟨_, _, rp.length ▸ walk_list, fun F' H' R' e => SqL.of (hk _ _ _ e), fun i H1 x H2 F1 R1 d e hd y => ?_⟩
  obtain ⟨rfl, hx⟩ := y
  obtain ⟨v, h1, h2⟩ := rp.get hd
  rw [hx] at h1; cases h1
  exact ⟨F1, Ext0.refl (hS _ _ _ e).2, h2.mono (hS _ _ _ e).1⟩
theorem gw_tup {p : Addr} {xs : List V} {ds : List D} (hp : F p = some (.tup xs)) (rp : RpL F ds xs) : GW S (Itt K p) ds := by
  refine ⟨_, _, rp.length ▸ walk_tup, fun F' H' R' e => SqT.of ((hS _ _ _ e).2.tup ((hS _ _ _ e).1 _ _ hp)), fun i H1 x H2 F1 R1 d e hd y => ?_⟩
  obtain ⟨rfl, hx⟩ := y
  obtain ⟨v, h1, h2⟩ := rp.get hd
  rw [hx] at h1; cases h1
  exact ⟨F1, Ext0.refl (hS _ _ _ e).2, h2.mono (hS _ _ _ e).1⟩
theorem gw_str {z : PySem.Str} : GW S (Its z) (lettersD z) := by
  refine ⟨_, _, (show Walk (Its z) (lettersD z).length _ _ from by
    rw [show (lettersD z).length = z.cps.size by unfold lettersD; simp]
    exact walk_str), fun F' H' R' e => trivial, fun i H1 x H2 F1 R1 d e hd y => ?_⟩
  obtain ⟨rfl, cc, hx, rfl⟩ := y
  unfold lettersD at hd
  rw [List.getElem?_map, Array.getElem?_toList, hx] at hd
  cases hd
  exact ⟨F1, Ext0.refl (hS _ _ _ e).2, .str _⟩
theorem gw_rng {lo : Int} {n : Nat} {l : List D} (hl : l = (List.range n).map fun (k : Nat) => PyData.int (lo + (k : Int))) : GW S (Itr lo n) l := by
  refine ⟨_, _, (show Walk (Itr lo n) l.length _ _ from by
    rw [show l.length = n by rw [hl]; simp]
    exact walk_range), fun F' H' R' e => trivial, fun i H1 x H2 F1 R1 d e hd y => ?_⟩
  obtain ⟨rfl, rfl⟩ := y
  rw [hl, List.getElem?_map] at hd
  obtain ⟨j, h1, h2⟩ := Option.map_eq_some_iff.mp hd
  obtain ⟨hj, h1⟩ := List.getElem?_eq_some_iff.mp h1
  rw [List.getElem_range] at h1
  subst h1 h2
  exact ⟨F1, Ext0.refl (hS _ _ _ e).2, .int _⟩
theorem gw_rngC {lo st : Int} {n : Nat} {l : List D} (hl : l = (List.range n).map fun (k : Nat) => PyData.int (lo + (k : Int) * st)) : GW S (Itc lo st n) l := by
  refine ⟨_, _, (show Walk (Itc lo st n) l.length _ _ from by
    rw [show l.length = n by rw [hl]; simp]
    exact walk_rangeC), fun F' H' R' e => trivial, fun i H1 x H2 F1 R1 d e hd y => ?_⟩
  obtain ⟨rfl, rfl⟩ := y
  rw [hl, List.getElem?_map] at hd
  obtain ⟨j, h1, h2⟩ := Option.map_eq_some_iff.mp hd
  obtain ⟨hj, h1⟩ := List.getElem?_eq_some_iff.mp h1
  rw [List.getElem_range] at h1
  subst h1 h2
  exact ⟨F1, Ext0.refl (hS _ _ _ e).2, .int _⟩
end
theorem t1w (h : Hold nm K F₀ H₀ R₀ F H R ρ g σ) {it : PV.It} {l : List D} (ha : evIt c it ρ g = some (l, g1)) {W : L2.It → Hp → Prop}
    (w : ∀ J F2 H2 R2, Hold nm K F₀ H₀ R₀ F2 H2 R2 ρ g1 σ → Ext F H R F2 H2 R2 → GWB it J l F2 H2 R2 → W J H2) : tIt nm K c it σ H W :=
  ⟨F₀, H₀, R₀, F, R, ρ, g, h, l, g1, ha, fun J F' H' R' e r z => w J F' H' R' (h.step e r) e z⟩
theorem i_val {tg xe : Expr} (ha : PE X xe (tE nm X.K c a)) : PI X tg xe (tIt nm X.K c (.val a)) := by
  refine ⟨fun pins s σ H W I ⟨F₀, H₀, R₀, F, R, ρ, g, h, l, g', he, an⟩ => ?_⟩
  rw [evIt] at he
  obtain ⟨⟨x, g1⟩, h1, he⟩ := Option.bind_eq_some_iff.mp he
  obtain ⟨l', h2, he⟩ := Option.map_eq_some_iff.mp he
  cases he
  unfold itemsOf at h2
  split at h2
  · cases h2
    refine (pi_list ha).run pins s σ H W I (t1 h h1 fun v F1 H1 R1 k1 e1 r1 => ?_)
    have r := rpb_of r1
    obtain ⟨p, xs, rfl, hp, rp⟩ := r.list k1.sub
    exact ⟨p, rfl, ⟨xs, SqL.of hp⟩, an _ F1 H1 R1 e1 k1.rill ⟨gw_list extS_ok (keepL r k1.sub hp) rp, fun nb => gw_list fzS_ok (keepF (bor_ans r1 (by unfold itNB at nb; simpa using nb)) k1.sub hp) rp⟩⟩
  · cases h2
    refine (pi_tup ha).run pins s σ H W I (t1 h h1 fun v F1 H1 R1 k1 e1 r1 => ?_)
    obtain ⟨p, xs, rfl, ep, hp, rp⟩ := (rpb_of r1).tup k1.sub
    exact ⟨p, rfl, ⟨xs, SqT.of hp⟩, an _ F1 H1 R1 e1 k1.rill ⟨gw_tup extS_ok ep rp, fun _ => gw_tup fzS_ok ep rp⟩⟩
  · cases h2
    refine (pi_str ha).run pins s σ H W I (t1 h h1 fun v F1 H1 R1 k1 e1 r1 => ?_)
    cases (rpb_of r1).str
    exact ⟨_, rfl, an _ F1 H1 R1 e1 k1.rill ⟨gw_str extS_ok, fun _ => gw_str fzS_ok⟩⟩
  · cases h2
theorem PI_imp {tg it : Expr} {t t' : TI} (h : PI X tg it t) (f : ∀ σ H Q, t' σ H Q → t σ H Q) : PI X tg it t' := ⟨fun pins s σ H Q I q => h.run pins s σ H Q I (f σ H Q q)⟩
theorem rngL_eq {lo hi : Int} : rngL lo hi = (List.range (hi - lo).toNat).map fun (k : Nat) => PyData.int (lo + (k : Int)) := rfl
theorem okR_b {i : Int} (h : okR i = true) : -(2 ^ 62) ≤ i ∧ i < 2 ^ 62 := by
  unfold okR at h
  exact of_decide_eq_true h
theorem i_rng1 (w : CxW P k c X) {tg xe : Expr} {p pos : Pos} (hg : X.env.scope.names.lookup ("range" : PySem.Str) = some .globalImplicit) (hm : ("range" : PySem.Str) ∈ P.blt) (ha : PE X xe (tE nm K c a)) (hs : starEach [xe] X.env = [(false, eval xe X.env)]) :
    PI X tg (.Call (.Name "range" p) [xe] [] pos) (tIt nm K c (.rng (.cons a .nil))) :=
  PI_imp (pi_range1 hg (w.blt _ hm) (as_cons ha as_nil hs) hs) fun σ H W ⟨F₀, H₀, R₀, F, R, ρ, g, h, l, g', he, an⟩ => by
    rw [evIt] at he
    obtain ⟨⟨xs, g1⟩, h1, he⟩ := Option.bind_eq_some_iff.mp he
    obtain ⟨l', h2, he⟩ := Option.map_eq_some_iff.mp he
    cases he
    refine ⟨F₀, H₀, R₀, F, R, ρ, g, h, xs, _, h1, fun vs F2 H2 R2 e2 w2 q1 q2 => ?_⟩
    unfold rngD at h2
    split at h2
    · split at h2
      · rename_i n hn
        cases h2
        obtain ⟨v, rfl, rv⟩ := q1.one
        cases rv.int
        have b := okR_b hn
        refine ⟨n, rfl, b.1, b.2, an _ F2 H2 R2 e2 w2 ?_⟩
        have e5 : rngL 0 n = (List.range n.toNat).map fun (k : Nat) => PyData.int (0 + (k : Int)) := by rw [rngL_eq, Int.sub_zero]
        exact ⟨gw_rng extS_ok e5, fun _ => gw_rng fzS_ok e5⟩
      · cases h2
    · exfalso
      rw [evs] at h1
      obtain ⟨⟨x, g3⟩, h3, h1⟩ := Option.bind_eq_some_iff.mp h1
      obtain ⟨⟨r, g4⟩, h4, h1⟩ := Option.map_eq_some_iff.mp h1
      rw [evs] at h4
      cases h4
      cases h1
    · exfalso
      rw [evs] at h1
      obtain ⟨⟨x, g3⟩, h3, h1⟩ := Option.bind_eq_some_iff.mp h1
      obtain ⟨⟨r, g4⟩, h4, h1⟩ := Option.map_eq_some_iff.mp h1
      rw [evs] at h4
      cases h4
      cases h1
    · cases h2
end
end PV
set_option maxHeartbeats 1000000
namespace PV
open PySem PySem.Spec PyProof.Rows L2
theorem enumL_get : ∀ {l : List D} {n i : Nat} {d : D}, (enumL n l)[i]? = some d → ∃ x, l[i]? = some x ∧ d = .tuple [.int ((n + i : Nat) : Int), x]
  | [], _, _, _, h => by simp [enumL] at h
  | x :: r, n, 0, _, h => by
    unfold enumL at h
    simp at h
    exact ⟨x, rfl, h.symm⟩
  | x :: r, n, i + 1, _, h => by
    unfold enumL at h
    obtain ⟨y, h1, h2⟩ := enumL_get (l := r) (n := n + 1) (i := i) (by simpa using h)
    exact ⟨y, by simpa using h1, by rw [h2, show n + 1 + i = n + (i + 1) by omega]⟩
theorem enumL_len : ∀ {l : List D} {n : Nat}, (enumL n l).length = l.length
  | [], _ => rfl
  | x :: r, n => by unfold enumL; rw [List.length_cons, enumL_len, List.length_cons]
theorem zipL_get : ∀ {l m : List D} {i : Nat} {d : D}, (zipL l m)[i]? = some d → ∃ x y, l[i]? = some x ∧ m[i]? = some y ∧ d = .tuple [x, y]
  | [], _, _, _, h => by simp [zipL] at h
  | x :: r, [], _, _, h => by simp [zipL] at h
  | x :: r, y :: s, 0, _, h => by
    unfold zipL at h
    simp at h
    exact ⟨x, y, rfl, rfl, h.symm⟩
  | x :: r, y :: s, i + 1, _, h => by
    unfold zipL at h
    obtain ⟨a, b, h1, h2, h3⟩ := zipL_get (l := r) (m := s) (i := i) (by simpa using h)
    exact ⟨a, b, by simpa using h1, by simpa using h2, h3⟩
theorem zipL_len : ∀ {l m : List D}, (zipL l m).length = min l.length m.length
  | [], _ => by simp [zipL]
  | x :: r, [] => by simp [zipL]
  | x :: r, y :: s => by unfold zipL; rw [List.length_cons, zipL_len]; simp
section
variable {P : PInfo} {k : Nat} {c : Cal} {X : Cx} {nm : RN} {K : PySem.W.Frag} {F₀ H₀ F H : Hp} {R₀ R : RA} {ρ : List Sl} {g g1 g2 : G} {σ : L2.St} {Q : VK} {a b e : E} {x y : D} {d : D}
theorem evs_one {l : List D} {g g' : G} (h : evs c (.cons a .nil) ρ g = some (l, g')) : ∃ x, l = [x] ∧ ev c a ρ g = some (x, g') := by
  rw [evs] at h
  obtain ⟨⟨x, g3⟩, h3, h⟩ := Option.bind_eq_some_iff.mp h
  obtain ⟨⟨r, g4⟩, h4, h⟩ := Option.map_eq_some_iff.mp h
  rw [evs] at h4
  cases h4
  cases h
  exact ⟨x, rfl, h3⟩
theorem evs_tl {m : Es} {l : List D} {g g' : G} (h : evs c (.cons a m) ρ g = some (l, g')) : ∃ x r g1, l = x :: r ∧ ev c a ρ g = some (x, g1) ∧ evs c m ρ g1 = some (r, g') := by
  rw [evs] at h
  obtain ⟨⟨x, g3⟩, h3, h⟩ := Option.bind_eq_some_iff.mp h
  obtain ⟨⟨r, g4⟩, h4, h⟩ := Option.map_eq_some_iff.mp h
  cases h
  exact ⟨x, r, g3, rfl, h3, h4⟩
theorem rng_inv {m : Es} {l : List D} {g g' : G} (h : evIt c (.rng m) ρ g = some (l, g')) : ∃ xs, evs c m ρ g = some (xs, g') ∧ rngD xs = some l := by
  rw [evIt] at h
  obtain ⟨⟨xs, g1⟩, h1, h⟩ := Option.bind_eq_some_iff.mp h
  obtain ⟨l', h2, h⟩ := Option.map_eq_some_iff.mp h
  cases h
  exact ⟨xs, h1, h2⟩
theorem i_rng2 (w : CxW P k c X) {tg xe ye : Expr} {p pos : Pos} (hg : X.env.scope.names.lookup ("range" : PySem.Str) = some .globalImplicit) (hm : ("range" : PySem.Str) ∈ P.blt) (ha : PE X xe (tE nm K c a)) (hb : PE X ye (tE nm K c b))
    (hs1 : starEach [xe, ye] X.env = (false, eval xe X.env) :: starEach [ye] X.env) (hs2 : starEach [ye] X.env = [(false, eval ye X.env)]) :
    PI X tg (.Call (.Name "range" p) [xe, ye] [] pos) (tIt nm K c (.rng (.cons a (.cons b .nil)))) :=
  PI_imp (pi_range2 hg (w.blt _ hm) (as_cons ha (as_cons hb as_nil hs2) hs1) (by rw [hs1, hs2]) hs2) fun σ H W ⟨F₀, H₀, R₀, F, R, ρ, g, h, l, g', he, an⟩ => by
    obtain ⟨xs, h1, h2⟩ := rng_inv he
    refine ⟨F₀, H₀, R₀, F, R, ρ, g, h, xs, _, h1, fun vs F2 H2 R2 e2 w2 q1 q2 => ?_⟩
    obtain ⟨x, r, g3, rfl, _, h3⟩ := evs_tl h1
    obtain ⟨y, rfl, _⟩ := evs_one h3
    unfold rngD at h2
    split at h2 <;> first | (rename_i heq; cases heq; done) | skip
    · rename_i i j heq
      cases heq
      split at h2
      · rename_i hn
        cases h2
        obtain ⟨v, u, rfl, rv, ru⟩ := q1.two
        cases rv.int
        cases ru.int
        have b1 := okR_b hn.1
        have b2 := okR_b hn.2
        exact ⟨i, j, rfl, ⟨b1.1, b1.2, b2.1, b2.2⟩, an _ F2 H2 R2 e2 w2 ⟨gw_rng extS_ok rngL_eq, fun _ => gw_rng fzS_ok rngL_eq⟩⟩
      · cases h2
    · cases h2
theorem i_rng3 (w : CxW P k c X) {tg xe ye ze : Expr} {d : E} {p pos : Pos} (hg : X.env.scope.names.lookup ("range" : PySem.Str) = some .globalImplicit) (hm : ("range" : PySem.Str) ∈ P.blt) (ha : PE X xe (tE nm K c a)) (hb : PE X ye (tE nm K c b)) (hd : PE X ze (tE nm K c d))
    (hs1 : starEach [xe, ye, ze] X.env = (false, eval xe X.env) :: starEach [ye, ze] X.env) (hs2 : starEach [ye, ze] X.env = (false, eval ye X.env) :: starEach [ze] X.env) (hs3 : starEach [ze] X.env = [(false, eval ze X.env)]) :
    PI X tg (.Call (.Name "range" p) [xe, ye, ze] [] pos) (tIt nm K c (.rng (.cons a (.cons b (.cons d .nil))))) :=
  PI_imp (pi_range3 hg (w.blt _ hm) (as_cons ha (as_cons hb (as_cons hd as_nil hs3) hs2) hs1) hs1 (by rw [hs2, hs3]; rfl)) fun σ H W ⟨F₀, H₀, R₀, F, R, ρ, g, h, l, g', he, an⟩ => by
    obtain ⟨xs, h1, h2⟩ := rng_inv he
    refine ⟨F₀, H₀, R₀, F, R, ρ, g, h, xs, _, h1, fun vs F2 H2 R2 e2 w2 q1 q2 => ?_⟩
    obtain ⟨x, r, g3, rfl, _, h3⟩ := evs_tl h1
    obtain ⟨y, r, g4, rfl, _, h4⟩ := evs_tl h3
    obtain ⟨z, rfl, _⟩ := evs_one h4
    unfold rngD at h2
    split at h2 <;> first | (rename_i heq; cases heq; done) | skip
    · rename_i i j s heq
      cases heq
      split at h2
      · rename_i hn
        cases h2
        obtain ⟨v, ws, rfl, rv, rr⟩ := q1.cons
        obtain ⟨u, u2, rfl, ru, ru2⟩ := rr.two
        cases rv.int
        cases ru.int
        cases ru2.int
        have b1 := okR_b hn.1
        have b2 := okR_b hn.2.1
        have e3 := hn.2.2
        subst e3
        exact ⟨i, j, -1, _, rfl, RgC.neg b1.1 b1.2 b2.1 b2.2, an _ F2 H2 R2 e2 w2 ⟨gw_rngC extS_ok rfl, fun _ => gw_rngC fzS_ok rfl⟩⟩
      · cases h2
    · cases h2
section
variable {S : Hp → Hp → RA → Prop} (hS : ∀ F' H' R', S F' H' R' → LeF F F' ∧ SubF F' H')
include hS
theorem gw_zip {p q : Addr} {xs ys : List V} {ds es : List D} (hp : ∀ F' H' R', S F' H' R' → H' p = some (.lst xs)) (hq : ∀ F' H' R', S F' H' R' → H' q = some (.lst ys)) (rp : RpL F ds xs) (rq : RpL F es ys) : GW S (Itz K p q) (zipL ds es) := by
  refine ⟨_, _, walk_zip (xs := xs) (ys := ys) (by rw [zipL_len, rp.length, rq.length]), fun F' H' R' e => ⟨SqL.of (hp _ _ _ e), SqL.of (hq _ _ _ e)⟩, fun i H1 x H2 F1 R1 d e hd y => ?_⟩
  obtain ⟨T, u, v, rfl, nT, rfl, hu, hv⟩ := y
  obtain ⟨d1, d2, h1, h2, rfl⟩ := zipL_get hd
  obtain ⟨u', h3, r1⟩ := rp.get h1
  obtain ⟨v', h4, r2⟩ := rq.get h2
  have hu : xs[i]? = some u := hu
  have hv : ys[i]? = some v := hv
  rw [hu] at h3; cases h3
  rw [hv] at h4; cases h4
  obtain ⟨le, sb⟩ := hS _ _ _ e
  have e0 := Ext0.add (o := .tup [u, v]) sb nT
  exact ⟨_, e0, .tup upd_same (.cons ((r1.mono le).mono e0.fz) (.cons ((r2.mono le).mono e0.fz) .nil))⟩
theorem gw_enu {p : Addr} {xs : List V} {ds : List D} (hp : ∀ F' H' R', S F' H' R' → H' p = some (.lst xs)) (rp : RpL F ds xs) : GW S (Ite K p) (enumL 0 ds) := by
  refine ⟨_, _, (show Walk (Ite K p) (enumL 0 ds).length _ _ from by
    rw [enumL_len, rp.length]
    exact walk_enum), fun F' H' R' e => SqL.of (hp _ _ _ e), fun i H1 x H2 F1 R1 d e hd y => ?_⟩
  obtain ⟨T, u, v, rfl, nT, rfl, hu, hv⟩ := y
  obtain ⟨d1, h1, rfl⟩ := enumL_get hd
  obtain ⟨v', h3, r1⟩ := rp.get h1
  have hv : xs[i]? = some v := hv
  rw [hv] at h3; cases h3
  cases hu
  obtain ⟨le, sb⟩ := hS _ _ _ e
  have e0 := Ext0.add (o := .tup [.int (i : Nat), v]) sb nT
  refine ⟨_, e0, .tup upd_same (.cons ?_ (.cons ((r1.mono le).mono e0.fz) .nil))⟩
  rw [Nat.zero_add]
  exact .int _
end
theorem i_zip (w : CxW P k c X) {xe ye : Expr} {elts : List Expr} {kk : Nat} {tpos p pos : Pos} (hg : X.env.scope.names.lookup ("zip" : PySem.Str) = some .globalImplicit) (hm : ("zip" : PySem.Str) ∈ P.blt) (ha : PE X xe (tE nm X.K c a)) (hb : PE X ye (tE nm X.K c b))
    (hs1 : starEach [xe, ye] X.env = (false, eval xe X.env) :: starEach [ye] X.env) (hs2 : starEach [ye] X.env = [(false, eval ye X.env)]) :
    PI X (.Tuple elts kk tpos) (.Call (.Name "zip" p) [xe, ye] [] pos) (tIt nm X.K c (.zip a b)) :=
  PI_imp (pi_zip hg (w.blt _ hm) (as_cons ha (as_cons hb as_nil hs2) hs1) hs1 (by rw [hs2]; rfl)) fun σ H W ⟨F₀, H₀, R₀, F, R, ρ, g, h, l, g', he, an⟩ => by
    rw [evIt] at he
    obtain ⟨⟨x, g1⟩, h1, he⟩ := Option.bind_eq_some_iff.mp he
    obtain ⟨⟨y, g2⟩, h2, he⟩ := Option.bind_eq_some_iff.mp he
    obtain ⟨l1, h3, he⟩ := Option.bind_eq_some_iff.mp he
    obtain ⟨l2, h4, he⟩ := Option.map_eq_some_iff.mp he
    cases he
    refine ⟨F₀, H₀, R₀, F, R, ρ, g, h, [x, y], g', (by simp only [evs, h1, h2, Option.bind_some, Option.map_some]), fun vs F2 H2 R2 e2 w2 q1 q2 => ?_⟩
    obtain ⟨v, u, rfl, rv, ru⟩ := q1.two
    have k2 := h.step e2 w2
    unfold itemsL at h3 h4
    split at h3 <;> cases h3
    split at h4 <;> cases h4
    obtain ⟨p, xs, rfl, hp, rp⟩ := rv.list k2.sub
    obtain ⟨q, ys, rfl, hq, rq⟩ := ru.list k2.sub
    refine ⟨p, q, xs, ys, rfl, SqL.of hp, SqL.of hq, an _ F2 H2 R2 e2 w2 ⟨gw_zip extS_ok (keepL rv k2.sub hp) (keepL ru k2.sub hq) rp rq, fun nb => ?_⟩⟩
    have nb' : (!isBor a && !isBor b) = true := nb
    simp only [Bool.and_eq_true] at nb'
    have n2 : RpL F2 _ _ := q2 (by show (!isBor a && (!isBor b && true)) = true; rw [nb'.1, nb'.2]; rfl)
    cases n2 with
    | cons n1 n2 => cases n2 with
      | cons n2 _ => exact gw_zip fzS_ok (keepF n1 k2.sub hp) (keepF n2 k2.sub hq) rp rq
theorem i_enu (w : CxW P k c X) {xe : Expr} {elts : List Expr} {kk : Nat} {tpos p pos : Pos} (hg : X.env.scope.names.lookup ("enumerate" : PySem.Str) = some .globalImplicit) (hm : ("enumerate" : PySem.Str) ∈ P.blt) (ha : PE X xe (tE nm X.K c a))
    (hs : starEach [xe] X.env = [(false, eval xe X.env)]) : PI X (.Tuple elts kk tpos) (.Call (.Name "enumerate" p) [xe] [] pos) (tIt nm X.K c (.enu a)) :=
  PI_imp (pi_enum hg (w.blt _ hm) (as_cons ha as_nil hs) hs) fun σ H W ⟨F₀, H₀, R₀, F, R, ρ, g, h, l, g', he, an⟩ => by
    rw [evIt] at he
    obtain ⟨⟨x, g1⟩, h1, he⟩ := Option.bind_eq_some_iff.mp he
    obtain ⟨l1, h3, he⟩ := Option.map_eq_some_iff.mp he
    cases he
    refine ⟨F₀, H₀, R₀, F, R, ρ, g, h, [x], _, (by rw [evs, h1]; rfl), fun vs F2 H2 R2 e2 w2 q1 q2 => ?_⟩
    obtain ⟨v, rfl, rv⟩ := q1.one
    have k2 := h.step e2 w2
    unfold itemsL at h3
    split at h3 <;> cases h3
    obtain ⟨p, xs, rfl, hp, rp⟩ := rv.list k2.sub
    exact ⟨p, xs, rfl, SqL.of hp, an _ F2 H2 R2 e2 w2 ⟨gw_enu extS_ok (keepL rv k2.sub hp) rp, fun nb => by
      have n2 : RpL F2 _ _ := q2 (by have nb' : (!isBor a) = true := nb; show (!isBor a && true) = true; rw [nb']; rfl)
      cases n2 with
      | cons n2 _ => exact gw_enu fzS_ok (keepF n2 k2.sub hp) rp⟩⟩
end
end PV
set_option maxHeartbeats 1000000
namespace PV
open PySem PySem.Spec PyProof.Rows L2
def isNo : E → Bool
  | .no => true
  | _ => false
/-- the tests of a comprehension -/
def tK (nm : RN) (K : PySem.W.Frag) (c : Cal) (e : E) : TT := if isNo e = true then tYes else tT nm K c e
def Step (c : Cal) (e : E) (t : Tg) (kk : E) (ρ : List Sl) (f : D → G → Option (Option D × G)) : Prop :=
  ∀ x g o g', f x g = some (o, g') → ∃ ρ', bindT t x ρ = some ρ' ∧
    ((isNo kk = true ∧ ∃ d, ev c e ρ' g = some (d, g') ∧ o = some d) ∨
     (isNo kk = false ∧ ∃ q g2, ev c kk ρ' g = some (.bool q, g2) ∧ ((q = true ∧ ∃ d, ev c e ρ' g2 = some (d, g') ∧ o = some d) ∨ (q = false ∧ o = none ∧ g' = g2))))
section
variable {P : PInfo} {k : Nat} {c : Cal} {X : Cx} {nm : RN} {K : PySem.W.Frag} {F₀ H₀ F H : Hp} {R₀ R : RA} {ρ : List Sl} {g g1 g2 : G} {σ : L2.St} {Q : VK} {a b e : E} {x y : D} {d : D}
theorem cmpr_inv {t : Tg} {it : PV.It} {kk : E} {g' : G} (he : ev c (.cmpr e t it kk) ρ g = some (d, g')) :
    ∃ l g1 r f, evIt c it ρ g = some (l, g1) ∧ compL f l g1 = some (r, g') ∧ r.length ≤ sizeLine ∧ d = .list r ∧ Step c e t kk (wipeR ρ (tgIx t)) f := by
  rw [ev] at he
  obtain ⟨⟨l, g1⟩, h1, he⟩ := Option.bind_eq_some_iff.mp he
  obtain ⟨⟨r, g2⟩, h2, he⟩ := Option.bind_eq_some_iff.mp he
  dsimp only at he
  split at he
  · rename_i hz
    cases he
    refine ⟨l, g1, r, _, h1, h2, hz, rfl, fun x g o g' hf => ?_⟩
    obtain ⟨ρ', h3, hf⟩ := Option.bind_eq_some_iff.mp hf
    refine ⟨ρ', h3, ?_⟩
    dsimp only at hf
    split at hf
    · obtain ⟨⟨d, g3⟩, h4, hf⟩ := Option.map_eq_some_iff.mp hf
      cases hf
      exact .inl ⟨rfl, d, h4, rfl⟩
    · rename_i hne
      obtain ⟨⟨q, g3⟩, h4, hf⟩ := Option.bind_eq_some_iff.mp hf
      refine .inr ⟨?_, ?_⟩
      · cases kk <;> first | rfl | exact absurd rfl hne
      dsimp only at hf
      split at hf
      · obtain ⟨⟨d, g4⟩, h5, hf⟩ := Option.map_eq_some_iff.mp hf
        cases hf
        exact ⟨true, g3, h4, .inl ⟨rfl, d, h5, rfl⟩⟩
      · cases hf
        exact ⟨false, _, h4, .inr ⟨rfl, rfl, rfl⟩⟩
      · cases hf
  · cases he
theorem compL_cons {f : D → G → Option (Option D × G)} {x : D} {xs : List D} {r : List D} {g g' : G} (h : compL f (x :: xs) g = some (r, g')) : ∃ o g1 r2, f x g = some (o, g1) ∧ compL f xs g1 = some (r2, g') ∧ r = o.toList ++ r2 := by
  rw [compL] at h
  obtain ⟨⟨o, g1⟩, h1, h⟩ := Option.bind_eq_some_iff.mp h
  obtain ⟨⟨r2, g2⟩, h2, h⟩ := Option.bind_eq_some_iff.mp h
  cases h
  exact ⟨o, g1, r2, h1, h2, rfl⟩
theorem ext_upd {F H F' H' : Hp} {R R' : RA} {D : Addr} {o : HO} (e : Ext F H R F' H' R') (hD : H D = none) (fD : F' D = none) : Ext F H R F' (upd H' D o) R' where
  fz := e.fz
  keep := fun a o h n => by rw [upd_ne (ne_of_none h hD)]; exact e.keep a o h n
  new := e.new
  sub := fun a o h => by
    have : a ≠ D := fun q => by rw [q, fD] at h; cases h
    rw [upd_ne this]; exact e.sub a o h
  rr := e.rr
  rn := e.rn
  rf := e.rf
theorem rill_upd {nm : RN} {R : RA} {g : G} {H : Hp} {D : Addr} {o : HO} (r : RillAt nm R g H) (n : ¬ inR R D) : RillAt nm R g (upd H D o) := by
  revert r
  unfold RillAt
  split
  · exact fun z => z
  · rename_i a b r
    intro z
    have h1 : a ≠ D := fun q => n ⟨_, rfl, .inl q.symm⟩
    have h2 : b ≠ D := fun q => n ⟨_, rfl, .inr q.symm⟩
    rw [upd_ne h1, upd_ne h2]; exact z
  · exact fun z => z
theorem not_in {F H F' H' : Hp} {R R' : RA} {D : Addr} {o : HO} (e : Ext F H R F' H' R') (n : ¬ inR R D) (h : H D = some o) : ¬ inR R' D := fun i => by
  rcases e.rn D i with z | z
  · exact n z
  · rw [h] at z; cases z
theorem no_fz {F H F' H' : Hp} {R R' : RA} {D : Addr} {o : HO} (e : Ext F H R F' H' R') (n : F D = none) (h : H D = some o) : F' D = none := by
  cases q : F' D with
  | none => rfl
  | some o' =>
    rcases e.new D o' q with z | z
    · rw [n] at z; cases z
    · rw [h] at z; cases z
theorem ext_frz {F H F' H' : Hp} {R R' : RA} {D : Addr} {o : HO} (e : Ext F H R F' H' R') (hD : H D = none) (h' : H' D = some o) (n : ¬ inR R' D) (fD : F' D = none) : Ext F H R (upd F' D o) H' R' where
  fz := fun a o h => by
    have : a ≠ D := fun q => by
      have := e.fz a o h
      rw [q, fD] at this; cases this
    rw [upd_ne this]; exact e.fz a o h
  keep := e.keep
  new := fun a o h => by
    by_cases q : a = D
    · subst q; exact .inr hD
    · rw [upd_ne q] at h; exact e.new a o h
  sub := fun a o h => by
    by_cases q : a = D
    · subst q; rw [upd_same] at h; cases h; exact .inl h'
    · rw [upd_ne q] at h; exact e.sub a o h
  rr := e.rr
  rn := e.rn
  rf := fun a h => by
    have : a ≠ D := fun q => n (q ▸ h)
    rw [upd_ne this]; exact e.rf a h
theorem le_upd {F : Hp} {D : Addr} {o : HO} (fD : F D = none) : LeF F (upd F D o) := fun a o h => by
  have : a ≠ D := fun q => by rw [q, fD] at h; cases h
  rw [upd_ne this]; exact h
/-- what one variable owned is frozen -/
theorem freeze {F H F' H' : Hp} {R R' : RA} {p : Addr} {d : D} (e : Ext F H R F' H' R') (hp : H p = none) (ow : OwnAt F' H' p d) (fp : F' p = none) (n : ¬ inR R' p) : ∃ o, H' p = some o ∧ Ext F H R (upd F' p o) H' R' ∧ Rp (upd F' p o) d (.ref p) := by
  cases ow with
  | lst h r => exact ⟨_, h, ext_frz e hp h n fp, .lst upd_same (r.mono (le_upd fp))⟩
  | dicK h r => exact ⟨_, h, ext_frz e hp h n fp, .dicK upd_same (r.mono (le_upd fp))⟩
  | dicT h r => exact ⟨_, h, ext_frz e hp h n fp, .dicT upd_same (r.mono (le_upd fp))⟩
/-- a new object that nothing else holds -/
def tOwn (nm : RN) (K : PySem.W.Frag) (c : Cal) (e : E) : TE := fun σ H Q => ∃ F₀ H₀ R₀ F R ρ g, Hold nm K F₀ H₀ R₀ F H R ρ g σ ∧ ∃ d g', ev c e ρ g = some (d, g') ∧
  ∀ p F' H' R', Ext F H R F' H' R' → RillAt nm R' g' H' → OwnAt F' H' p d → F' p = none → H p = none → ¬ inR R' p → Q (.ref p) H'
theorem e_of_own {xe : Expr} (h : PE X xe (tOwn nm K c e)) : PE X xe (tE nm K c e) := PE_imp h fun σ H Q ⟨F₀, H₀, R₀, F, R, ρ, g, h, d, g', hev, an⟩ =>
  ⟨F₀, H₀, R₀, F, R, ρ, g, h, d, g', hev, fun p F' H' R' e r ow fp hp n => by
    obtain ⟨o, ho, e2, rp⟩ := freeze e hp ow fp n
    refine an _ _ _ _ e2 r ?_
    split
    · exact .inl rp
    · exact rp⟩
theorem lc_own {t : Tg} {it : PV.It} {kk : E} (nb : isBor e = false) {σ : L2.St} {H : Hp} {Q : VK} (t0 : tOwn nm K c (.cmpr e t it kk) σ H Q) : tLc (tIt nm K c it) (gT K t) (tK nm K c kk) (tE nm K c e) (tgIx t) σ H Q := by
  obtain ⟨F₀, H₀, R₀, F, R, ρ, g, h, d, g', hev, an⟩ := t0
  obtain ⟨l, g1, r, f, h1, h2, hz, rfl, hst⟩ := cmpr_inv hev
  refine t1w h h1 fun J F1 H1 R1 k1 e1 gw => fun D nD => ?_
  obtain ⟨⟨Gp, Y, wk, hG, hY⟩, _⟩ := gw
  have nR1 : ¬ inR R1 D := fun i => by
    obtain ⟨o, z⟩ := k1.rs D i
    rw [nD] at z; cases z
  have nF1 : F1 D = none := by
    cases q : F1 D with
    | none => rfl
    | some o => rcases k1.sub D o q with z | ⟨_, _, z⟩ <;> (rw [nD] at z; cases z)
  refine lc_it wk (fun i Hc => ∃ F' R' gi acc ds r2, Ext F1 H1 R1 F' Hc R' ∧ RillAt nm R' gi Hc ∧ Hc D = some (.lst acc) ∧ RpL F' ds acc ∧ F' D = none ∧ ¬ inR R' D ∧ compL f (l.drop i) gi = some (r2, g') ∧ ds ++ r2 = r) ?_ ?_ ?_ ?_
  · exact ⟨F1, R1, g1, [], [], r, ext_upd (Ext.refl k1.sub k1.ext.rf) nD nF1, rill_upd k1.rill nR1, upd_same, .nil, nF1, nR1, by rw [List.drop_zero]; exact h2, rfl⟩
  · rintro i Hc _ ⟨F', R', gi, acc, ds, r2, p1, _⟩
    exact hG F' Hc R' p1
  · rintro i x Hc Hc2 hlt ⟨F', R', gi, acc, ds, r2, p1, p2, p3, p4, p5, p6, p7, p8⟩ y
    have hd : l[i]? = some l[i] := List.getElem?_eq_getElem hlt
    rw [List.drop_eq_getElem_cons hlt] at p7
    obtain ⟨o, g3, r3, q1, q2, q3⟩ := compL_cons p7
    obtain ⟨F2, e0, rx⟩ := hY i Hc x Hc2 F' R' _ p1 hd y
    have kc : Hold nm K F₀ H₀ R₀ F' Hc R' ρ gi σ := k1.step p1 p2
    have E0 : Ext F' Hc R' F2 Hc2 R' := e0.ext kc.rs kc.ext.rf
    have k2 : Hold nm K F₀ H₀ R₀ F2 Hc2 R' ρ gi σ := kc.step E0 (p2.ext0 e0)
    have P1 := p1.trans E0 kc.rs k1.rs
    have D2 : Hc2 D = some (.lst acc) := e0.keep _ _ p3
    have nF2 : F2 D = none := no_fz E0 p5 p3
    obtain ⟨ρ', b1, b2⟩ := hst _ _ _ _ q1
    refine g_bind (k2.wipe (tgIx t)) rx b1 fun σ2 k3 off => ⟨off.wipe, ?_⟩
    -- what the elt's value brings
    have fin : ∀ {F3 H3 : Hp} {R3 : RA} {g4 : G} {dd : PyData}, Ext F2 Hc2 R' F3 H3 R3 → RillAt nm R3 g4 H3 → ev c e ρ' g4 = some (dd, g3) → o = some dd → tE nm K c e σ2 H3 fun yv H4 => ∃ acc, H4 D = some (.lst acc) ∧ acc.length < sizeLine ∧
        ∃ F' R' gi acc' ds r2, Ext F1 H1 R1 F' (upd H4 D (.lst (acc ++ [yv]))) R' ∧ RillAt nm R' gi (upd H4 D (.lst (acc ++ [yv]))) ∧ (upd H4 D (.lst (acc ++ [yv]))) D = some (.lst acc') ∧ RpL F' ds acc' ∧ F' D = none ∧ ¬ inR R' D ∧ compL f (l.drop (i + 1)) gi = some (r2, g') ∧ ds ++ r2 = r := by
      intro F3 H3 R3 g4 dd e3 w3 hv ho
      have k4 := k3.step e3 w3
      refine t1 k4 hv fun yv F4 H4 R4 k5 e5 ry => ?_
      have E4 := e3.trans e5 k4.rs k3.rs
      have D4 : H4 D = some (.lst acc) := E4.keep _ _ D2 (not_in E4 p6 D2)
      have nR4 := not_in E4 p6 D2
      have nF4 := no_fz E4 nF2 D2
      have hl : acc.length = ds.length := p4.length.symm
      refine ⟨acc, D4, ?_, F4, R4, g3, acc ++ [yv], ds ++ [dd], r3, ?_, rill_upd k5.rill nR4, upd_same, ?_, nF4, nR4, q2, ?_⟩
      · have := congrArg List.length p8
        rw [q3, ho] at this
        simp at this
        rw [hl]
        omega
      · exact ext_upd (P1.trans E4 k3.rs k1.rs) nD nF4
      · exact (p4.mono (E0.fz.trans E4.fz)).append (.cons (bor_ans ry nb) .nil)
      · rw [← p8, q3, ho]
        simp
    unfold tK
    rcases b2 with ⟨kn, dd, v1, v2⟩ | ⟨kn, q, g4, v1, v2⟩
    · rw [if_pos kn]
      unfold tYes
      dsimp only
      rw [if_pos rfl]
      exact fin (Ext.refl k3.sub k3.ext.rf) k3.rill v1 v2
    · rw [if_neg (by rw [kn]; exact Bool.false_ne_true)]
      refine tt1 k3 v1 fun F3 H3 R3 k4 e3 => ?_
      rcases v2 with ⟨rfl, dd, v3, v4⟩ | ⟨rfl, v3, rfl⟩
      · rw [if_pos rfl]
        exact fin e3 k4.rill v3 v4
      · rw [if_neg Bool.false_ne_true]
        have D4 : H3 D = some (.lst acc) := e3.keep _ _ D2 (not_in e3 p6 D2)
        refine ⟨F3, R3, _, acc, ds, r3, P1.trans e3 k3.rs k1.rs, k4.rill, D4, p4.mono (E0.fz.trans e3.fz), no_fz e3 nF2 D2, not_in e3 p6 D2, q2, ?_⟩
        rw [← p8, q3, v3]
        rfl
  · rintro Hc ⟨F', R', gi, acc, ds, r2, p1, p2, p3, p4, p5, p6, p7, p8⟩
    rw [List.drop_length] at p7
    cases p7
    rw [List.append_nil] at p8
    subst p8
    exact an D F' Hc R' (e1.trans p1 k1.rs h.rs) p2 (.lst p3 p4) p5 (e1.free h.rs k1.rs nD) p6
theorem own_cmpr (w : CxW P k c X) {t : Tg} {it : PV.It} {kk : E} {elt tg iter : Expr} {ifs : List Expr} {scope : Scope} {pos : Pos} (hi : PI X tg iter (tIt nm X.K c it))
    (ok : BlkOk X.N X.env.scope scope ((tgIx t).map fun i => (X.N.getD i Str.empty, i)))
    (hg : ∀ (s : Shared) (H : Hp) (C : Addr) (cl : List (PySem.Str × Addr)) (fp : List Addr), PG (X.blk s H scope (compEnvC scope cl C X.env) fp) tg (gT X.K t))
    (ht : ∀ (s : Shared) (H : Hp) (C : Addr) (cl : List (PySem.Str × Addr)) (fp : List Addr), PTs (X.blk s H scope (compEnvC scope cl C X.env) fp) ifs (tK nm X.K c kk))
    (he : ∀ (s : Shared) (H : Hp) (C : Addr) (cl : List (PySem.Str × Addr)) (fp : List Addr), PE (X.blk s H scope (compEnvC scope cl C X.env) fp) elt (tE nm X.K c e)) (nb : isBor e = false)
    (hs : ∀ x, foldedSetIterable iter X.env x = pure x) : PE X (.ListComp elt [⟨tg, iter, ifs, 0⟩] scope pos) (tOwn nm X.K c (.cmpr e t it kk)) := by
  have ho : ((tgIx t).map fun i => (X.N.getD i Str.empty, i)).map (·.2) = tgIx t := by
    rw [List.map_map]
    exact List.map_id _
  have main := pe_lc w.calm w.nd hi ok hg ht he hs (pos := pos)
  rw [ho] at main
  exact PE_imp main fun σ H Q t0 => lc_own nb t0
/-- name = [..] on one line -/
theorem s_cmpr (w : CxW P k c X) {i : Nat} {y : PySem.Str} {py spos : Pos} {t : Tg} {it : PV.It} {kk : E} {elt tg iter : Expr} {ifs : List Expr} {scope : Scope} {pos : Pos} (hy : X.N[i]? = some y) (hyl : X.env.scope.names.lookup y = some .local)
    (hsw : swapsWith (.ListComp elt [⟨tg, iter, ifs, 0⟩] scope pos) (some (.Name y py)) spos.line X.env = pure true) (hi : PI X tg iter (tIt nm X.K c it))
    (ok : BlkOk X.N X.env.scope scope ((tgIx t).map fun i => (X.N.getD i Str.empty, i)))
    (hg : ∀ (s : Shared) (H : Hp) (C : Addr) (cl : List (PySem.Str × Addr)) (fp : List Addr), PG (X.blk s H scope (compEnvC scope cl C X.env) fp) tg (gT X.K t))
    (ht : ∀ (s : Shared) (H : Hp) (C : Addr) (cl : List (PySem.Str × Addr)) (fp : List Addr), PTs (X.blk s H scope (compEnvC scope cl C X.env) fp) ifs (tK nm X.K c kk))
    (he : ∀ (s : Shared) (H : Hp) (C : Addr) (cl : List (PySem.Str × Addr)) (fp : List Addr), PE (X.blk s H scope (compEnvC scope cl C X.env) fp) elt (tE nm X.K c e)) (nb : isBor e = false)
    (hs : ∀ x, foldedSetIterable iter X.env x = pure x) : PS X (.Assign [.Name y py] (.ListComp elt [⟨tg, iter, ifs, 0⟩] scope pos) spos) (tAsg (tOwn nm X.K c (.cmpr e t it kk)) (gName i)) := by
  have ho : ((tgIx t).map fun i => (X.N.getD i Str.empty, i)).map (·.2) = tgIx t := by
    rw [List.map_map]
    exact List.map_id _
  have main := ps_setLc w.calm w.nd hy hyl hsw hi ok hg ht he hs (py := py) (spos := spos)
  rw [ho] at main
  exact ⟨fun pins s σ H D I q => main.run pins s σ H D I (lc_own nb q)⟩
end
end PV
set_option maxHeartbeats 1000000
namespace PV
open PySem PySem.Spec PyProof.Rows L2
section
variable {P : PInfo} {N : List PySem.Str} {k : Nat} {c : Cal}
theorem ck_star {sc : Scope} {e : E} {x : Expr} (h : CkE P N sc e x) (xs : List Expr) (env : Env) : starEach (x :: xs) env = (false, eval x env) :: starEach xs env := by
  cases h <;> rfl
theorem cks_any : ∀ {sc : Scope} {l : Es} {xs : List Expr}, CkEs P N sc l xs → ∀ (pos : Pos) (env : Env), (backTo pos (starEach xs env)).any (·.1) = false
  | _, _, _, .nil, pos, env => rfl
  | _, _, _, .cons h t, pos, env => by
    rw [ck_star h]
    have ih := cks_any t pos env
    show (false || (backTo pos (starEach _ env)).any (·.1)) = false
    rw [ih]
    rfl
theorem cks_len : ∀ {sc : Scope} {l : Es} {xs : List Expr}, CkEs P N sc l xs → esLen l = xs.length
  | _, _, _, .nil => rfl
  | _, _, _, .cons h t => congrArg (· + 1) (cks_len t)
theorem ckk_len : ∀ {sc : Scope} {l : Es} {xs : List Keyword} {ks : List PySem.Str}, CkK P N sc l xs ks → esLen l = ks.length
  | _, _, _, _, .nil => rfl
  | _, _, _, _, .cons h t => congrArg (· + 1) (ckk_len t)
theorem ckk_ks : ∀ {sc : Scope} {l : Es} {xs : List Keyword} {ks : List PySem.Str}, CkK P N sc l xs ks → ∀ (pos : Pos) (env : Env),
    (backToKw pos (keywordEach xs env)).all (·.1.isSome) = true ∧ (backToKw pos (keywordEach xs env)).filterMap (·.1) = ks ∧ (backToKw pos (keywordEach xs env)).any (·.1.isNone) = false
  | _, _, _, _, .nil, pos, env => ⟨rfl, rfl, rfl⟩
  | _, _, _, _, .cons (n := n) h t, pos, env => by
    obtain ⟨h1, h2, h3⟩ := ckk_ks t pos env
    refine ⟨?_, ?_, ?_⟩
    · show (true && (backToKw pos (keywordEach _ env)).all (·.1.isSome)) = true
      rw [h1]; rfl
    · show n :: (backToKw pos (keywordEach _ env)).filterMap (·.1) = _
      rw [h2]
    · show (false || (backToKw pos (keywordEach _ env)).any (·.1.isNone)) = false
      rw [h3]; rfl
theorem nb_cons {e : E} {l : Es} (h : noBor (.cons e l) = true) : isBor e = false ∧ noBor l = true := by
  unfold noBor at h
  simpa using h
theorem ck_no {sc : Scope} {e : E} {x : Expr} (h : CkE P N sc e x) : isNo e = false := by
  cases h <;> rfl
theorem ck_ne {sc : Scope} {e : E} {x : Expr} (h : CkE P N sc e x) : e ≠ .no := fun q => by
  have := ck_no h
  rw [q] at this; cases this
theorem fold_set {x : Expr} (h : noSet x = true) (env : Env) : ∀ v, foldedSetIterable x env v = pure v := fun v => by
  cases x <;> first | rfl | cases h
theorem base_plain {x : Expr} {m : PySem.Str} (h : plainBase x = true) (env : Env) (w : Sem Value) : attributeBase x m env w = w := by
  cases x <;> first | rfl | cases h
theorem both {X : Cx} {e : E} {xe : Expr} (h : PE X xe (tE P.nm X.K c e)) (he : ∀ whole, isTrue xe X.env whole = (do let v ← whole; standAt xe.pos; holding [v] (truthy v))) : PE X xe (tE P.nm X.K c e) ∧ PT X xe (tT P.nm X.K c e) := ⟨h, p_val h he⟩
mutual
theorem sE : ∀ {sc : Scope} {e : E} {x : Expr}, CkE P N sc e x → ∀ (X : Cx), CxW P k c X → X.N = N → X.env.scope = sc → PE X x (tE P.nm X.K c e) ∧ PT X x (tT P.nm X.K c e)
  | _, _, _, .loc h1 h2 h3, X, w, hN, hS => by
    subst hN hS
    exact both (e_loc w h1 h2 h3) fun _ => rfl
  | _, _, _, .bor h1 h2 h3, X, w, hN, hS => by
    subst hN hS
    exact both (e_bor w h1 h2 h3) fun _ => rfl
  | _, _, _, .con h1, X, w, hN, hS => by
    exact both (e_con h1) fun _ => rfl
  | _, _, _, .glo h1 h2 h3, X, w, hN, hS => by
    subst hN hS
    exact both (e_glo w h1 h2 h3) fun _ => rfl
  | _, _, _, .bin h1 h2, X, w, hN, hS => by
    exact both (e_bin (sE h1 X w hN hS).1 (sE h2 X w hN hS).1) fun _ => rfl
  | _, _, _, .neg h1, X, w, hN, hS => by
    exact both (e_neg (sE h1 X w hN hS).1) fun _ => rfl
  | _, _, _, .cmp h1 h2 h3, X, w, hN, hS => ⟨e_cmp w (sE h1 X w hN hS).1 (sE h2 X w hN hS).1 h3, p_cmp w (sE h1 X w hN hS).1 (sE h2 X w hN hS).1 h3⟩
  | _, _, _, .isN h1, X, w, hN, hS => ⟨e_isN (sE h1 X w hN hS).1, p_isN (sE h1 X w hN hS).1⟩
  | _, _, _, .notN h1, X, w, hN, hS => ⟨e_notN (sE h1 X w hN hS).1, p_notN (sE h1 X w hN hS).1⟩
  | _, _, _, .chn h1 h2 h3 h4, X, w, hN, hS => ⟨e_chn w (sE h1 X w hN hS).1 (sE h2 X w hN hS).1 (sE h3 X w hN hS).1 h4, p_chn w (sE h1 X w hN hS).1 (sE h2 X w hN hS).1 (sE h3 X w hN hS).1 h4⟩
  | _, _, _, .and h1 h2 h3, X, w, hN, hS => ⟨e_and (sE h1 X w hN hS).1 (sB h2 X w hN hS _).1 h3, p_and (sE h1 X w hN hS).2 (sB h2 X w hN hS _).2⟩
  | _, _, _, .or h1 h2 h3, X, w, hN, hS => ⟨e_or (sE h1 X w hN hS).1 (sB h2 X w hN hS _).1 h3, p_or (sE h1 X w hN hS).2 (sB h2 X w hN hS _).2⟩
  | _, _, _, .not h1, X, w, hN, hS => ⟨e_not (sE h1 X w hN hS).1, p_not (sE h1 X w hN hS).2⟩
  | _, _, _, .ite h1 h2 h3 h4 h5, X, w, hN, hS => ⟨e_ite (sE h1 X w hN hS).2 (sE h2 X w hN hS).1 (sE h3 X w hN hS).1 h4 h5, p_ite (sE h1 X w hN hS).2 (sE h2 X w hN hS).2 (sE h3 X w hN hS).2⟩
  | _, _, _, .ix h1 h2 h3, X, w, hN, hS => by
    exact both (e_ix (sE h1 X w hN hS).1 (sE h2 X w hN hS).1 h3) fun _ => rfl
  | _, _, _, .sl h1 h2 h3, X, w, hN, hS => by
    exact both (e_sl (sE h1 X w hN hS).1 (sO h2 X w hN hS) (sO h3 X w hN hS)) fun _ => rfl
  | _, _, _, .rev h1, X, w, hN, hS => by
    exact both (e_rev (sE h1 X w hN hS).1) fun _ => rfl
  | _, _, _, .tup h1 h2, X, w, hN, hS => by
    exact both (e_tup (sEs h1 X w hN hS).1 h2) fun _ => rfl
  | _, _, _, .lst h1 h2, X, w, hN, hS => by
    exact both (e_lst (sEs h1 X w hN hS).1 h2) fun _ => rfl
  | _, _, _, .bi h0 h1 h2 h3 h4 h5 h6, X, w, hN, hS => by
    have hs : ∀ xs, starEach (_ :: xs) X.env = _ := fun xs => match h6 with | .cons h t => ck_star h xs X.env
    have hp : ∀ pos, (backTo pos (starEach _ X.env)).any (·.1) = false := fun pos => match h6 with | .cons h t => cks_any t pos X.env
    exact both (e_bi w (by rw [hS]; exact h1) h2 h3 h4 h5 (sEs h6 X w hN hS).1 (hs _) (hp _)) fun _ => rfl
  | _, _, _, .join h1 h2 h3 h4, X, w, hN, hS => by
    exact both (e_join w (sE h1 X w hN hS).1 (sE h2 X w hN hS).1 (ck_star h2 [] X.env) (base_plain h4 _ _) h3) fun _ => rfl
  | _, _, _, .call h1 h2 h3 h4 h5 h6, X, w, hN, hS => by
    have hs : ∀ xs, starEach (_ :: xs) X.env = _ := fun xs => match h4 with | .cons h t => ck_star h xs X.env
    have hp : ∀ pos, (backTo pos (starEach _ X.env)).any (·.1) = false := fun pos => match h4 with | .cons h t => cks_any t pos X.env
    have hl := (cks_len h4).trans h6
    exact both (e_call w h1 (by rw [hS]; exact h2) h3 ((sEs h4 X w hN hS).2 h5) (fun t => by
      have t2 := tAs_len t
      rw [hl] at t2
      exact t2) (hs _) (hp _)) fun _ => rfl
  | _, _, _, .call0 h1 h2 h3 h4, X, w, hN, hS => by
    exact both (e_call0 w h1 (by rw [hS]; exact h2) h3 h4) fun _ => rfl
  | _, _, _, .callk h1 h2 h3 h4 h5 h6 h7 h8, X, w, hN, hS => by
    obtain ⟨q1, q2, q3⟩ := ckk_ks h4 _ X.env
    exact both (e_callk w h1 (by rw [hS]; exact h2) h3 (sK h4 h5 X w hN hS) h6 (ckk_len h4) h7 h8 q1 q2 q3) fun _ => rfl
  | sc, _, _, .cmpr (scope := scope) h1 h2 h3 h4 h5 h6 h7 h8, X, w, hN, hS => by
    have hsc : ∀ (s : Shared) (H : Hp) (C : Addr) (cl : List (PySem.Str × Addr)) (fp : List Addr), (X.blk s H scope (compEnvC scope cl C X.env) fp).env.scope = relS scope sc := fun s H C cl fp => by rw [← hS]; rfl
    exact both (e_of_own <| own_cmpr w (sI h1 X w hN hS _ rfl) (by rw [hN, hS]; exact blkOk_by h7) (fun s H C cl fp => g_ok (X := X.blk s H scope (compEnvC scope cl C X.env) fp) hN (hN ▸ w.nd) w.calm (hsc s H C cl fp) rfl h3) (fun s H C cl fp => sC h4 _ (w.blk ..) hN (hsc s H C cl fp)) (fun s H C cl fp => (sE h5 _ (w.blk ..) hN (hsc s H C cl fp)).1) h6 (fold_set h2 _)) fun _ => rfl
theorem sO : ∀ {sc : Scope} {e : E} {x : Option Expr}, CkO P N sc e x → ∀ (X : Cx), CxW P k c X → X.N = N → X.env.scope = sc → PO X x (tO P.nm X.K c e)
  | _, _, _, .no, X, w, hN, hS => o_no
  | _, _, _, .some h, X, w, hN, hS => o_some (sE h X w hN hS).1 (ck_ne h)
theorem sC : ∀ {sc : Scope} {e : E} {x : List Expr}, CkC P N sc e x → ∀ (X : Cx), CxW P k c X → X.N = N → X.env.scope = sc → PTs X x (tK P.nm X.K c e)
  | _, _, _, .no, X, w, hN, hS => pts_nil
  | _, _, _, .one h, X, w, hN, hS => by
    have e : tK P.nm X.K c _ = tT P.nm X.K c _ := if_neg (by rw [ck_no h]; exact Bool.false_ne_true)
    rw [e]
    exact pts_one (sE h X w hN hS).2
theorem sB : ∀ {sc : Scope} {o : BoolOp} {e : E} {xs : List Expr}, CkB P N sc o e xs → ∀ (X : Cx), CxW P k c X → X.N = N → X.env.scope = sc → ∀ pos, PE X (.BoolOp o xs pos) (tE P.nm X.K c e) ∧ PT X (.BoolOp o xs pos) (tT P.nm X.K c e)
  | _, _, _, _, .one h, X, w, hN, hS, pos => ⟨pe_one (sE h X w hN hS).1, p_one (sE h X w hN hS).2⟩
  | _, _, _, _, .and h1 h2 h3, X, w, hN, hS, pos => ⟨e_and (sE h1 X w hN hS).1 (sB h2 X w hN hS _).1 h3, p_and (sE h1 X w hN hS).2 (sB h2 X w hN hS _).2⟩
  | _, _, _, _, .or h1 h2 h3, X, w, hN, hS, pos => ⟨e_or (sE h1 X w hN hS).1 (sB h2 X w hN hS _).1 h3, p_or (sE h1 X w hN hS).2 (sB h2 X w hN hS _).2⟩
theorem sEs : ∀ {sc : Scope} {l : Es} {xs : List Expr}, CkEs P N sc l xs → ∀ (X : Cx), CxW P k c X → X.N = N → X.env.scope = sc → PA X xs (tEs P.nm X.K c l) ∧ (noBor l = true → PA X xs (tAs P.nm X.K c l))
  | _, _, _, .nil, X, w, hN, hS => ⟨as_nil, fun _ => ga_nil⟩
  | _, _, _, .cons h t, X, w, hN, hS => ⟨as_cons (sE h X w hN hS).1 (sEs t X w hN hS).1 (ck_star h _ _), fun nb => ga_cons (arg_of hN hS h (sE h X w hN hS).1 (nb_cons nb).1) ((sEs t X w hN hS).2 (nb_cons nb).2) (ck_star h _ _)⟩
theorem sK : ∀ {sc : Scope} {l : Es} {xs : List Keyword} {ks : List PySem.Str}, CkK P N sc l xs ks → noBor l = true → ∀ (X : Cx), CxW P k c X → X.N = N → X.env.scope = sc → PK X xs (tAs P.nm X.K c l)
  | _, _, _, _, .nil, nb, X, w, hN, hS => gk_nil
  | _, _, _, _, .cons h t, nb, X, w, hN, hS => gk_cons (arg_of hN hS h (sE h X w hN hS).1 (nb_cons nb).1) (sK t (nb_cons nb).2 X w hN hS)
theorem sI : ∀ {sc : Scope} {q : Bool} {it : PV.It} {x : Expr}, CkI P N sc q it x → ∀ (X : Cx), CxW P k c X → X.N = N → X.env.scope = sc → ∀ tg, isTupE tg = q → PI X tg x (tIt P.nm X.K c it)
  | _, _, _, _, .val h, X, w, hN, hS, tg, ht => i_val (sE h X w hN hS).1
  | _, _, _, _, .rng1 h1 h2 h3, X, w, hN, hS, tg, ht => i_rng1 w (by rw [hS]; exact h1) h2 (sE h3 X w hN hS).1 (ck_star h3 _ _)
  | _, _, _, _, .rng2 h1 h2 h3 h4, X, w, hN, hS, tg, ht => i_rng2 w (by rw [hS]; exact h1) h2 (sE h3 X w hN hS).1 (sE h4 X w hN hS).1 (ck_star h3 _ _) (ck_star h4 _ _)
  | _, _, _, _, .rng3 h1 h2 h3 h4 h5, X, w, hN, hS, tg, ht => i_rng3 w (by rw [hS]; exact h1) h2 (sE h3 X w hN hS).1 (sE h4 X w hN hS).1 (sE h5 X w hN hS).1 (ck_star h3 _ _) (ck_star h4 _ _) (ck_star h5 _ _)
  | _, _, _, _, .zip h1 h2 h3 h4, X, w, hN, hS, tg, ht => by
    cases tg <;> first | cases ht | skip
    exact i_zip w (by rw [hS]; exact h1) h2 (sE h3 X w hN hS).1 (sE h4 X w hN hS).1 (ck_star h3 _ _) (ck_star h4 _ _)
  | _, _, _, _, .enu h1 h2 h3, X, w, hN, hS, tg, ht => by
    cases tg <;> first | cases ht | skip
    exact i_enu w (by rw [hS]; exact h1) h2 (sE h3 X w hN hS).1 (ck_star h3 _ _)
end
end
end PV
set_option maxHeartbeats 1000000
namespace PV
open PySem PySem.Spec PySem.Calls PyProof.Rows L2
set_option maxRecDepth 8000 in
theorem ext_tup (l : Addr) (items : Array Value) (n : Nat) (b : Addr) (items2 : Array Value) (n2 : Nat) (di : Option Addr) (sl : Array (Option Value)) (hs0 : ¬(!items.isEmpty && Builtin.List.listTooLong (items.size + items2.size)) = true) (hs1 : items.size ≤ sizeLine) (hs2 : items.size + items2.size ≤ sizeLine + 1) :
    Meets (Builtin.«list.extend» ⟨[.ref l, .ref b], []⟩) (fun _ R s => s.heap.get? l = some { cls := .type "list", dict := none, data := .seq items n, slots := #[] } ∧ s.heap.get? b = some { cls := .type "tuple", dict := di, data := .seq items2 n2, slots := sl } ∧ R (.ok (.ret Value.none)) { s with heap := s.heap.update l (Obj.mapSeq fun x => x ++ items2), toks := s.toks }) :=
  .of_wp fun prog w A R s h => by
    obtain ⟨hp, g, d, tk, os⟩ := s; obtain ⟨hl, hb, h⟩ := h
    have f1 := AutoSeq1.idx_int
    have f2 := AutoSeq1.sub_tuple_tuple
    have f3 := AutoSeq1.sub_list_list
    have f4 := AutoSeq1.sub_tuple_list
    have f5 := AutoSeq1.sub_list_tuple
    have hz' : (items ++ items2).size ≤ sizeLine + 1 := by rw [Array.size_append]; exact hs2
    wp_walk using (wpAny_updateSeq hl rfl (hz := hs1) (_hz' := hz')), wpAny_loadPart' hl, wpAny_loadPart' hb
    exact ⟨_, rfl, h⟩
theorem mt_extT {X : Cx} : MtR X "list.extend" (fun x vs H Q => ∃ l b xs zs, x = .ref l ∧ vs = [.ref b] ∧ H l = some (.lst xs) ∧ SqT X.K H b zs ∧ xs.length + zs.length ≤ sizeLine ∧ Q .non (upd H l (.lst (xs ++ zs)))) := by
  intro pins s σ H x vs v us Q I rx rv h
  obtain ⟨l, b, xs, zs, rfl, rfl, hH, hB, hz, q⟩ := h
  cases rx
  obtain ⟨u, rfl, ru⟩ := rv.one
  cases ru
  obtain ⟨z, its, n, r, hl, e⟩ := I.lstM hH
  obtain ⟨its2, r2, ⟨o, e2, hc, n2, hd⟩, z2⟩ := I.tuple hB
  have hl2 := r2.length
  obtain ⟨cl, di, da, sl⟩ := o
  simp only at hc hd
  subst hc hd
  have hsz : its.toArray.size + its2.toArray.size ≤ sizeLine := by rw [List.size_toArray, List.size_toArray]; omega
  have hlong : ¬ (!its.toArray.isEmpty && Builtin.List.listTooLong (its.toArray.size + its2.toArray.size)) = true := by
    rw [notLongL hsz, Bool.and_false]
    exact Bool.false_ne_true
  refine call_meets PySem.F.slot_list_extend ⟨_, e, rfl⟩ PySem.F.entry_list_extend (PySem.F.args_list_extend_2 _ _) (ext_tup l its.toArray n b its2.toArray n2 di sl hlong (by rw [List.size_toArray]; omega) (by omega)) ⟨e, e2, ?_⟩
  refine ⟨.non, _, I.lset (its' := its ++ its2) hH e (by simp) (r.append r2) ?_, rfl, q⟩
  rw [List.length_append]
  omega
section
variable {P : PInfo} {k : Nat} {c : Cal} {X : Cx} {nm : RN} {K : PySem.W.Frag} {F₀ H₀ F H F' H' : Hp} {R₀ R R' : RA} {ρ : List Sl} {g g' g1 g2 : G} {σ : L2.St} {Q : VK} {a b e : E} {x y : D} {d : D}
/-! ### slots that own -/
theorem t_own {σ : L2.St} {H : Hp} {Q : VK} (t : tE nm K c e σ H Q) : tOwn nm K c e σ H Q := by
  obtain ⟨F₀, H₀, R₀, F, R, ρ, g, h, d, g', hev, an⟩ := t
  refine ⟨F₀, H₀, R₀, F, R, ρ, g, h, d, g', hev, fun p F' H' R' e r ow fp hp n => ?_⟩
  obtain ⟨o, ho, e2, rp⟩ := freeze e hp ow fp n
  refine an _ _ _ _ e2 r ?_
  split
  · exact .inl rp
  · exact rp
theorem Hold.ownPut (h : Hold nm K F₀ H₀ R₀ F H R ρ g σ) {p : Addr} (i : Nat) (e : Ext F H R F' H' R') (r : RillAt nm R' g' H') (ow : OwnAt F' H' p d) (fp : F' p = none) (hp : H p = none) (n : ¬ inR R' p) : Hold nm K F₀ H₀ R₀ F' H' R' (ρ.set i (.own d)) g' (σ.set i (some (.ref p))) where
  ext := (h.step e r).ext
  rill := r
  rill0 := h.rill0
  len := by rw [List.length_set, List.length_set, h.len]
  slot := fun j s q => by
    rw [List.getElem?_set] at q ⊢
    by_cases e2 : i = j
    · subst e2
      rw [if_pos rfl] at q ⊢
      split at q
      · rename_i hlt
        cases q
        rw [if_pos (h.len ▸ hlt)]
        exact ⟨p, rfl, ow, fp, h.ext.free h.rill0 h.rs hp, n⟩
      · cases q
    · rw [if_neg e2] at q ⊢
      exact (h.slot j s q).ext e
  dist := fun j l d' e' p' hjl h1 h2 h3 h4 => by
    have key : ∀ (j : Nat) (d' : D), i ≠ j → ρ[j]? = some (.own d') → σ[j]? = some (some (.ref p)) → False := fun j d' nij q1 q2 => by
      obtain ⟨p2, z1, z2, _⟩ := h.slot j _ q1
      rw [q2] at z1
      cases z1
      obtain ⟨o, z⟩ := z2.some
      rw [hp] at z; cases z
    rw [List.getElem?_set] at h1 h2 h3 h4
    by_cases e1 : i = j
    · subst e1
      rw [if_pos rfl] at h1 h3
      rw [if_neg hjl] at h2 h4
      split at h3
      · cases h3
        exact key l e' hjl h2 h4
      · cases h3
    · by_cases e2 : i = l
      · subst e2
        rw [if_pos rfl] at h2 h4
        rw [if_neg e1] at h1 h3
        split at h4
        · cases h4
          exact key j d' e1 h1 h3
        · cases h4
      · rw [if_neg e1] at h1 h3
        rw [if_neg e2] at h2 h4
        exact h.dist j l d' e' p' hjl h1 h2 h3 h4
/-- freezing a slot -/
theorem Hold.frz (h : Hold nm K F₀ H₀ R₀ F H R ρ g σ) {i : Nat} (hi : ρ[i]? = some (.own d)) : ∃ F', LeF F F' ∧ Hold nm K F₀ H₀ R₀ F' H R (ρ.set i (.v d)) g σ := by
  obtain ⟨p, h1, h2, h3, h4, h5⟩ := h.slot i _ hi
  obtain ⟨o, ho, e2, rp⟩ := freeze h.ext h4 h2 h3 h5
  refine ⟨upd F p o, le_upd h3, ⟨e2, h.rill, h.rill0, fun j s q => ?_, fun j l d' e' p' hjl q1 q2 q3 q4 => ?_, by rw [List.length_set, h.len]⟩⟩
  · rw [List.getElem?_set] at q
    by_cases e : i = j
    · subst e
      rw [if_pos rfl] at q
      split at q
      · cases q
        exact ⟨_, h1, rp⟩
      · cases q
    · rw [if_neg e] at q
      have z := h.slot j s q
      cases s with
      | un => trivial
      | v d2 => obtain ⟨v, z1, z2⟩ := z; exact ⟨v, z1, z2.mono (le_upd h3)⟩
      | own d2 =>
        obtain ⟨p2, z1, z2, z3, z4, z5⟩ := z
        have np : p2 ≠ p := fun q2 => by
          subst q2
          exact h.dist i j d d2 p2 e hi q h1 z1
        exact ⟨p2, z1, z2.mono (le_upd h3) fun _ z => z, by rw [upd_ne np]; exact z3, z4, z5⟩
      | rill => exact z
      | scr ns => exact z
  · rw [List.getElem?_set] at q1 q2
    by_cases e : i = j
    · subst e
      rw [if_pos rfl] at q1
      split at q1 <;> cases q1
    · by_cases e' : i = l
      · subst e'
        rw [if_pos rfl] at q2
        split at q2 <;> cases q2
      · rw [if_neg e] at q1
        rw [if_neg e'] at q2
        exact h.dist j l d' _ p' hjl q1 q2 q3 q4
/-- writing what a slot owns -/
theorem Hold.write (h : Hold nm K F₀ H₀ R₀ F H R ρ g σ) {i : Nat} {d' : D} {p : Addr} {o : HO} (hi : ρ[i]? = some (.own d)) (hs : σ[i]? = some (some (.ref p))) (ow : OwnAt F (upd H p o) p d') : Hold nm K F₀ H₀ R₀ F (upd H p o) R (ρ.set i (.own d')) g σ := by
  obtain ⟨p1, h1, h2, h3, h4, h5⟩ := h.slot i _ hi
  rw [hs] at h1
  cases h1
  refine ⟨ext_upd h.ext h4 h3, rill_upd h.rill h5, h.rill0, fun j s q => ?_, fun j l d1 e1 p' hjl q1 q2 q3 q4 => ?_, by rw [List.length_set, h.len]⟩
  · rw [List.getElem?_set] at q
    by_cases e : i = j
    · subst e
      rw [if_pos rfl] at q
      split at q
      · cases q
        exact ⟨p, hs, ow, h3, h4, h5⟩
      · cases q
    · rw [if_neg e] at q
      have z := h.slot j s q
      cases s with
      | un => trivial
      | v d2 => exact z
      | own d2 =>
        obtain ⟨p2, z1, z2, z3, z4, z5⟩ := z
        have np : p2 ≠ p := fun q2 => by
          subst q2
          exact h.dist i j d d2 p2 e hi q hs z1
        refine ⟨p2, z1, ?_, z3, z4, z5⟩
        cases z2 with
        | lst y r => exact .lst (by rw [upd_ne np]; exact y) r
        | dicK y r => exact .dicK (by rw [upd_ne np]; exact y) r
        | dicT y r => exact .dicT (by rw [upd_ne np]; exact y) r
      | rill => exact z
      | scr ns =>
        obtain ⟨a, z1, z2, z3⟩ := z
        refine ⟨a, z1, ?_, z3⟩
        by_cases ea : a = p
        · subst ea
          exact .inr (z3 h4)
        · rcases z2 with ⟨z2, z4⟩ | z2
          · refine .inl ⟨?_, z4⟩
            rcases z2 with z2 | ⟨o', z2⟩
            · exact .inl (by rw [upd_ne ea]; exact z2)
            · exact .inr ⟨o', by rw [upd_ne ea]; exact z2⟩
          · exact .inr z2
  · have fix : ∀ (j : Nat) (d1 : D), (ρ.set i (.own d'))[j]? = some (.own d1) → ∃ d2, ρ[j]? = some (.own d2) := fun j d1 q => by
      rw [List.getElem?_set] at q
      by_cases e : i = j
      · subst e; exact ⟨d, hi⟩
      · rw [if_neg e] at q; exact ⟨_, q⟩
    obtain ⟨d2, z1⟩ := fix j _ q1
    obtain ⟨d3, z2⟩ := fix l _ q2
    exact h.dist j l d2 d3 p' hjl z1 z2 q3 q4
theorem own_lst {l : Es} {xs : List Expr} {pos : Pos} (hl : PA X xs (tEs nm K c l)) (nb : noBor l = true) : PE X (.List xs pos) (tOwn nm K c (.lst l)) :=
  PE_imp (pe_lst hl) fun σ H Q ⟨F₀, H₀, R₀, F, R, ρ, g, h, d, g', he, an⟩ => by
    rw [ev] at he
    obtain ⟨⟨ds, g1⟩, h1, he⟩ := Option.bind_eq_some_iff.mp he
    dsimp only at he
    split at he
    · rename_i hz
      cases he
      refine ⟨F₀, H₀, R₀, F, R, ρ, g, h, ds, _, h1, fun vs F2 H2 R2 e2 w2 q1 q2 => ⟨by rw [← (q2 nb).length]; exact hz, fun p np => ?_⟩⟩
      have k2 := h.step e2 w2
      have e0 := Ext0.grow (o := .lst vs) k2.sub np
      have fp : F2 p = none := by
        cases q : F2 p with
        | none => rfl
        | some o => rcases k2.sub p o q with z | ⟨_, _, z⟩ <;> (rw [np] at z; cases z)
      have nr : ¬ inR R2 p := fun i => by
        obtain ⟨o, z⟩ := k2.rs p i
        rw [np] at z; cases z
      exact an p F2 _ R2 (e2.trans (e0.ext k2.rs k2.ext.rf) k2.rs h.rs) (w2.ext0 e0) (.lst upd_same (q2 nb)) fp (e2.free h.rs k2.rs np) nr
    · cases he
end
end PV
set_option maxHeartbeats 1000000
namespace PV
open PySem PySem.Spec PyProof.Rows L2
/-! ### stores that are swapped -/
def okLC : Expr → Bool
  | .SetComp .. => false
  | .DictComp .. => false
  | _ => true
def swB (sc : Scope) (x tgt : Expr) : Bool :=
  match x, tgt with
  | .ListComp _ _ s pos, .Name y py => sc.names.lookup y == some .local && py.line == pos.line && !(s.names.any fun (n, k) => n == y && (k == .local || k == .cell))
  | _, _ => false
theorem swB_ok {sc : Scope} {x tgt : Expr} {l : Nat} {env : Env} (hS : env.scope = sc) (hk : sc.kind = .function) (h : okLC x = true) : swapsWith x (some tgt) l env = pure (swB sc x tgt) := by
  subst hS
  have hb : env.blockKind = .function := by unfold Env.blockKind; rw [hk]; rfl
  cases x <;> first | (cases h; done) | rfl | skip
  cases tgt <;> first | rfl | skip
  unfold swapsWith swB
  simp only [hb]
  rfl
theorem sole_ok {sc : Scope} {x tgt : Expr} {l : Nat} {env : Env} (hS : env.scope = sc) (hk : sc.kind = .function) (h : okLC x = true) : swapsWithSole [tgt] x l env = pure (swB sc x tgt) := swB_ok hS hk h
def notLC : Expr → Bool
  | .ListComp .. => false
  | _ => true
theorem sw_drop {x : Expr} {l : Nat} {env : Env} (h : okLC x = true) (h2 : notLC x = true) : swapsWith x none l env = pure false := by
  cases x <;> first | (cases h; done) | (cases h2; done) | rfl
def swp (sc : Scope) (ts vs : List Expr) : Option (Option (List PySem.Str)) :=
  if (!(ts.length == 2 || ts.length == 3) || vs.length != ts.length) = true then some none
  else if (vs.any fun | .Starred .. => true | _ => false) = true then some none
  else
    let line := (ts.head?.map (·.pos.line)).getD 0
    let names := ts.filterMap fun
      | .Name id pos => if (sc.names.lookup id == some .local && pos.line == line) = true then some id else none
      | _ => none
    if (names.length != ts.length || names.eraseDups.length != names.length) = true then some none
    else if vs.all (foldedForSure 8) = true then some none
    else if vs.all (constantsAlone 8) = true then none
    else some (some names)
theorem swp_ok {sc : Scope} {ts vs : List Expr} {k k2 : Nat} {p p2 : Pos} {env : Env} {r : Option (List PySem.Str)} (hS : env.scope = sc) (hk : sc.kind = .function) (h : swp sc ts vs = some r) : swappedStores [.Tuple ts k p] (.Tuple vs k2 p2) env = pure r := by
  subst hS
  have hb : env.blockKind = .function := by unfold Env.blockKind; rw [hk]; rfl
  unfold swp at h
  unfold swappedStores
  simp only [hb]
  have hf : (ScopeKind.function != ScopeKind.function) = false := rfl
  simp only [hf, Bool.or_false]
  split at h
  · rename_i h1
    cases h
    exact if_pos h1
  · rename_i h1
    refine (if_neg h1).trans ?_
    split at h
    · rename_i h2
      cases h
      exact if_pos h2
    · rename_i h2
      refine (if_neg h2).trans ?_
      dsimp only at h
      split at h
      · rename_i h3
        cases h
        exact if_pos h3
      · rename_i h3
        refine (if_neg h3).trans ?_
        split at h
        · rename_i h4
          cases h
          exact if_pos h4
        · rename_i h4
          refine (if_neg h4).trans ?_
          split at h
          · cases h
          · rename_i h5
            cases h
            refine (if_neg h5).trans ?_
            rfl
def stN (sc : Scope) (tgt x : Expr) : Bool :=
  match tgt, x with
  | .Tuple ts _ _, .Tuple vs _ _ => (match swp sc ts vs with | some none => true | _ => false)
  | .List .., .Tuple .. => false
  | _, _ => true
theorem stN_ok {sc : Scope} {tgt x : Expr} {env : Env} (hS : env.scope = sc) (hk : sc.kind = .function) (h : stN sc tgt x = true) : swappedStores [tgt] x env = pure none := by
  unfold stN at h
  split at h
  · rename_i ts k1 p1 vs k2 p2
    refine swp_ok hS hk ?_
    split at h
    · assumption
    · cases h
  · cases h
  · rename_i h1 h2
    unfold swappedStores
    cases tgt <;> first | rfl | skip
    all_goals cases x <;> first | rfl | exact (h1 _ _ _ _ _ _ rfl rfl).elim | exact (h2 _ _ _ _ _ rfl rfl).elim
end PV
set_option maxHeartbeats 1000000
namespace PV
open PySem PySem.Spec PyProof.Rows L2
def anyN : PySem.Str → Bool := fun _ => true
/-- own expressions -/
inductive CkW (P : PInfo) (N : List PySem.Str) : Scope → E → Expr → Prop
  | lst {sc l xs pos} : CkEs P N sc l xs → noBor l = true → CkW P N sc (.lst l) (.List xs pos)
  | cmpr {sc e t it k elt gs scope pos} : CkE P N sc (.cmpr e t it k) (.ListComp elt gs scope pos) → CkW P N sc (.cmpr e t it k) (.ListComp elt gs scope pos)
def CkV (P : PInfo) (N : List PySem.Str) (sc : Scope) (o : Bool) (e : E) (x : Expr) : Prop := if o = true then CkW P N sc e x else CkE P N sc e x ∧ isBor e = false
mutual
inductive CkS (P : PInfo) (N : List PySem.Str) (sc : Scope) : C → Stmt → Prop
  | pas {pos} : CkS P N sc .pas (.Pass pos)
  | brk {pos} : CkS P N sc .brk (.Break pos)
  | set {t e tg x pos} : CkE P N sc e x → isBor e = false → CkT N sc anyN t tg → okLC x = true → swB sc x tg = false → stN sc tg x = true → CkS P N sc (.set t e) (.Assign [tg] x pos)
  | setL {i y py e t it k elt gs scope lp pos} : N[i]? = some y → sc.names.lookup y = some .local → swB sc (.ListComp elt gs scope lp) (.Name y py) = true → CkE P N sc (.cmpr e t it k) (.ListComp elt gs scope lp) →
      CkS P N sc (.set (.v i) (.cmpr e t it k)) (.Assign [.Name y py] (.ListComp elt gs scope lp) pos)
  | own {i e y py x pos} : CkW P N sc e x → N[i]? = some y → Loc sc y → okLC x = true → swB sc x (.Name y py) = false → CkS P N sc (.own i e) (.Assign [.Name y py] x pos)
  | ownL {i y py e t it k elt gs scope lp pos} : N[i]? = some y → sc.names.lookup y = some .local → swB sc (.ListComp elt gs scope lp) (.Name y py) = true → CkE P N sc (.cmpr e t it k) (.ListComp elt gs scope lp) →
      CkS P N sc (.own i (.cmpr e t it k)) (.Assign [.Name y py] (.ListComp elt gs scope lp) pos)
  | par {i oi j oj a b x y px py kt pt xa xb k2 pt2 pos} : N[i]? = some x → N[j]? = some y → i ≠ j → sc.names.lookup x = some .local → sc.names.lookup y = some .local → CkV P N sc oi a xa → CkV P N sc oj b xb →
      swp sc [.Name x px, .Name y py] [xa, xb] = some (some [x, y]) → CkS P N sc (.par i oi j oj a b) (.Assign [.Tuple [.Name x px, .Name y py] kt pt] (.Tuple [xa, xb] k2 pt2) pos)
  | parT {i oi j oj a b x y px py kt pt xa xb k2 pt2 pos} : N[i]? = some x → N[j]? = some y → i ≠ j → Loc sc x → Loc sc y → CkV P N sc oi a xa → CkV P N sc oj b xb →
      swp sc [.Name x px, .Name y py] [xa, xb] = some none → CkS P N sc (.par i oi j oj a b) (.Assign [.Tuple [.Name x px, .Name y py] kt pt] (.Tuple [xa, xb] k2 pt2) pos)
  | ife {t a b x as bs pos} : CkE P N sc t x → CkSs P N sc a as → CkSs P N sc b bs → CkS P N sc (.ife t a b) (.If x as bs pos)
  | for {t it b tg iter bs pos} : CkI P N sc (isTupE tg) it iter → itNB it = true → noSet iter = true → CkT N sc anyN t tg → CkSs P N sc b bs → CkS P N sc (.for t it b) (.For tg iter bs [] pos)
  | whl {t b x bs pos} : CkE P N sc t x → CkSs P N sc b bs → CkS P N sc (.whl t b) (.While x bs [] pos)
  | ret {e x pos} : CkE P N sc e x → isBor e = false → CkS P N sc (.ret e) (.Return (some x) pos)
  | frz {i s st} : CkS P N sc s st → CkS P N sc (.frz i s) st
  | exp {e x pos} : CkE P N sc e x → okLC x = true → notLC x = true → CkS P N sc (.exp e) (.Expr x pos)
  | app {i e y x p apos pos pos2} : N[i]? = some y → Vis sc y → okN y = true → CkE P N sc e x → isBor e = false → (apos.endLine == pos.line) = true → CkS P N sc (.app i e) (.Expr (.Call (.Attribute (.Name y p) "append" apos) [x] [] pos) pos2)
  | ext {i e y x p apos pos pos2} : N[i]? = some y → Vis sc y → okN y = true → CkE P N sc e x → isBor e = false → (apos.endLine == pos.line) = true → CkS P N sc (.ext i e) (.Expr (.Call (.Attribute (.Name y p) "extend" apos) [x] [] pos) pos2)
  | mkr {i j f y py n p z zp cp pos} : P.mkr = some (n, f) → sc.names.lookup n = some .globalImplicit → okN n = true → N[i]? = some y → Loc sc y → N[j]? = some z → Vis sc z → okN z = true → CkS P N sc (.mkr i j f) (.Assign [.Name y py] (.Call (.Name n p) [.Name z zp] [] cp) pos)
inductive CkSs (P : PInfo) (N : List PySem.Str) (sc : Scope) : Cs → List Stmt → Prop
  | nil : CkSs P N sc .nil []
  | cons {s l st r} : CkS P N sc s st → CkSs P N sc l r → CkSs P N sc (.cons s l) (st :: r)
  | doc {l r x j p p2} : CkSs P N sc l r → CkSs P N sc l (.Expr (.Constant (.str x) j p) p2 :: r)
end
structure CxS (P : PInfo) (k : Nat) (c : Cal) (X : Cx) : Prop extends CxW P k c X where
  kind : X.env.scope.kind = .function
  fn : X.fn = anyN
/-- what a statement's end promises -/
def AnsO (nm : RN) (K : PySem.W.Frag) (F₀ H₀ : Hp) (R₀ : RA) (F : Hp) (o : Out) (D : Ends) : Prop :=
  match o with
  | .nx ρ' g' => ∀ σ' F' H' R', Hold nm K F₀ H₀ R₀ F' H' R' ρ' g' σ' → LeF F F' → D.nx σ' H'
  | .bk ρ' g' => ∀ σ' F' H' R', Hold nm K F₀ H₀ R₀ F' H' R' ρ' g' σ' → LeF F F' → D.bk σ' H'
  | .rt d g' => ∀ v F' H' R', Ext F₀ H₀ R₀ F' H' R' → RillAt nm R' g' H' → Rp F' d v → D.rt v H'
def tS (nm : RN) (K : PySem.W.Frag) (c : Cal) (s : C) : TS := fun D σ H => ∃ F₀ H₀ R₀ F R ρ g, Hold nm K F₀ H₀ R₀ F H R ρ g σ ∧ ∃ o, exec c s ρ g = some o ∧ AnsO nm K F₀ H₀ R₀ F o D
def tSs (nm : RN) (K : PySem.W.Frag) (c : Cal) (s : Cs) : TS := fun D σ H => ∃ F₀ H₀ R₀ F R ρ g, Hold nm K F₀ H₀ R₀ F H R ρ g σ ∧ ∃ o, execs c s ρ g = some o ∧ AnsO nm K F₀ H₀ R₀ F o D
section
variable {P : PInfo} {N : List PySem.Str} {k : Nat} {c : Cal} {X : Cx} {nm : RN} {K : PySem.W.Frag} {F₀ H₀ F H F' H' : Hp} {R₀ R R' : RA} {ρ : List Sl} {g g' g1 g2 : G} {σ : L2.St} {Q : VK} {a b e : E} {x y : D} {d : D}
theorem AnsO.mono {o : Out} {D : Ends} (h : AnsO nm K F₀ H₀ R₀ F o D) (l : LeF F F') : AnsO nm K F₀ H₀ R₀ F' o D := by
  cases o with
  | nx ρ g => exact fun σ' F2 H' R' k e => h σ' F2 H' R' k (l.trans e)
  | bk ρ g => exact fun σ' F2 H' R' k e => h σ' F2 H' R' k (l.trans e)
  | rt d g => exact h
theorem PS_imp {st : Stmt} {t t' : TS} (h : PS X st t) (f : ∀ D σ H, t' D σ H → t D σ H) : PS X st t' := ⟨fun pins s σ H D I q => h.run pins s σ H D I (f D σ H q)⟩
theorem PSs_imp {st : List Stmt} {t t' : TS} (h : PSs X st t) (f : ∀ D σ H, t' D σ H → t D σ H) : PSs X st t' := ⟨fun pins s σ H D I q => h.run pins s σ H D I (f D σ H q)⟩
theorem set_step {t : Tg} {D : Ends} {σ : L2.St} {H : Hp} (h : tS nm K c (.set t e) D σ H) (nb : isBor e = false) : tAsg (tE nm K c e) (gT K t) D σ H := by
  obtain ⟨F₀, H₀, R₀, F, R, ρ, g, h, o, he, an⟩ := h
  rw [exec] at he
  obtain ⟨⟨d, g1⟩, h1, he⟩ := Option.bind_eq_some_iff.mp he
  obtain ⟨ρ', h2, he⟩ := Option.map_eq_some_iff.mp he
  cases he
  exact t1 h h1 fun v F1 H1 R1 k1 e1 r1 => g_bind k1 (bor_ans r1 nb) h2 fun σ' k2 _ => an σ' F1 H1 R1 k2 e1.fz
theorem own_step {i : Nat} {D : Ends} {σ : L2.St} {H : Hp} (h : tS nm K c (.own i e) D σ H) : tAsg (tOwn nm K c e) (gName i) D σ H := by
  obtain ⟨F₀, H₀, R₀, F, R, ρ, g, h, o, he, an⟩ := h
  rw [exec] at he
  obtain ⟨⟨d, g1⟩, h1, he⟩ := Option.map_eq_some_iff.mp he
  cases he
  exact ⟨F₀, H₀, R₀, F, R, ρ, g, h, d, g1, h1, fun p F' H' R' e r ow fp hp n => an _ F' H' R' (h.ownPut i e r ow fp hp n) e.fz⟩
theorem lc_parts {sc : Scope} {e : E} {t : Tg} {it : PV.It} {kk : E} {elt : Expr} {gs : List Comprehension} {scope : Scope} {lp : Pos} (h : CkE P N sc (.cmpr e t it kk) (.ListComp elt gs scope lp)) :
    ∃ tg iter ifs, gs = [⟨tg, iter, ifs, 0⟩] ∧ CkI P N sc (isTupE tg) it iter ∧ noSet iter = true ∧ CkT N (relS scope sc) (fun x => scope.names.lookup x == some .cell) t tg ∧ CkC P N (relS scope sc) kk ifs ∧ CkE P N (relS scope sc) e elt ∧ isBor e = false ∧
      blkC N sc scope ((tgIx t).map fun i => (N.getD i Str.empty, i)) = true := by
  cases h with
  | cmpr h1 h2 h3 h4 h5 h6 h7 h8 => exact ⟨_, _, _, rfl, h1, h2, h3, h4, h5, h6, h7⟩
theorem own_lc {sc : Scope} {e : E} {t : Tg} {it : PV.It} {kk : E} {elt : Expr} {gs : List Comprehension} {scope : Scope} {lp : Pos} (h : CkE P N sc (.cmpr e t it kk) (.ListComp elt gs scope lp)) (w : CxW P k c X) (hN : X.N = N) (hS : X.env.scope = sc) :
    PE X (.ListComp elt gs scope lp) (tOwn P.nm X.K c (.cmpr e t it kk)) := by
  obtain ⟨tg, iter, ifs, rfl, h1, h2, h3, h4, h5, h6, h7⟩ := lc_parts h
  have hsc : ∀ (s : Shared) (H : Hp) (C : Addr) (cl : List (PySem.Str × Addr)) (fp : List Addr), (X.blk s H scope (compEnvC scope cl C X.env) fp).env.scope = relS scope sc := fun s H C cl fp => by rw [← hS]; rfl
  exact own_cmpr w (sI h1 X w hN hS _ rfl) (by rw [hN, hS]; exact blkOk_by h7) (fun s H C cl fp => g_ok (X := X.blk s H scope (compEnvC scope cl C X.env) fp) hN (hN ▸ w.nd) w.calm (hsc s H C cl fp) rfl h3) (fun s H C cl fp => sC h4 _ (w.blk ..) hN (hsc s H C cl fp)) (fun s H C cl fp => (sE h5 _ (w.blk ..) hN (hsc s H C cl fp)).1) h6 (fold_set h2 _)
theorem s_own {sc : Scope} {e : E} {x : Expr} (h : CkW P N sc e x) (w : CxW P k c X) (hN : X.N = N) (hS : X.env.scope = sc) : PE X x (tOwn P.nm X.K c e) := by
  cases h with
  | lst h nb => exact own_lst (sEs h X w hN hS).1 nb
  | cmpr h => exact own_lc h w hN hS
theorem s_lcs {sc : Scope} {i : Nat} {y : PySem.Str} {py lp pos : Pos} {e : E} {t : Tg} {it : PV.It} {kk : E} {elt : Expr} {gs : List Comprehension} {scope : Scope} (h : CkE P N sc (.cmpr e t it kk) (.ListComp elt gs scope lp)) (w : CxS P k c X) (hN : X.N = N) (hS : X.env.scope = sc)
    (hy : N[i]? = some y) (hyl : sc.names.lookup y = some .local) (hsw : swB sc (.ListComp elt gs scope lp) (.Name y py) = true) :
    PS X (.Assign [.Name y py] (.ListComp elt gs scope lp) pos) (tAsg (tOwn P.nm X.K c (.cmpr e t it kk)) (gName i)) := by
  obtain ⟨tg, iter, ifs, rfl, h1, h2, h3, h4, h5, h6, h7⟩ := lc_parts h
  have hsc : ∀ (s : Shared) (H : Hp) (C : Addr) (cl : List (PySem.Str × Addr)) (fp : List Addr), (X.blk s H scope (compEnvC scope cl C X.env) fp).env.scope = relS scope sc := fun s H C cl fp => by rw [← hS]; rfl
  refine s_cmpr w.toCxW (by rw [hN]; exact hy) (by rw [hS]; exact hyl) ?_ (sI h1 X w.toCxW hN hS _ rfl) (by rw [hN, hS]; exact blkOk_by h7) (fun s H C cl fp => g_ok (X := X.blk s H scope (compEnvC scope cl C X.env) fp) hN (hN ▸ w.nd) w.calm (hsc s H C cl fp) rfl h3) (fun s H C cl fp => sC h4 _ (w.toCxW.blk ..) hN (hsc s H C cl fp)) (fun s H C cl fp => (sE h5 _ (w.toCxW.blk ..) hN (hsc s H C cl fp)).1) h6 (fold_set h2 _)
  rw [swB_ok hS (hS ▸ w.kind) rfl, hsw]
/-- a value or a new object, as it is to be stored -/
def tV (nm : RN) (K : PySem.W.Frag) (c : Cal) (o : Bool) (e : E) : TE := if o = true then tOwn nm K c e else tE nm K c e
theorem s_v {sc : Scope} {o : Bool} {e : E} {x : Expr} (h : CkV P N sc o e x) (w : CxW P k c X) (hN : X.N = N) (hS : X.env.scope = sc) : PE X x (tV P.nm X.K c o e) := by
  unfold CkV at h
  unfold tV
  cases o with
  | true => rw [if_pos rfl] at h ⊢; exact s_own h w hN hS
  | false => rw [if_neg Bool.false_ne_true] at h ⊢; exact (sE h.1 X w hN hS).1
theorem v_star {sc : Scope} {o : Bool} {e : E} {x : Expr} (h : CkV P N sc o e x) (xs : List Expr) (env : Env) : starEach (x :: xs) env = (false, eval x env) :: starEach xs env := by
  unfold CkV at h
  cases o with
  | true =>
    rw [if_pos rfl] at h
    cases h with
    | lst h nb => rfl
    | cmpr h => rfl
  | false => rw [if_neg Bool.false_ne_true] at h; exact ck_star h.1 xs env
theorem v_bor {sc : Scope} {o : Bool} {e : E} {x : Expr} (h : CkV P N sc o e x) : o = true ∨ isBor e = false := by
  cases o with
  | true => exact .inl rfl
  | false =>
    unfold CkV at h
    rw [if_neg Bool.false_ne_true] at h
    exact .inr h.2
/-- the slot of a value just stored -/
def slV (o : Bool) (d : D) : Sl := if o = true then .own d else .v d
/-- a value that is held for a slot -/
def HV (F H H₀ : Hp) (R : RA) (o : Bool) (d : D) (v : V) : Prop := if o = true then ∃ p, v = .ref p ∧ OwnAt F H p d ∧ F p = none ∧ H₀ p = none ∧ ¬ inR R p else Rp F d v
theorem HV.ext {o : Bool} {v : V} (h : HV F H H₀ R o d v) (e : Ext F H R F' H' R') : HV F' H' H₀ R' o d v := by
  unfold HV at h ⊢
  cases o with
  | true =>
    rw [if_pos rfl] at h ⊢
    obtain ⟨p, rfl, h2, h3, h4, h5⟩ := h
    obtain ⟨o, ho⟩ := h2.some
    exact ⟨p, rfl, h2.mono e.fz fun o q => e.keep _ _ q (not_in e h5 ho), no_fz e h3 ho, h4, not_in e h5 ho⟩
  | false => rw [if_neg Bool.false_ne_true] at h ⊢; exact h.mono e.fz
theorem tv1 {o : Bool} (h : Hold nm K F₀ H₀ R₀ F H R ρ g σ) (ha : ev c a ρ g = some (d, g1)) (nb : o = true ∨ isBor a = false) {W : V → Hp → Prop}
    (w : ∀ v F2 H2 R2, Hold nm K F₀ H₀ R₀ F2 H2 R2 ρ g1 σ → Ext F H R F2 H2 R2 → HV F2 H2 H₀ R2 o d v → (o = true → ∀ p, v = .ref p → H p = none) → W v H2) : tV nm K c o a σ H W := by
  unfold tV
  cases o with
  | true =>
    rw [if_pos rfl]
    refine ⟨F₀, H₀, R₀, F, R, ρ, g, h, d, g1, ha, fun p F' H' R' e r ow fp hp n => ?_⟩
    refine w _ F' H' R' (h.step e r) e ?_ fun _ p' e' => by cases e'; exact hp
    unfold HV
    rw [if_pos rfl]
    exact ⟨p, rfl, ow, fp, h.ext.free h.rill0 h.rs hp, n⟩
  | false =>
    rw [if_neg Bool.false_ne_true]
    refine t1 h ha fun v F2 H2 R2 k2 e2 r => w v F2 H2 R2 k2 e2 ?_ fun z => by cases z
    unfold HV
    rw [if_neg Bool.false_ne_true]
    rcases nb with nb | nb
    · cases nb
    · exact bor_ans r nb
/-- no slot, no other value holds p -/
theorem Hold.putV (h : Hold nm K F₀ H₀ R₀ F H R ρ g σ) {o : Bool} {v : V} (i : Nat) (hv : HV F H H₀ R o d v) (hf : o = true → ∀ p, v = .ref p → ∀ j e, j ≠ i → ρ[j]? = some (.own e) → σ[j]? = some (some (.ref p)) → False) :
    Hold nm K F₀ H₀ R₀ F H R (ρ.set i (slV o d)) g (σ.set i (some v)) := by
  unfold slV
  unfold HV at hv
  cases o with
  | false => rw [if_neg Bool.false_ne_true] at hv ⊢; exact h.put i hv
  | true =>
    rw [if_pos rfl] at hv ⊢
    obtain ⟨p, rfl, h2, h3, h4, h5⟩ := hv
    refine ⟨h.ext, h.rill, h.rill0, fun j s q => ?_, fun j l d' e' p' hjl q1 q2 q3 q4 => ?_, by rw [List.length_set, List.length_set, h.len]⟩
    · rw [List.getElem?_set] at q ⊢
      by_cases e2 : i = j
      · subst e2
        rw [if_pos rfl] at q ⊢
        split at q
        · rename_i hlt
          cases q
          rw [if_pos (h.len ▸ hlt)]
          exact ⟨p, rfl, h2, h3, h4, h5⟩
        · cases q
      · rw [if_neg e2] at q ⊢
        exact h.slot j s q
    · rw [List.getElem?_set] at q1 q2 q3 q4
      by_cases e1 : i = j
      · subst e1
        rw [if_pos rfl] at q1 q3
        rw [if_neg hjl] at q2 q4
        split at q3
        · cases q3
          exact hf rfl p rfl l e' (fun q => hjl q.symm) q2 q4
        · cases q3
      · by_cases e2 : i = l
        · subst e2
          rw [if_pos rfl] at q2 q4
          rw [if_neg e1] at q1 q3
          split at q4
          · cases q4
            exact hf rfl p rfl j d' hjl q1 q3
          · cases q4
        · rw [if_neg e1] at q1 q3
          rw [if_neg e2] at q2 q4
          exact h.dist j l d' e' p' hjl q1 q2 q3 q4
theorem fresh_slot (h : Hold nm K F₀ H₀ R₀ F H R ρ g σ) {p : Addr} (hp : H p = none) {j : Nat} {d : D} (h1 : ρ[j]? = some (.own d)) (h2 : σ[j]? = some (some (.ref p))) : False := by
  obtain ⟨p2, z1, z2, _⟩ := h.slot j _ h1
  rw [h2] at z1; cases z1
  obtain ⟨o, z⟩ := z2.some
  rw [hp] at z; cases z
theorem par_two {i j : Nat} {oi oj : Bool} {D : Ends} {σ : L2.St} {H : Hp} {W : List V → Hp → Prop} (h : tS nm K c (.par i oi j oj a b) D σ H) (nba : oi = true ∨ isBor a = false) (nbb : oj = true ∨ isBor b = false) (hij : i ≠ j)
    (w : ∀ v u F2 H2 R2, SubF F2 H2 → (∀ p, H2 p = none → ∀ a, inR R2 a → a ≠ p) → (∀ T o, H2 T = none → D.nx ((σ.set i (some v)).set j (some u)) (upd H2 T o)) → D.nx ((σ.set i (some v)).set j (some u)) H2 → W [v, u] H2) :
    tCons (tV nm K c oi a) (tCons (tV nm K c oj b) tNil) σ H W := by
  obtain ⟨F₀, H₀, R₀, F, R, ρ, g, h, o, he, an⟩ := h
  rw [exec] at he
  obtain ⟨⟨x, g1⟩, h1, he⟩ := Option.bind_eq_some_iff.mp he
  obtain ⟨⟨y, g2⟩, h2, he⟩ := Option.map_eq_some_iff.mp he
  cases he
  refine tv1 h h1 nba fun v F1 H1 R1 k1 e1 hv1 f1 => tv1 k1 h2 nbb fun u F2 H2 R2 k2 e2 hv2 f2 => ?_
  have hv1' := hv1.ext e2
  have kA : Hold nm K F₀ H₀ R₀ F2 H2 R2 (ρ.set i (slV oi x)) g2 (σ.set i (some v)) := k2.putV i hv1' fun ho p ep j e hj q1 q2 => fresh_slot h (f1 ho p ep) q1 q2
  have kB : Hold nm K F₀ H₀ R₀ F2 H2 R2 ((ρ.set i (slV oi x)).set j (slV oj y)) g2 ((σ.set i (some v)).set j (some u)) := by
    refine kA.putV j hv2 fun ho p ep l e hl q1 q2 => ?_
    have hp1 := f2 ho p ep
    rw [List.getElem?_set] at q1 q2
    by_cases e3 : i = l
    · subst e3
      rw [if_pos rfl] at q1 q2
      split at q1
      · unfold slV at q1
        split at q1
        · rename_i hoi
          split at q2
          · cases q2
            unfold HV at hv1
            rw [if_pos hoi] at hv1
            obtain ⟨p', ep', ow, _⟩ := hv1
            cases ep'
            obtain ⟨o, z⟩ := ow.some
            rw [hp1] at z; cases z
          · cases q2
        · cases q1
      · cases q1
    · rw [if_neg e3] at q1 q2
      exact fresh_slot k1 hp1 q1 q2
  have fin := an _ F2 H2 R2 kB (e1.fz.trans e2.fz)
  refine w v u F2 H2 R2 k2.sub (fun p np a ia q => by
    subst q
    obtain ⟨o, z⟩ := k2.rs a ia
    rw [np] at z; cases z) (fun T o nT => ?_) fin
  have e0 := Ext0.grow (o := o) k2.sub nT
  exact an _ F2 _ R2 (kB.step (e0.ext kB.rs kB.ext.rf) (kB.rill.ext0 e0)) (e1.fz.trans e2.fz)
end
end PV
set_option maxHeartbeats 1000000
namespace PV
open PySem PySem.Spec PyProof.Rows L2
section
variable {P : PInfo} {N : List PySem.Str} {k : Nat} {c : Cal} {X : Cx} {nm : RN} {K : PySem.W.Frag} {F₀ H₀ F H F' H' : Hp} {R₀ R R' : RA} {ρ : List Sl} {g g' g1 g2 : G} {σ : L2.St} {Q : VK} {a b e : E} {x y : D} {d : D}
theorem st1 (h : Hold nm K F₀ H₀ R₀ F H R ρ g σ) {l : Cs} {o : Out} (ha : execs c l ρ g = some o) {D : Ends} (an : AnsO nm K F₀ H₀ R₀ F o D) : tSs nm K c l D σ H := ⟨F₀, H₀, R₀, F, R, ρ, g, h, o, ha, an⟩
theorem if_step {t : E} {a b : Cs} {D : Ends} {σ : L2.St} {H : Hp} (h : tS nm K c (.ife t a b) D σ H) : tIfS (tT nm K c t) (tSs nm K c a) (tSs nm K c b) D σ H := by
  obtain ⟨F₀, H₀, R₀, F, R, ρ, g, h, o, he, an⟩ := h
  rw [exec] at he
  obtain ⟨⟨x, g1⟩, h1, he⟩ := Option.bind_eq_some_iff.mp he
  dsimp only at he
  split at he
  · exact tt1 h h1 fun F2 H2 R2 k2 e2 => by rw [if_pos rfl]; exact st1 k2 he (an.mono e2.fz)
  · exact tt1 h h1 fun F2 H2 R2 k2 e2 => by rw [if_neg Bool.false_ne_true]; exact st1 k2 he (an.mono e2.fz)
  · cases he
theorem forL_cons {f : D → List Sl → G → Option Out} {x : D} {xs : List D} {o : Out} (h : forL f (x :: xs) ρ g = some o) :
    ∃ o1, f x ρ g = some o1 ∧ ((∃ ρ1 g1, o1 = .nx ρ1 g1 ∧ forL f xs ρ1 g1 = some o) ∨ (∃ ρ1 g1, o1 = .bk ρ1 g1 ∧ o = .nx ρ1 g1) ∨ ∃ d g1, o1 = .rt d g1 ∧ o = .rt d g1) := by
  rw [forL] at h
  obtain ⟨o1, h1, h⟩ := Option.bind_eq_some_iff.mp h
  refine ⟨o1, h1, ?_⟩
  cases o1 with
  | nx ρ1 g1 => exact .inl ⟨ρ1, g1, rfl, h⟩
  | bk ρ1 g1 => cases h; exact .inr (.inl ⟨ρ1, g1, rfl, rfl⟩)
  | rt d g1 => cases h; exact .inr (.inr ⟨d, g1, rfl, rfl⟩)
/-- the ends of a loop's body, by what is left -/
theorem loop_ends {D : Ends} {o1 o : Out} {Nx : L2.St → Hp → Prop} (an : AnsO nm K F₀ H₀ R₀ F o D)
    (h : (∃ ρ1 g1, o1 = .nx ρ1 g1 ∧ ∀ σ' F' H' R', Hold nm K F₀ H₀ R₀ F' H' R' ρ1 g1 σ' → LeF F F' → Nx σ' H') ∨ (∃ ρ1 g1, o1 = .bk ρ1 g1 ∧ o = .nx ρ1 g1) ∨ ∃ d g1, o1 = .rt d g1 ∧ o = .rt d g1) :
    AnsO nm K F₀ H₀ R₀ F o1 { D with nx := Nx, ct := Nx, bk := D.nx } := by
  rcases h with ⟨ρ1, g1, rfl, h⟩ | ⟨ρ1, g1, rfl, rfl⟩ | ⟨d, g1, rfl, rfl⟩
  · exact h
  · exact an
  · exact an
theorem for_step {t : Tg} {it : PV.It} {b : Cs} {D : Ends} {σ : L2.St} {H : Hp} (nb : itNB it = true) (h : tS nm K c (.for t it b) D σ H) : tFor (tIt nm K c it) (gT K t) (tSs nm K c b) D σ H := by
  obtain ⟨F₀, H₀, R₀, F, R, ρ, g, h, o, he, an⟩ := h
  rw [exec] at he
  obtain ⟨⟨l, g1⟩, h1, he⟩ := Option.bind_eq_some_iff.mp he
  dsimp only at he
  refine t1w h h1 fun J F1 H1 R1 k1 e1 gw => ?_
  obtain ⟨Gp, Y, wk, hG, hY⟩ := gw.2 nb
  refine for_it wk (fun i σ Hc => ∃ F' R' ρ' g', Hold nm K F₀ H₀ R₀ F' Hc R' ρ' g' σ ∧ LeF F1 F' ∧ forL (fun x ρ g => (bindT t x ρ).bind fun ρ => execs c b ρ g) (l.drop i) ρ' g' = some o) ?_ ?_ ?_ ?_
  · exact ⟨F1, R1, ρ, g1, k1, LeF.refl _, by rw [List.drop_zero]; exact he⟩
  · rintro i σ1 Hc _ ⟨F', R', ρ', g', k2, l2, _⟩
    exact hG F' Hc R' ⟨l2, k2.sub⟩
  · rintro i x σ1 Hc Hc2 hlt ⟨F', R', ρ', g', k2, l2, p⟩ y
    have hd : l[i]? = some l[i] := List.getElem?_eq_getElem hlt
    rw [List.drop_eq_getElem_cons hlt] at p
    obtain ⟨o1, q1, q2⟩ := forL_cons p
    obtain ⟨F2, e0, rx⟩ := hY i Hc x Hc2 F' R' _ ⟨l2, k2.sub⟩ hd y
    obtain ⟨ρ1, b1, b2⟩ := Option.bind_eq_some_iff.mp q1
    have k3 := k2.step (e0.ext k2.rs k2.ext.rf) (k2.rill.ext0 e0)
    refine g_bind k3 rx b1 fun σ2 k4 _ => st1 k4 b2 ?_
    refine loop_ends (an.mono ((e1.fz.trans l2).trans e0.fz)) ?_
    rcases q2 with ⟨ρ2, g2, e2, q3⟩ | q2
    · exact .inl ⟨ρ2, g2, e2, fun σ' F3 H3 R3 k5 l5 => ⟨F3, R3, ρ2, g2, k5, (l2.trans e0.fz).trans l5, q3⟩⟩
    · exact .inr q2
  · rintro σ1 Hc ⟨F', R', ρ', g', k2, l2, p⟩
    rw [List.drop_length] at p
    cases p
    exact an σ1 F' Hc R' k2 (e1.fz.trans l2)
theorem wh_some {t : List Sl → G → Option (D × G)} {b : List Sl → G → Option Out} {o : Out} (h : wh t b ρ g = some o) : ∃ n, whN t b n ρ g = some o := by
  unfold wh at h
  split at h
  · rename_i hx
    cases h
    exact ⟨_, Classical.choose_spec (Classical.choose_spec hx)⟩
  · cases h
theorem whN_succ {t : List Sl → G → Option (D × G)} {b : List Sl → G → Option Out} {o : Out} {n : Nat} (h : whN t b n ρ g = some o) : ∃ m q g1, n = m + 1 ∧ t ρ g = some (.bool q, g1) ∧
    ((q = false ∧ o = .nx ρ g1) ∨ (q = true ∧ ∃ o1, b ρ g1 = some o1 ∧ ((∃ ρ1 g2, o1 = .nx ρ1 g2 ∧ whN t b m ρ1 g2 = some o) ∨ (∃ ρ1 g2, o1 = .bk ρ1 g2 ∧ o = .nx ρ1 g2) ∨ ∃ d g2, o1 = .rt d g2 ∧ o = .rt d g2))) := by
  cases n with
  | zero => cases h
  | succ m =>
    rw [whN] at h
    obtain ⟨⟨x, g1⟩, h1, h⟩ := Option.bind_eq_some_iff.mp h
    dsimp only at h
    split at h
    · obtain ⟨o1, h2, h⟩ := Option.bind_eq_some_iff.mp h
      refine ⟨m, true, g1, rfl, h1, .inr ⟨rfl, o1, h2, ?_⟩⟩
      cases o1 with
      | nx ρ1 g1 => exact .inl ⟨ρ1, g1, rfl, h⟩
      | bk ρ1 g1 => cases h; exact .inr (.inl ⟨ρ1, g1, rfl, rfl⟩)
      | rt d g1 => cases h; exact .inr (.inr ⟨d, g1, rfl, rfl⟩)
    · cases h
      exact ⟨m, false, _, rfl, h1, .inl ⟨rfl, rfl⟩⟩
    · cases h
theorem whl_step {t : E} {b : Cs} {D : Ends} {σ : L2.St} {H : Hp} (h : tS nm K c (.whl t b) D σ H) : tWhile (tT nm K c t) (tSs nm K c b) D σ H := by
  obtain ⟨F₀, H₀, R₀, F, R, ρ, g, h, o, he, an⟩ := h
  rw [exec] at he
  obtain ⟨n, he⟩ := wh_some he
  refine ⟨fun m σ Hc => ∃ F' R' ρ' g', Hold nm K F₀ H₀ R₀ F' Hc R' ρ' g' σ ∧ LeF F F' ∧ whN (fun ρ g => ev c t ρ g) (fun ρ g => execs c b ρ g) m ρ' g' = some o, ⟨n, F, R, ρ, g, h, LeF.refl _, he⟩, ?_⟩
  rintro m σ1 Hc ⟨F', R', ρ', g', k2, l2, p⟩
  obtain ⟨m', q, g1, rfl, p1, p2⟩ := whN_succ p
  refine tt1 k2 p1 fun F2 H2 R2 k3 e3 => ?_
  have an3 := an.mono (l2.trans e3.fz)
  rcases p2 with ⟨rfl, rfl⟩ | ⟨rfl, o1, p3, p4⟩
  · rw [if_neg Bool.false_ne_true]
    exact an3 σ1 F2 H2 R2 k3 (LeF.refl _)
  · rw [if_pos rfl]
    refine ⟨fun σ' H' => ∃ F' R' ρ' g', Hold nm K F₀ H₀ R₀ F' H' R' ρ' g' σ' ∧ LeF F F' ∧ whN (fun ρ g => ev c t ρ g) (fun ρ g => execs c b ρ g) m' ρ' g' = some o, fun σ' H' z => ⟨m', Nat.lt_succ_self _, z⟩, st1 k3 p3 ?_⟩
    refine loop_ends an3 ?_
    rcases p4 with ⟨ρ2, g2, e2, q3⟩ | q2
    · exact .inl ⟨ρ2, g2, e2, fun σ' F3 H3 R3 k5 l5 => ⟨F3, R3, ρ2, g2, k5, (l2.trans e3.fz).trans l5, q3⟩⟩
    · exact .inr q2
theorem ret_step {D : Ends} {σ : L2.St} {H : Hp} (nb : isBor e = false) (h : tS nm K c (.ret e) D σ H) : tRet (tE nm K c e) D σ H := by
  obtain ⟨F₀, H₀, R₀, F, R, ρ, g, h, o, he, an⟩ := h
  rw [exec] at he
  obtain ⟨⟨d, g1⟩, h1, he⟩ := Option.map_eq_some_iff.mp he
  cases he
  exact t1 h h1 fun v F1 H1 R1 k1 e1 r1 => an v F1 H1 R1 k1.ext k1.rill (bor_ans r1 nb)
theorem exp_step {D : Ends} {σ : L2.St} {H : Hp} (h : tS nm K c (.exp e) D σ H) : tDrop (tE nm K c e) D σ H := by
  obtain ⟨F₀, H₀, R₀, F, R, ρ, g, h, o, he, an⟩ := h
  rw [exec] at he
  obtain ⟨⟨d, g1⟩, h1, he⟩ := Option.map_eq_some_iff.mp he
  cases he
  exact t1 h h1 fun v F1 H1 R1 k1 e1 r1 => an σ F1 H1 R1 k1 e1.fz
theorem frz_step {i : Nat} {s : C} {D : Ends} {σ : L2.St} {H : Hp} (h : tS nm K c (.frz i s) D σ H) : tS nm K c s D σ H := by
  obtain ⟨F₀, H₀, R₀, F, R, ρ, g, h, o, he, an⟩ := h
  rw [exec] at he
  split at he
  · rename_i d hd
    obtain ⟨F', l, h'⟩ := h.frz hd
    exact ⟨F₀, H₀, R₀, F', R, _, g, h', o, he, an.mono l⟩
  · exact ⟨F₀, H₀, R₀, F, R, ρ, g, h, o, he, an⟩
  · cases he
theorem own_list {i : Nat} {l : List D} (h : Hold nm K F₀ H₀ R₀ F H R ρ g σ) (hi : ρ[i]? = some (.own (.list l))) : ∃ p xs, σ[i]? = some (some (.ref p)) ∧ H p = some (.lst xs) ∧ RpL F l xs := by
  obtain ⟨p, h1, h2, _⟩ := h.slot i _ hi
  cases h2 with
  | lst e r => exact ⟨p, _, h1, e, r⟩
theorem s_app {i : Nat} {n : PySem.Str} {p apos pos pos2 : Pos} {xe : Expr} (hn : X.N[i]? = some n) (hv : Vis X.env.scope n) (ho : okN n = true) (ha : PE X xe (tE nm X.K c e)) (hs : starEach [xe] X.env = [(false, eval xe X.env)]) (nb : isBor e = false) (hl : (apos.endLine == pos.line) = true) :
    PS X (.Expr (.Call (.Attribute (.Name n p) "append" apos) [xe] [] pos) pos2) (tS nm X.K c (.app i e)) := by
  have o := okN_parts ho
  have pa : PA X [xe] (tCons (tE nm X.K c e) tNil) := pa_cons ha pa_nil hs
  have m := pe_bm (name := "append") (X := X) (o := .Name n p) (apos := apos) (cpos := pos) PySem.F.plainAttrs_list PySem.F.slot_list_append PySem.F.type_list_append (mt_append : MtR X _ _) (pe_var hn hv o.1 o.2.1) pa rfl (by rw [hs]; rfl) hl hs rfl
  refine PS_imp (ps_expr m) fun D σ H ⟨F₀, H₀, R₀, F, R, ρ, g, h, o, he, an⟩ => ?_
  rw [exec] at he
  obtain ⟨⟨d, g1⟩, h1, he⟩ := Option.bind_eq_some_iff.mp he
  dsimp only at he
  split at he
  · rename_i l hi
    split at he
    · rename_i hz
      cases he
      obtain ⟨p, xs, z1, z2, z3⟩ := own_list h hi
      refine ⟨.ref p, z1, .inl ⟨rfl, xs, SqL.of z2⟩, t1 h h1 fun v F1 H1 R1 k1 e1 r1 => ?_⟩
      obtain ⟨p', xs', y1, y2, y3⟩ := own_list k1 hi
      rw [z1] at y1
      cases y1
      refine ⟨p, xs', v, rfl, rfl, y2, by rw [← y3.length]; exact hz, ?_⟩
      exact an σ F1 _ R1 (k1.write hi z1 (.lst upd_same (y3.append (.cons (bor_ans r1 nb) .nil)))) e1.fz
    · cases he
  · cases he
theorem mt_ext_any : MtR X "list.extend" (fun x vs H Q => ∃ l b xs zs, x = .ref l ∧ vs = [.ref b] ∧ H l = some (.lst xs) ∧ (H b = some (.lst zs) ∨ SqT X.K H b zs) ∧ xs.length + zs.length ≤ sizeLine ∧ Q .non (upd H l (.lst (xs ++ zs)))) := by
  intro pins s σ H x vs v us Q I rx rv h
  obtain ⟨l, b, xs, zs, e1, e2, h1, h2 | h2, h3, h4⟩ := h
  · exact mt_extend pins s σ H x vs v us Q I rx rv ⟨l, b, xs, zs, e1, e2, h1, h2, h3, h4⟩
  · exact mt_extT pins s σ H x vs v us Q I rx rv ⟨l, b, xs, zs, e1, e2, h1, h2, h3, h4⟩
theorem s_ext {i : Nat} {n : PySem.Str} {p apos pos pos2 : Pos} {xe : Expr} (hn : X.N[i]? = some n) (hv : Vis X.env.scope n) (ho : okN n = true) (ha : PE X xe (tE nm X.K c e)) (hs : starEach [xe] X.env = [(false, eval xe X.env)]) (nb : isBor e = false) (hl : (apos.endLine == pos.line) = true) :
    PS X (.Expr (.Call (.Attribute (.Name n p) "extend" apos) [xe] [] pos) pos2) (tS nm X.K c (.ext i e)) := by
  have o := okN_parts ho
  have pa : PA X [xe] (tCons (tE nm X.K c e) tNil) := pa_cons ha pa_nil hs
  have m := pe_bm (name := "extend") (X := X) (o := .Name n p) (apos := apos) (cpos := pos) PySem.F.plainAttrs_list PySem.F.slot_list_extend PySem.F.type_list_extend mt_ext_any (pe_var hn hv o.1 o.2.1) pa rfl (by rw [hs]; rfl) hl hs rfl
  refine PS_imp (ps_expr m) fun D σ H ⟨F₀, H₀, R₀, F, R, ρ, g, h, o, he, an⟩ => ?_
  rw [exec] at he
  obtain ⟨⟨d, g1⟩, h1, he⟩ := Option.bind_eq_some_iff.mp he
  dsimp only at he
  split at he
  · rename_i l m hi
    split at he
    · rename_i hz
      cases he
      obtain ⟨p, xs, z1, z2, z3⟩ := own_list h hi
      refine ⟨.ref p, z1, .inl ⟨rfl, xs, SqL.of z2⟩, t1 h h1 fun v F1 H1 R1 k1 e1 r1 => ?_⟩
      obtain ⟨p', xs', y1, y2, y3⟩ := own_list k1 hi
      rw [z1] at y1
      cases y1
      have r := bor_ans r1 nb
      obtain ⟨q, ys, rfl, q1, q2⟩ := r.lst_inv
      refine ⟨p, q, xs', ys, rfl, rfl, y2, .inl (k1.sub.lst q1), by rw [← y3.length, ← q2.length]; exact hz, ?_⟩
      exact an σ F1 _ R1 (k1.write hi z1 (.lst upd_same (y3.append q2))) e1.fz
    · cases he
  · rename_i l m hi
    split at he
    · rename_i hz
      cases he
      obtain ⟨p, xs, z1, z2, z3⟩ := own_list h hi
      refine ⟨.ref p, z1, .inl ⟨rfl, xs, SqL.of z2⟩, t1 h h1 fun v F1 H1 R1 k1 e1 r1 => ?_⟩
      obtain ⟨p', xs', y1, y2, y3⟩ := own_list k1 hi
      rw [z1] at y1
      cases y1
      have r := bor_ans r1 nb
      obtain ⟨q, ys, rfl, q1, q2⟩ := r.tup_inv
      refine ⟨p, q, xs', ys, rfl, rfl, y2, .inr (SqT.of (k1.sub.tup q1)), by rw [← y3.length, ← q2.length]; exact hz, ?_⟩
      exact an σ F1 _ R1 (k1.write hi z1 (.lst upd_same (y3.append q2))) e1.fz
    · cases he
  · cases he
theorem Hold.putR (h : Hold nm K F₀ H₀ R₀ F H R ρ g σ) {p : Addr × Addr} (i : Nat) (r : R = some p) : Hold nm K F₀ H₀ R₀ F H R (ρ.set i .rill) g (σ.set i (some (.ref p.1))) where
  ext := h.ext
  rill := h.rill
  rill0 := h.rill0
  len := by rw [List.length_set, List.length_set, h.len]
  slot := fun j s q => by
    rw [List.getElem?_set] at q ⊢
    by_cases e : i = j
    · subst e
      rw [if_pos rfl] at q ⊢
      split at q
      · rename_i hlt
        cases q
        rw [if_pos (h.len ▸ hlt)]
        exact ⟨p, r, rfl⟩
      · cases q
    · rw [if_neg e] at q ⊢
      exact h.slot j s q
  dist := fun j l d' e' p hjl h1 h2 h3 h4 => by
    rw [List.getElem?_set] at h1 h2 h3 h4
    by_cases e : i = j
    · subst e
      rw [if_pos rfl] at h1
      split at h1 <;> cases h1
    · by_cases e2 : i = l
      · subst e2
        rw [if_pos rfl] at h2
        split at h2 <;> cases h2
      · rw [if_neg e] at h1 h3
        rw [if_neg e2] at h2 h4
        exact h.dist j l d' e' p hjl h1 h2 h3 h4
theorem s_mkr (w : CxW P k c X) {i j : Nat} {f : List Int → Rl} {y z n : PySem.Str} {py p zp cp pos : Pos} (hfn : X.fn = anyN) (hm : P.mkr = some (n, f)) (hg : X.env.scope.names.lookup n = some .globalImplicit) (ho : okN n = true) (hy : X.N[i]? = some y) (hl : Loc X.env.scope y) (hz : X.N[j]? = some z) (hv : Vis X.env.scope z) (hoz : okN z = true) :
    PS X (.Assign [.Name y py] (.Call (.Name n p) [.Name z zp] [] cp) pos) (tS P.nm X.K c (.mkr i j f)) := by
  obtain ⟨fa, fdt, q, h1, h2, h3, h4⟩ := w.mkr n f hm
  have o := okN_parts hoz
  refine PS_imp (ps_asg (pe_callG h3 w.room w.guards hg h1 h2 h4 (pa_cons (pe_var hz hv o.1 o.2.1) pa_nil) (okN_parts ho).1 rfl rfl) (pg_name w.nd hy hl (.inl (by rw [hfn]; rfl)))) fun D σ H ⟨F₀, H₀, R₀, F, R, ρ, g, h, ou, he, an⟩ => ?_
  rw [exec] at he
  unfold mkrS at he
  split at he
  · rename_i ns hs
    cases he
    obtain ⟨a, z1, z2, _⟩ := h.slot j _ hs
    have hr : R = none := by
      have hr := h.rill
      cases R with
      | none => rfl
      | some p => exact (show False from hr).elim
    subst hr
    refine ⟨.ref a, z1, F, a, ns, h.sub, rfl, z2, fun p F' H' e r => ?_⟩
    exact an _ F' H' (some p) ((h.step e r).putR i rfl) e.fz
  · cases he
end
end PV
set_option maxHeartbeats 1000000
namespace PV
open PySem PySem.Spec PyProof.Rows L2
section
variable {P : PInfo} {N : List PySem.Str} {k : Nat} {c : Cal} {X : Cx} {nm : RN} {K : PySem.W.Frag} {F₀ H₀ F H F' H' : Hp} {R₀ R R' : RA} {ρ : List Sl} {g g' g1 g2 : G} {σ : L2.St} {Q : VK} {a b e : E} {x y : D} {d : D}
theorem passes (w : CxW P k c X) : PassesOwn (model X.prog X.w) X.A X.env X.xe := by
  rw [w.xe]
  exact PassesOwn.never
theorem seq_step {s : C} {l : Cs} {D : Ends} {σ : L2.St} {H : Hp} (h : tSs nm K c (.cons s l) D σ H) : tSeq (tS nm K c s) (tSs nm K c l) D σ H := by
  obtain ⟨F₀, H₀, R₀, F, R, ρ, g, h, o, he, an⟩ := h
  rw [execs] at he
  obtain ⟨o1, h1, he⟩ := Option.bind_eq_some_iff.mp he
  refine ⟨F₀, H₀, R₀, F, R, ρ, g, h, o1, h1, ?_⟩
  cases o1 with
  | nx ρ1 g1 => exact fun σ' F' H' R' k e => st1 k he (an.mono e)
  | bk ρ1 g1 => cases he; exact an
  | rt d g1 => cases he; exact an
mutual
theorem s_ok {sc : Scope} (w : CxS P k c X) (hN : X.N = N) (hS : X.env.scope = sc) : ∀ {s : C} {st : Stmt}, CkS P N sc s st → PS X st (tS P.nm X.K c s)
  | _, _, .pas => PS_imp ps_pass fun D σ H ⟨F₀, H₀, R₀, F, R, ρ, g, h, o, he, an⟩ => by
    rw [exec] at he
    cases he
    exact an σ F H R h (LeF.refl _)
  | _, _, .brk => PS_imp ps_break fun D σ H ⟨F₀, H₀, R₀, F, R, ρ, g, h, o, he, an⟩ => by
    rw [exec] at he
    cases he
    exact an σ F H R h (LeF.refl _)
  | _, _, .set h1 h2 h3 h4 h5 h6 => PS_imp (ps_asg (sE h1 X w.toCxW hN hS).1 (g_ok hN (hN ▸ w.nd) w.calm hS w.fn h3) ((sole_ok hS (hS ▸ w.kind) h4).trans (by rw [h5])) (stN_ok hS (hS ▸ w.kind) h6) (by rw [ckT_plain h3]; rfl)) fun D σ H t => set_step t h2
  | _, _, .setL h1 h2 h3 h4 => PS_imp (s_lcs h4 w hN hS h1 h2 h3) fun D σ H t => t_own (set_step t rfl)
  | _, _, .own h1 h2 h3 h4 h5 => PS_imp (ps_asg (s_own h1 w.toCxW hN hS) (pg_name w.nd (by rw [hN]; exact h2) (by rw [hS]; exact h3) (.inl (by rw [w.fn]; rfl))) ((sole_ok hS (hS ▸ w.kind) h4).trans (by rw [h5])) (stN_ok hS (hS ▸ w.kind) (by cases h1 <;> rfl)) rfl) fun D σ H t => own_step t
  | _, _, .ownL h1 h2 h3 h4 => PS_imp (s_lcs h4 w hN hS h1 h2 h3) fun D σ H t => own_step t
  | _, _, .par h1 h2 h3 h4 h5 h6 h7 h8 => by
    have pa := pa_cons (s_v h6 w.toCxW hN hS) (pa_cons (s_v h7 w.toCxW hN hS) pa_nil (v_star h7 _ _)) (v_star h6 _ _)
    exact PS_imp (ps_par w.calm w.nd (by rw [hN]; exact h1) (by rw [hN]; exact h2) h3 (by rw [hS]; exact h4) (by rw [hS]; exact h5) pa (swp_ok hS (hS ▸ w.kind) h8)) fun D σ H t =>
      par_two t (v_bor h6) (v_bor h7) h3 fun v u F2 H2 R2 _ _ _ q => ⟨v, u, rfl, q⟩
  | _, _, .parT h1 h2 h3 h4 h5 h6 h7 h8 => by
    have pa := pa_cons (s_v h6 w.toCxW hN hS) (pa_cons (s_v h7 w.toCxW hN hS) pa_nil (v_star h7 _ _)) (v_star h6 _ _)
    exact PS_imp (ps_asg (pe_tup pa) (pg_tup w.calm (pgs_cons (pg_name w.nd (by rw [hN]; exact h1) (by rw [hS]; exact h4) (.inl (by rw [w.fn]; rfl))) (pgs_cons (pg_name w.nd (by rw [hN]; exact h2) (by rw [hS]; exact h5) (.inl (by rw [w.fn]; rfl))) pgs_nil))) rfl (swp_ok hS (hS ▸ w.kind) h8)) fun D σ H t => by
      unfold tAsg tTup
      exact par_two t (v_bor h6) (v_bor h7) h3 fun v u F2 H2 R2 _ _ q _ => ⟨by show 2 ≤ sizeLine; decide, fun T nT => ⟨T, [v, u], rfl, SqT.of upd_same, rfl, v, [u], rfl, u, [], rfl, rfl, q T _ nT⟩⟩
  | _, _, .ife h1 h2 h3 => PS_imp (ps_if (sE h1 X w.toCxW hN hS).2 (ss_ok w hN hS h2) (ss_ok w hN hS h3)) fun D σ H t => if_step t
  | _, _, .for h1 h2 h3 h4 h5 => PS_imp (ps_for (passes w.toCxW) w.calm (sI h1 X w.toCxW hN hS _ rfl) (g_ok hN (hN ▸ w.nd) w.calm hS w.fn h4) (ss_ok w hN hS h5) (fold_set h3 _)) fun D σ H t => for_step h2 t
  | _, _, .whl h1 h2 => PS_imp (ps_while (passes w.toCxW) (sE h1 X w.toCxW hN hS).2 (ss_ok w hN hS h2)) fun D σ H t => whl_step t
  | _, _, .ret h1 h2 => PS_imp (ps_ret (sE h1 X w.toCxW hN hS).1) fun D σ H t => ret_step h2 t
  | _, _, .frz h => PS_imp (s_ok w hN hS h) fun D σ H t => frz_step t
  | _, _, .exp h1 h2 h3 => PS_imp (ps_expr (sE h1 X w.toCxW hN hS).1 (sw_drop h2 h3)) fun D σ H t => exp_step t
  | _, _, .app h1 h2 h3 h4 h5 h6 => s_app (by rw [hN]; exact h1) (by rw [hS]; exact h2) h3 (sE h4 X w.toCxW hN hS).1 (ck_star h4 _ _) h5 h6
  | _, _, .ext h1 h2 h3 h4 h5 h6 => s_ext (by rw [hN]; exact h1) (by rw [hS]; exact h2) h3 (sE h4 X w.toCxW hN hS).1 (ck_star h4 _ _) h5 h6
  | _, _, .mkr h1 h2 h3 h4 h5 h6 h7 h8 => s_mkr w.toCxW w.fn h1 (by rw [hS]; exact h2) h3 (by rw [hN]; exact h4) (by rw [hS]; exact h5) (by rw [hN]; exact h6) (by rw [hS]; exact h7) h8
theorem ss_ok {sc : Scope} (w : CxS P k c X) (hN : X.N = N) (hS : X.env.scope = sc) : ∀ {s : Cs} {st : List Stmt}, CkSs P N sc s st → PSs X st (tSs P.nm X.K c s)
  | _, _, .nil => PSs_imp pss_nil fun D σ H ⟨F₀, H₀, R₀, F, R, ρ, g, h, o, he, an⟩ => by
    rw [execs] at he
    cases he
    exact an σ F H R h (LeF.refl _)
  | _, _, .cons h1 h2 => PSs_imp (pss_cons (s_ok w hN hS h1) (ss_ok w hN hS h2)) fun D σ H t => seq_step t
  | _, _, .doc h => PSs_imp (pss_cons ps_doc (ss_ok w hN hS h)) fun D σ H t => t
end
end
end PV
set_option maxHeartbeats 1000000
namespace PV
open PySem PySem.Spec PyProof.Rows L2
/-! ### all defs, by the depth of calls -/
abbrev Nv := Nat → Option (List Arg → G → Option (D × G))
noncomputable def run (fds : List Fd) (nat : Nv) : Nat → Cal
  | 0 => fun i as g => match nat i with
    | some h => h as g
    | none => none
  | n + 1 => fun i as g => match nat i with
    | some h => h as g
    | none => match fds[i]? with
      | some fd => runB (run fds nat n) fd as g
      | none => none
theorem run_nat {fds : List Fd} {nat : Nv} {i : Nat} {h : List Arg → G → Option (D × G)} (e : nat i = some h) : ∀ (n : Nat) (as : List Arg) (g : G), run fds nat n i as g = h as g
  | 0, as, g => by unfold run; rw [e]
  | n + 1, as, g => by unfold run; rw [e]
theorem run_zero {fds : List Fd} {nat : Nv} {i : Nat} (e : nat i = none) (as : List Arg) (g : G) : run fds nat 0 i as g = none := by unfold run; rw [e]
theorem run_succ {fds : List Fd} {nat : Nv} {i : Nat} {fd : Fd} (e : nat i = none) (h : fds[i]? = some fd) (n : Nat) (as : List Arg) (g : G) : run fds nat (n + 1) i as g = runB (run fds nat n) fd as g := by
  show (match nat i with
    | some h => h as g
    | none => match fds[i]? with
      | some fd => runB (run fds nat n) fd as g
      | none => none) = _
  rw [e, h]
/-- what stands behind the top -/
structure Mdl (P : PInfo) (nat : Nv) (b : Nat) (pr : Program) (w : World) (K : PySem.W.Frag) (mg : PySem.Str → Option Value) (base : Heap) : Prop where
  funs : ∀ i fd, P.fds[i]? = some fd → ∃ f fdt, mg fd.name = some (.ref f) ∧ PySem.W.keepIn K (.ref f) = true ∧ Binds K fdt (fd.N.take fd.np) [] ∧ fd.np ≤ fd.N.length ∧ (∀ ks q, (i, ks, q) ∈ P.kws → KwB fdt (fd.N.take fd.np) ks q) ∧ (∃ o, K.lookup f = some o ∧ o.data = .func fdt) ∧
    ((nat i = none ∧ ∃ st, Fun K fd.name fd.name st f fdt ∧ FnScope fd.N (fd.N.take fd.np) (defScope st) ∧ CkSs P fd.N (defScope st) fd.body (defBody st)) ∨
     ∃ h, nat i = some h ∧ FnG pr w K mg base b f fdt (fd.N.take fd.np) (spF P.nm K (fun _ => h) fd.np i))
  glo : ∀ y d, (y, d) ∈ P.glo → ∃ u v, mg y = some u ∧ RelV v u ∧ ∀ F, Rp F d v
  blt : ∀ y, y ∈ P.blt → mg y = none
  mkr : ∀ y h, P.mkr = some (y, h) → ∃ f fdt q, mg y = some (.ref f) ∧ PySem.W.keepIn K (.ref f) = true ∧ FnG pr w K mg base b f fdt [q] (spR P.nm K h) ∧ Binds K fdt [q] []
theorem slOf_at {K : PySem.W.Frag} {F H : Hp} {R : RA} : ∀ {as : List Arg} {vs : List V} {i : Nat} {s : Sl}, ArgsOk K F H R as vs → (as.map slOf)[i]? = some s → ∃ v, vs[i]? = some v ∧ SlOk K F H H R s (some (some v))
  | [], [], _, _, _, e => by simp at e
  | [], _ :: _, _, _, h, _ => h.elim
  | _ :: _, [], _, _, h, _ => h.elim
  | a :: as, v :: vs, 0, s, h, e => by
    refine ⟨v, rfl, ?_⟩
    have e : slOf a = s := by simpa using e
    subst e
    have h1 := h.1
    cases a with
    | d d => exact ⟨v, rfl, h1⟩
    | rill => obtain ⟨p, z1, rfl⟩ := h1; exact ⟨p, z1, rfl⟩
    | scr ns =>
      obtain ⟨a, rfl, z⟩ := h1
      refine ⟨a, rfl, z, fun n => ?_⟩
      rcases z with ⟨z, _⟩ | z
      · rcases z with z | ⟨o, z⟩ <;> (rw [n] at z; cases z)
      · exact z
  | a :: as, v :: vs, i + 1, s, h, e => by simpa using slOf_at (i := i) h.2 (by simpa using e)
theorem own_not {as : List Arg} {i : Nat} {d : D} (h : (as.map slOf)[i]? = some (.own d)) : False := by
  rw [List.getElem?_map] at h
  obtain ⟨a, _, h2⟩ := Option.map_eq_some_iff.mp h
  cases a <;> cases h2
theorem hold_start {nm : RN} {K : PySem.W.Frag} {F H : Hp} {R : RA} {g : G} {as : List Arg} {vs : List V} {N : List PySem.Str} (sF : SubF F H) (rf : ∀ a, inR R a → F a = none) (r : RillAt nm R g H) (ha : ArgsOk K F H R as vs) :
    Hold nm K F H R F H R (as.map slOf ++ List.replicate (N.length - as.length) .un) g (L2.start N vs) where
  ext := Ext.refl sF rf
  rill := r
  rill0 := fun a i => r.some i
  len := by
    unfold L2.start
    simp [ha.length]
  slot := fun i s q => by
    rw [List.getElem?_append] at q
    split at q
    · rename_i hlt
      obtain ⟨v, h1, h2⟩ := slOf_at ha q
      have hv : i < vs.length := (List.getElem?_eq_some_iff.mp h1).1
      have e : (L2.start N vs)[i]? = some (some v) := by
        unfold L2.start
        rw [List.getElem?_append_left (by simpa using hv), List.getElem?_map, h1]
        rfl
      rw [e]
      exact h2
    · rw [List.getElem?_replicate] at q
      split at q
      · cases q; trivial
      · cases q
  dist := fun i j d e p hij h1 h2 _ _ => by
    rw [List.getElem?_append] at h1
    split at h1
    · exact own_not h1
    · rw [List.getElem?_replicate] at h1
      split at h1 <;> cases h1
theorem spF_len {nm : RN} {K : PySem.W.Frag} {c : Cal} {n i : Nat} {vs : List V} {H : Hp} {Q : VK} {E : XK} (h : spF nm K c n i vs H Q E) : vs.length = n := by
  obtain ⟨F, R, g, as, d, g', _, _, _, h4, h5, _⟩ := h
  rw [← h5, h4.length]
section
variable {P : PInfo} {nat : Nv} {b : Nat} {pr : Program} {w : World} {K : PySem.W.Frag} {mg : PySem.Str → Option Value} {base : Heap}
theorem fn_step (M : Mdl P nat b pr w K mg base) {k : Nat} {c : Cal} {i : Nat} {fd : Fd} {f : Addr} {fdt : FuncData} {st : Stmt} (hk : b ≤ k)
    (ih : ∀ i fd, P.fds[i]? = some fd → ∃ f fdt, mg fd.name = some (.ref f) ∧ PySem.W.keepIn K (.ref f) = true ∧ FnG pr w K mg base k f fdt (fd.N.take fd.np) (spF P.nm K c fd.np i) ∧ Binds K fdt (fd.N.take fd.np) [] ∧ fd.np ≤ fd.N.length ∧ ∀ ks q, (i, ks, q) ∈ P.kws → KwB fdt (fd.N.take fd.np) ks q)
    (F : Fun K fd.name fd.name st f fdt) (S : FnScope fd.N (fd.N.take fd.np) (defScope st)) (hb : CkSs P fd.N (defScope st) fd.body (defBody st)) (hnp : fd.np ≤ fd.N.length) {c2 : Cal} (hc : ∀ as g, c2 i as g = runB c fd as g) :
    FnG pr w K mg base (k + 1) f fdt (fd.N.take fd.np) (spF P.nm K c2 fd.np i) := by
  refine fng_of F S (fun vs H Q h => ?_) fun cdv A outer s H vs Q hr hg h => ?_
  · rw [spF_len h, List.length_take]
    omega
  · obtain ⟨F1, R, g, as, d, g', s1, s2, s3, s4, s5, s6, s7⟩ := h
    have wS : CxS P k c (cxOf CX0 pr w K mg base fd.N fd.name (defScope st) f cdv A outer s H E0).nox := {
      calm := rfl
      guards := hg
      units := by
        have := hr.un
        show (A.deeper _).units + 190 < cLine
        omega
      xe := rfl
      nd := S.nd
      room := hr
      funs := ih
      glo := M.glo
      blt := M.blt
      mkr := fun y h e => by
        obtain ⟨f, fdt, q, h1, h2, h3, h4⟩ := M.mkr y h e
        exact ⟨f, fdt, q, h1, h2, h3.mono hk, h4⟩
      kind := S.kind
      fn := rfl }
    refine ⟨tSs P.nm K c fd.body, ?_, ?_⟩
    · exact ss_ok wS rfl rfl hb
    · rw [hc] at s6
      unfold runB at s6
      rw [if_pos s5] at s6
      have hs := hold_start (N := fd.N) s1 s2 s3 s4
      rw [s5] at hs
      split at s6
      · rename_i he
        cases s6
        exact ⟨F1, H, R, F1, R, _, g, hs, _, he, s7⟩
      · rename_i he
        cases s6
        exact ⟨F1, H, R, F1, R, _, g, hs, _, he, fun σ' F' H' R' k2 _ => s7 .non F' H' R' k2.ext k2.rill .non⟩
      · cases s6
theorem fn_all (M : Mdl P nat b pr w K mg base) : ∀ (n i : Nat) (fd : Fd), P.fds[i]? = some fd → ∃ f fdt, mg fd.name = some (.ref f) ∧ PySem.W.keepIn K (.ref f) = true ∧ FnG pr w K mg base (b + n) f fdt (fd.N.take fd.np) (spF P.nm K (run P.fds nat n) fd.np i) ∧
    Binds K fdt (fd.N.take fd.np) [] ∧ fd.np ≤ fd.N.length ∧ (∃ o, K.lookup f = some o ∧ o.data = .func fdt) ∧ ∀ ks q, (i, ks, q) ∈ P.kws → KwB fdt (fd.N.take fd.np) ks q := by
  intro n
  induction n with
  | zero =>
    intro i fd hi
    obtain ⟨f, fdt, h1, h2, h3, h4, h5, h7, h6⟩ := M.funs i fd hi
    refine ⟨f, fdt, h1, h2, ?_, h3, h4, h7, h5⟩
    rcases h6 with ⟨e, _⟩ | ⟨h, e, G⟩
    · refine ⟨fun vs H Q h => by rw [spF_len h, List.length_take]; omega, fun A outer s H args us vs Q _ _ _ _ _ h => ?_⟩
      obtain ⟨F1, R, g, as, d, g', s1, s2, s3, s4, s5, s6, s7⟩ := h
      rw [run_zero e] at s6
      cases s6
    · have ec : spF P.nm K (run P.fds nat 0) fd.np i = spF P.nm K (fun _ => h) fd.np i := by
        unfold spF
        funext vs H Q _
        simp only [run_nat e]
      rw [ec]
      exact G
  | succ n ih =>
    intro i fd hi
    obtain ⟨f, fdt, h1, h2, h3, h4, h5, h7, h6⟩ := M.funs i fd hi
    refine ⟨f, fdt, h1, h2, ?_, h3, h4, h7, h5⟩
    rcases h6 with ⟨e, st, F, S, hb⟩ | ⟨h, e, G⟩
    · exact fn_step M (Nat.le_add_right b n) (fun i fd hi => let ⟨f, fdt, z1, z2, z3, z4, z5, _, z6⟩ := ih i fd hi; ⟨f, fdt, z1, z2, z3, z4, z5, z6⟩) F S hb h4 fun as g => run_succ e hi n as g
    · have ec : spF P.nm K (run P.fds nat (n + 1)) fd.np i = spF P.nm K (fun _ => h) fd.np i := by
        unfold spF
        funext vs H Q _
        simp only [run_nat e]
      rw [ec]
      exact G.mono (Nat.le_add_right b (n + 1))
end
/-! ### the law's call at the heap behind the top -/
def onlyScr (a : Addr) (vs : List Value) (ns : List Int) (t : Bool) : Hp := fun x => if x = a ∧ t = true then some (.frz { cls := .type "list", data := .seq vs.toArray } (.lst (ns.map V.int))) else none
theorem lawG {pr : Program} {w : World} {K : PySem.W.Frag} {mg mb : PySem.Str → Option Value} {k : Nat} {fa a : Addr} {fdt : FuncData} {x : PySem.Str} {sp : Sp} {s₁ : Shared} {vs : List Value} {ns : List Int}
    (inK : K.In s₁.heap) (nsM : s₁.heap.Ns mainGlobals mg) (nsB : s₁.heap.Ns builtinsNs mb) (bot : ∀ y : PySem.Str, y ≠ "__name__" → mb y = bootBuiltins y) (nol : s₁.heap.NoLimit) (gn : s₁.gens = #[])
    (oa : s₁.heap.get? a = some { cls := .type "list", data := .seq vs.toArray }) (ia : IntsAre vs ns) (la : ns.length ≤ sizeLine) (room : Room k callerA)
    (F : ∀ base : Heap, K.In base → base.Ns mainGlobals mg → FnG pr w K mg base k fa fdt [x] sp) (bnd : ∀ (u : Value), BindsTo s₁ fdt ⟨[u], []⟩ [(x, u)])
    (prom : ∀ H : Hp, SqL K H a (ns.map V.int) → sp [.ref a] H (fun v _ => v = .bl true) E0) :
    codeAny (model pr w) callerA (.call (.ref fa) ⟨[.ref a], []⟩) (fun r s' => r = .ok (.ret (.bool true)) ∧ OldK s₁.heap s'.heap ∧ s'.os = s₁.os ∧ AllBare s'.gens) s₁ := by
  have rel := vals_ints ia
  have lv := ia.length
  -- H tracks the script, unless the module's own text holds it
  obtain ⟨t, ht⟩ : ∃ t : Bool, t = true ↔ K.lookup a = none := by
    cases q : K.lookup a with
    | none => exact ⟨true, by simp⟩
    | some o => exact ⟨false, by simp⟩
  have hid : ∀ {x : Addr} {u : HO}, onlyScr a vs ns t x = some u → x = a ∧ t = true ∧ u = .frz { cls := .type "list", data := .seq vs.toArray } (.lst (ns.map V.int)) := fun {x u} z => by
    unfold onlyScr at z
    split at z
    · rename_i hx; cases z; exact ⟨hx.1, hx.2, rfl⟩
    · cases z
  have free : ∀ {x : Addr}, x ≠ a → onlyScr a vs ns t x = none := fun {x} n => if_neg fun z => n z.1
  have keepB : ∀ {x : Addr} {o : Obj}, s₁.heap.get? x = some o → onlyScr a vs ns t x = none → (hidT s₁.heap (onlyScr a vs ns t)).get? x = some o := fun e n => hidT_get e n
  have dictB : ∀ {x : Addr} {m : PySem.Str → Option Value}, s₁.heap.Ns x m → (hidT s₁.heap (onlyScr a vs ns t)).Ns x m := fun {x m} ⟨o, es, ep, e, d, r⟩ => by
    refine ⟨o, es, ep, keepB e (free fun z => ?_), d, r⟩
    subst z
    rw [oa] at e
    cases e
    cases (show Data.seq vs.toArray _ = Data.dict es ep from d)
  have inB : K.In (hidT s₁.heap (onlyScr a vs ns t)) := fun x o e => keepB (inK x o e) (by
    cases q : onlyScr a vs ns t x with
    | none => rfl
    | some u =>
      obtain ⟨rfl, h2, _⟩ := hid q
      rw [ht.mp h2] at e; cases e)
  have hokS : HOk pr w (onlyScr a vs ns t) s₁.heap := fun x u z => by
    obtain ⟨rfl, _, rfl⟩ := hid z
    exact ⟨oa, by rw [List.length_map]; exact la, vs, _, rel, oa⟩
  have md : Mod K mg (hidT s₁.heap (onlyScr a vs ns t)) := ⟨inB, dictB nsM, ⟨mb, dictB nsB, bot⟩, let ⟨mc, z1, z2⟩ := nol; ⟨mc, dictB z1, z2⟩⟩
  have env : Env0 pr w K mg (hidT s₁.heap (onlyScr a vs ns t)) callerA [] s₁ (onlyScr a vs ns t) := ⟨rfl, md, fun x o e => of_hidT e, Nat.le_of_eq (hidT_size _ _), trivial, fun x z => absurd (show x ∈ ([] : List Addr) from z) (by simp), hokS, .of_eq gn⟩
  have sq : SqL K (onlyScr a vs ns t) a (ns.map V.int) := by
    cases q : K.lookup a with
    | none => exact .inl (.inr ⟨_, if_pos ⟨rfl, ht.mpr q⟩⟩)
    | some o =>
      have e := inK a o q
      rw [oa] at e
      cases e
      exact .inr ⟨_, vs.toArray, _, q, rfl, rfl, rfl, by rw [List.size_toArray, lv]; exact la, by simpa using rel⟩
  refine codeAny_mono ((F _ inB (dictB nsM)).run callerA [] s₁ _ ⟨[.ref a], []⟩ [.ref a] [.ref a] _ room rfl env (bnd (.ref a)) (.cons rfl .nil) (prom _ sq)) fun r s' h => ?_
  cases r with
  | error e => exact False.elim h
  | ok fl =>
    cases fl with
    | next => exact False.elim h
    | brk => exact False.elim h
    | cont => exact False.elim h
    | ret u =>
      obtain ⟨v, H', os, bare, un, hk', rv, q⟩ := h
      have q : v = .bl true := q
      subst q
      obtain rfl : u = Value.bool true := rv
      refine ⟨rfl, OldK.of_keep fun x o e => ?_, os, bare⟩
      cases z : onlyScr a vs ns t x with
      | none => exact un.keep x o e z (fun y => absurd (show x ∈ ([] : List Addr) from y) (by simp)) (by simp)
      | some u2 =>
        obtain ⟨rfl, _, rfl⟩ := hid z
        obtain ⟨e1, _⟩ := hk' x _ (un.frzs x _ _ z)
        rw [oa] at e
        cases e
        exact e1
/-- the goal that the head leaves, from the evaluator's answer -/
theorem walkP {l : PySem.W.OpenLaw} {n b m iL : Nat} {q : Program} {loose : List PySem.Str} {XP : (PySem.Str → Option Value) → Heap → Prop} {YP : World → Heap → Prop} {d : DefRec} {K : Params → PySem.W.Frag} {P : PInfo} {nat : Nv} {fdL : Fd} {x : PySem.Str}
    (hn : l.most = some n) (hn2 : n ≤ sizeLine) (hdf : d.params.defaults = []) (room : Room (b + m) callerA)
    (hY : ∀ (w : World) (h : Heap), YP w h → (K w.params).In h)
    (hL : P.fds[iL]? = some fdL) (hx : fdL.N.take fdL.np = [x]) (hnp : fdL.np = 1) (hname : fdL.name = d.name)
    (F : ∀ (w : World) (mg : PySem.Str → Option Value) (h : Heap), (K w.params).In h → h.Ns mainGlobals mg → ∀ base : Heap, (K w.params).In base → base.Ns mainGlobals mg → Mdl P nat b l.prog w (K w.params) mg base)
    (val : ∀ ns : List Int, ns.length ≤ n → ∃ g, run P.fds nat m iL [.scr ns] none = some (.bool true, g)) :
    PySem.W.WalkO q loose XP YP l.row.toRowW d [] (fun f vs => PySem.call f vs) := by
  refine Att.attach_call hn hdf fun w s₀ s₁ mg mb fa o pm cd doc a vs ns G Y ho hd hcd hmg hobj hints hlen hg => ?_
  have KX := hY w _ Y
  obtain ⟨f, fdt, h1, h2, h3, h4, h5, ⟨ob, h6, h7⟩, _⟩ := fn_all (F w mg _ KX G.T.g _ KX G.T.g) m iL fdL hL
  rw [hname, hmg] at h1
  cases h1
  rw [hx] at h4
  have same : ∀ base : Heap, (K w.params).In base → base.Ns mainGlobals mg → FnG l.prog w (K w.params) mg base (b + m) fa fdt [x] (spF P.nm (K w.params) (run P.fds nat m) 1 iL) := fun base k1 k2 => by
    obtain ⟨f', fdt', z1, z2, z3, z4, z5, ⟨ob', z6, z7⟩, _⟩ := fn_all (F w mg _ KX G.T.g _ k1 k2) m iL fdL hL
    rw [hname, hmg] at z1
    cases z1
    rw [h6] at z6
    cases z6
    rw [h7] at z7
    cases z7
    rw [hx, hnp] at z3
    exact z3
  refine lawG KX G.T.g G.T.b G.T.builtins G.T.nolimit hg hobj hints (Nat.le_trans hlen hn2) room same (fun u => ?_) fun H sq => ?_
  · have := h4 s₁ [u] KX rfl
    simpa using this
  · obtain ⟨g, e⟩ := val ns hlen
    refine ⟨fun _ => none, none, none, [.scr ns], .bool true, g, fun _ _ z => (by cases z), fun _ _ => rfl, trivial, ⟨⟨a, rfl, ?_⟩, trivial⟩, rfl, e, fun v F' H' R' _ _ r => r.bool_inv⟩
    rcases sq with sq | sq
    · exact .inl ⟨sq, fun ⟨p, z, _⟩ => by cases z⟩
    · exact .inr fun H => .inr sq
end PV
set_option maxHeartbeats 1000000
namespace PV
open PySem PySem.Spec PyProof.Rows L2
/-! ### the relation by a run -/
def valEq : Value → Value → Bool
  | .builtin a, .builtin b => a == b
  | .type a, .type b => a == b
  | _, _ => false
theorem valEq_eq {a b : Value} (h : valEq a b = true) : a = b := by
  unfold valEq at h
  split at h
  · exact congrArg Value.builtin (beq_iff_eq.mp h)
  · exact congrArg Value.type (beq_iff_eq.mp h)
  · cases h
def opEq : Operator → Operator → Bool
  | .Add, .Add => true
  | .Sub, .Sub => true
  | .Mult, .Mult => true
  | .FloorDiv, .FloorDiv => true
  | .Mod, .Mod => true
  | .Pow, .Pow => true
  | _, _ => false
theorem opEq_eq {a b : Operator} (h : opEq a b = true) : a = b := by
  cases a <;> cases b <;> first | rfl | cases h
def cpEq : CmpOp → CmpOp → Bool
  | .Eq, .Eq => true
  | .NotEq, .NotEq => true
  | .Lt, .Lt => true
  | .LtE, .LtE => true
  | .Gt, .Gt => true
  | .GtE, .GtE => true
  | .In, .In => true
  | .NotIn, .NotIn => true
  | _, _ => false
theorem cpEq_eq {a b : CmpOp} (h : cpEq a b = true) : a = b := by
  cases a <;> cases b <;> first | rfl | cases h
def glbB (P : PInfo) (y : PySem.Str) (d : D) : Bool := P.glo.any fun p => decide (p.1 = y) && flatEq p.2 d
theorem glbB_mem {P : PInfo} {y : PySem.Str} {d : D} (h : glbB P y d = true) : (y, d) ∈ P.glo := by
  unfold glbB at h
  obtain ⟨⟨a, b⟩, h1, h2⟩ := List.any_eq_true.mp h
  simp only [Bool.and_eq_true, decide_eq_true_eq] at h2
  obtain ⟨rfl, h3⟩ := h2
  rw [← flatEq_eq h3]
  exact h1
def isNon {α : Type} : Option α → Bool
  | none => true
  | _ => false
def chkT (N : List PySem.Str) (sc : Scope) (fn : PySem.Str → Bool) : Tg → Expr → Bool
  | .v i, .Name y _ => decide (N[i]? = some y) && locB sc y && (fn y || decide (sc.names.lookup y = some .local))
  | .t2 a b, .Tuple [x, y] _ _ => chkT N sc fn a x && chkT N sc fn b y
  | .t3 a b c, .Tuple [x, y, z] _ _ => chkT N sc fn a x && chkT N sc fn b y && chkT N sc fn c z
  | _, _ => false
theorem chkT_ok {N : List PySem.Str} {sc : Scope} {fn : PySem.Str → Bool} : ∀ {t : Tg} {x : Expr}, chkT N sc fn t x = true → CkT N sc fn t x
  | .v i, x, h => by
    unfold chkT at h
    split at h <;> first | (rename_i heq; cases heq; done) | skip
    all_goals first | (cases h; done) | skip
    rename_i y p heq1
    cases heq1
    simp only [Bool.and_eq_true, decide_eq_true_eq, Bool.or_eq_true] at h
    exact .v h.1.1 (locB_loc h.1.2) h.2
  | .t2 a b, x, h => by
    unfold chkT at h
    split at h <;> first | (rename_i heq; cases heq; done) | skip
    all_goals first | (cases h; done) | skip
    rename_i heq1
    cases heq1
    simp only [Bool.and_eq_true] at h
    exact .t2 (chkT_ok h.1) (chkT_ok h.2)
  | .t3 a b c, x, h => by
    unfold chkT at h
    split at h <;> first | (rename_i heq; cases heq; done) | skip
    all_goals first | (cases h; done) | skip
    rename_i heq1
    cases heq1
    simp only [Bool.and_eq_true] at h
    exact .t3 (chkT_ok h.1.1) (chkT_ok h.1.2) (chkT_ok h.2)
end PV
set_option maxHeartbeats 1000000
namespace PV
open PySem PySem.Spec PyProof.Rows L2
section
variable (P : PInfo) (N : List PySem.Str)
mutual
def chkE : E → Scope → Expr → Bool
  | .no, _, _ => false
  | .loc i, sc, x => match x with | .Name y _ => decide (N[i]? = some y) && visB sc y && okN y | _ => false
  | .bor i, sc, x => match x with | .Name y _ => decide (N[i]? = some y) && visB sc y && okN y | _ => false
  | .con d, _, x => match x with | .Constant c _ _ => (match constD c with | some d' => flatEq d' d | none => false) | _ => false
  | .glo y d, sc, x => match x with | .Name z _ => decide (z = y) && glB sc y && glbB P y d && okN y | _ => false
  | .bin o a b, sc, x => match x with | .BinOp l o' r _ => opEq o' o && chkE a sc l && chkE b sc r | _ => false
  | .neg a, sc, x => match x with | .UnaryOp .USub l _ => chkE a sc l | _ => false
  | .cmp o a b, sc, x => match x with | .Compare l [o'] [r] _ => cpEq o' o && chkE a sc l && chkE b sc r && noSet r | _ => false
  | .isN a, sc, x => match x with | .Compare l [.Is] [.Constant .none _ _] _ => chkE a sc l | _ => false
  | .notN a, sc, x => match x with | .Compare l [.IsNot] [.Constant .none _ _] _ => chkE a sc l | _ => false
  | .chn o p a b c, sc, x => match x with | .Compare l [o', p'] [m, r] _ => cpEq o' o && cpEq p' p && chkE a sc l && chkE b sc m && chkE c sc r && noSet r | _ => false
  | .and a b, sc, x => match x with | .BoolOp .And [l, m] _ => chkE a sc l && chkE b sc m && !isBor b | .BoolOp .And (l :: m :: n :: r) _ => chkE a sc l && chkA b sc (m :: n :: r) && !isBor b | _ => false
  | .or a b, sc, x => match x with | .BoolOp .Or [l, m] _ => chkE a sc l && chkE b sc m && !isBor b | .BoolOp .Or (l :: m :: n :: r) _ => chkE a sc l && chkR b sc (m :: n :: r) && !isBor b | _ => false
  | .not a, sc, x => match x with | .UnaryOp .Not l _ => chkE a sc l | _ => false
  | .ite t a b, sc, x => match x with | .IfExp l m r _ => chkE t sc l && chkE a sc m && chkE b sc r && !isBor a && !isBor b | _ => false
  | .ix a i, sc, x => match x with | .Subscript l m _ => chkE a sc l && chkE i sc m && noSlice m | _ => false
  | .sl a lo hi, sc, x => match x with | .Subscript l (.Slice u v none _) _ => chkE a sc l && (match u with | none => isNo lo | some e => chkE lo sc e) && (match v with | none => isNo hi | some e => chkE hi sc e) | _ => false
  | .rev a, sc, x => match x with | .Subscript l (.Slice none none (some (.UnaryOp .USub (.Constant (.int i) _ _) _)) _) _ => decide (i = 1) && chkE a sc l | _ => false
  | .tup l, sc, x => match x with | .Tuple xs _ _ => chkEs l sc xs && noBor l | _ => false
  | .lst l, sc, x => match x with | .List xs _ => chkEs l sc xs && noBor l | _ => false
  | .call f l q, sc, x => match x with
    | .Call (.Name y _) xs kws _ => (match P.fds[f]? with
      | some fd => decide (y = fd.name) && glB sc y && okN y && noBor l &&
        (match kws with
        | [] => chkEs l sc xs && decide (xs.length = fd.np) && decide (q = List.range fd.np)
        | _ => (match xs with | [] => true | _ => false) && chkK l sc kws && decide ((f, kws.filterMap (·.arg), q) ∈ P.kws) && decide ((kws.filterMap (·.arg)).length = fd.np) && decide ((permA q (List.range fd.np)).length = fd.np))
      | none => false)
    | _ => false
  | .bi f l, sc, x => match x with
    | .Call (.Name y _) (z :: zs) [] _ => decide (y = PySem.Str.ofString f) && glB sc y && decide (y ∈ P.blt) && okN y && (match biKind f, bootBuiltins y with | some a, some b => valEq a b | _, _ => false) && chkEs l sc (z :: zs)
    | _ => false
  | .mt m o l, sc, x => match x with
    | .Call (.Attribute w n ap) [y] [] pos => decide (m = "join") && decide (n = PySem.Str.ofString "join") && chkE o sc w && chkEs l sc [y] && (ap.endLine == pos.line) && plainBase w
    | _ => false
  | .isi _ _, _, _ => false
  | .cmpr e t it k, sc, x => match x with
    | .ListComp elt [⟨tg, iter, ifs, 0⟩] scope _ => chkI it sc (isTupE tg) iter && noSet iter && chkT N (relS scope sc) (fun x => scope.names.lookup x == some .cell) t tg &&
      (match ifs with | [] => isNo k | [c] => chkE k (relS scope sc) c | _ => false) && chkE e (relS scope sc) elt && !isBor e && blkC N sc scope ((tgIx t).map fun i => (N.getD i Str.empty, i)) && decide (tgIx t).Nodup
    | _ => false
  termination_by structural e => e
/-- an operand row of and, of or: two or more -/
def chkA : E → Scope → List Expr → Bool
  | .and a b, sc, xs => match xs with
    | [x, y] => chkE a sc x && chkE b sc y && !isBor b
    | x :: y :: z :: r => chkE a sc x && chkA b sc (y :: z :: r) && !isBor b
    | _ => false
  | _, _, _ => false
  termination_by structural e => e
def chkR : E → Scope → List Expr → Bool
  | .or a b, sc, xs => match xs with
    | [x, y] => chkE a sc x && chkE b sc y && !isBor b
    | x :: y :: z :: r => chkE a sc x && chkR b sc (y :: z :: r) && !isBor b
    | _ => false
  | _, _, _ => false
  termination_by structural e => e
def chkEs : Es → Scope → List Expr → Bool
  | .nil, _, xs => match xs with | [] => true | _ => false
  | .cons e l, sc, xs => match xs with | x :: r => chkE e sc x && chkEs l sc r | [] => false
  termination_by structural e => e
def chkK : Es → Scope → List Keyword → Bool
  | .nil, _, xs => match xs with | [] => true | _ => false
  | .cons e l, sc, xs => match xs with | ⟨some _, x, _⟩ :: r => chkE e sc x && chkK l sc r | _ => false
  termination_by structural e => e
def chkI : It → Scope → Bool → Expr → Bool
  | .val e, sc, _, x => chkE e sc x
  | .rng l, sc, _, x => match x with
    | .Call (.Name y _) xs [] _ => decide (y = ("range" : PySem.Str)) && glB sc y && decide (y ∈ P.blt) && chkEs l sc xs && decide (1 ≤ xs.length ∧ xs.length ≤ 3)
    | _ => false
  | .zip a b, sc, q, x => match x with
    | .Call (.Name y _) [u, v] [] _ => q && decide (y = ("zip" : PySem.Str)) && glB sc y && decide (y ∈ P.blt) && chkE a sc u && chkE b sc v
    | _ => false
  | .enu a, sc, q, x => match x with
    | .Call (.Name y _) [u] [] _ => q && decide (y = ("enumerate" : PySem.Str)) && glB sc y && decide (y ∈ P.blt) && chkE a sc u
    | _ => false
  termination_by structural e => e
end
end
end PV
set_option maxHeartbeats 2000000
namespace PV
open PySem PySem.Spec PyProof.Rows L2
theorem isNo_eq {e : E} (h : isNo e = true) : e = .no := by
  cases e <;> first | rfl | cases h
theorem nbor {e : E} (h : (!isBor e) = true) : isBor e = false := by simpa using h
section
variable {P : PInfo} {N : List PySem.Str}
mutual
theorem chkE_ok : ∀ (e : E) {sc : Scope} {x : Expr}, chkE P N e sc x = true → CkE P N sc e x
  | .no, sc, x, h => by unfold chkE at h; cases h
  | .loc i, sc, x, h => by
    unfold chkE at h
    split at h <;> first | (cases h; done) | skip
    simp only [Bool.and_eq_true, decide_eq_true_eq] at h
    exact .loc h.1.1 (visB_vis h.1.2) h.2
  | .bor i, sc, x, h => by
    unfold chkE at h
    split at h <;> first | (cases h; done) | skip
    simp only [Bool.and_eq_true, decide_eq_true_eq] at h
    exact .bor h.1.1 (visB_vis h.1.2) h.2
  | .con d, sc, x, h => by
    unfold chkE at h
    split at h <;> first | (cases h; done) | skip
    split at h <;> first | (cases h; done) | skip
    rename_i hd
    rw [flatEq_eq h] at hd
    exact .con hd
  | .glo y d, sc, x, h => by
    unfold chkE at h
    split at h <;> first | (cases h; done) | skip
    simp only [Bool.and_eq_true, decide_eq_true_eq] at h
    obtain ⟨⟨⟨rfl, h2⟩, h3⟩, h4⟩ := h
    exact .glo (glB_gl h2) (glbB_mem h3) h4
  | .bin o a b, sc, x, h => by
    unfold chkE at h
    split at h <;> first | (cases h; done) | skip
    simp only [Bool.and_eq_true] at h
    rw [opEq_eq h.1.1]
    exact .bin (chkE_ok a h.1.2) (chkE_ok b h.2)
  | .neg a, sc, x, h => by
    unfold chkE at h
    split at h <;> first | (cases h; done) | skip
    exact .neg (chkE_ok a h)
  | .cmp o a b, sc, x, h => by
    unfold chkE at h
    split at h <;> first | (cases h; done) | skip
    simp only [Bool.and_eq_true] at h
    rw [cpEq_eq h.1.1.1]
    exact .cmp (chkE_ok a h.1.1.2) (chkE_ok b h.1.2) h.2
  | .isN a, sc, x, h => by
    unfold chkE at h
    split at h <;> first | (cases h; done) | skip
    exact .isN (chkE_ok a h)
  | .notN a, sc, x, h => by
    unfold chkE at h
    split at h <;> first | (cases h; done) | skip
    exact .notN (chkE_ok a h)
  | .chn o p a b c, sc, x, h => by
    unfold chkE at h
    split at h <;> first | (cases h; done) | skip
    simp only [Bool.and_eq_true] at h
    obtain ⟨⟨⟨⟨⟨h1, h2⟩, h3⟩, h4⟩, h5⟩, h6⟩ := h
    rw [cpEq_eq h1, cpEq_eq h2]
    exact .chn (chkE_ok a h3) (chkE_ok b h4) (chkE_ok c h5) h6
  | .and a b, sc, x, h => by
    unfold chkE at h
    split at h <;> first | (cases h; done) | skip
    · simp only [Bool.and_eq_true] at h
      exact .and (chkE_ok a h.1.1) (.one (chkE_ok b h.1.2)) (nbor h.2)
    · simp only [Bool.and_eq_true] at h
      exact .and (chkE_ok a h.1.1) (chkA_ok b h.1.2) (nbor h.2)
  | .or a b, sc, x, h => by
    unfold chkE at h
    split at h <;> first | (cases h; done) | skip
    · simp only [Bool.and_eq_true] at h
      exact .or (chkE_ok a h.1.1) (.one (chkE_ok b h.1.2)) (nbor h.2)
    · simp only [Bool.and_eq_true] at h
      exact .or (chkE_ok a h.1.1) (chkR_ok b h.1.2) (nbor h.2)
  | .not a, sc, x, h => by
    unfold chkE at h
    split at h <;> first | (cases h; done) | skip
    exact .not (chkE_ok a h)
  | .ite t a b, sc, x, h => by
    unfold chkE at h
    split at h <;> first | (cases h; done) | skip
    simp only [Bool.and_eq_true] at h
    exact .ite (chkE_ok t h.1.1.1.1) (chkE_ok a h.1.1.1.2) (chkE_ok b h.1.1.2) (nbor h.1.2) (nbor h.2)
  | .ix a i, sc, x, h => by
    unfold chkE at h
    split at h <;> first | (cases h; done) | skip
    simp only [Bool.and_eq_true] at h
    exact .ix (chkE_ok a h.1.1) (chkE_ok i h.1.2) h.2
  | .sl a lo hi, sc, x, h => by
    unfold chkE at h
    split at h <;> first | (cases h; done) | skip
    simp only [Bool.and_eq_true] at h
    refine .sl (chkE_ok a h.1.1) ?_ ?_
    · have h2 := h.1.2
      split at h2
      · rw [isNo_eq h2]; exact .no
      · exact .some (chkE_ok lo h2)
    · have h2 := h.2
      split at h2
      · rw [isNo_eq h2]; exact .no
      · exact .some (chkE_ok hi h2)
  | .rev a, sc, x, h => by
    unfold chkE at h
    split at h <;> first | (cases h; done) | skip
    simp only [Bool.and_eq_true, decide_eq_true_eq] at h
    obtain ⟨rfl, h2⟩ := h
    exact .rev (chkE_ok a h2)
  | .tup l, sc, x, h => by
    unfold chkE at h
    split at h <;> first | (cases h; done) | skip
    simp only [Bool.and_eq_true] at h
    exact .tup (chkEs_ok l h.1) h.2
  | .lst l, sc, x, h => by
    unfold chkE at h
    split at h <;> first | (cases h; done) | skip
    simp only [Bool.and_eq_true] at h
    exact .lst (chkEs_ok l h.1) h.2
  | .call f l q, sc, x, h => by
    unfold chkE at h
    split at h <;> first | (cases h; done) | skip
    rename_i y p xs kws pos
    split at h <;> first | (cases h; done) | skip
    rename_i fd hfd
    simp only [Bool.and_eq_true, decide_eq_true_eq] at h
    obtain ⟨⟨⟨⟨rfl, h2⟩, h3⟩, h4⟩, h5⟩ := h
    split at h5
    · simp only [Bool.and_eq_true, decide_eq_true_eq] at h5
      obtain ⟨⟨h6, h7⟩, rfl⟩ := h5
      cases xs with
      | nil =>
        have h8 : fd.np = 0 := h7.symm
        rw [h8]
        cases l with
        | nil => exact .call0 hfd (glB_gl h2) h3 h8
        | cons e l => unfold chkEs at h6; cases h6
      | cons z zs => exact .call hfd (glB_gl h2) h3 (chkEs_ok l h6) h4 h7
    · simp only [Bool.and_eq_true, decide_eq_true_eq] at h5
      obtain ⟨⟨⟨⟨h6, h7⟩, h8⟩, h9⟩, h10⟩ := h5
      cases xs with
      | nil => exact .callk hfd (glB_gl h2) h3 (chkK_ok l h7) h4 h8 h9 h10
      | cons z zs => cases h6
  | .bi f l, sc, x, h => by
    unfold chkE at h
    split at h <;> first | (cases h; done) | skip
    simp only [Bool.and_eq_true, decide_eq_true_eq] at h
    obtain ⟨⟨⟨⟨⟨rfl, h2⟩, h3⟩, h4⟩, h5⟩, h6⟩ := h
    split at h5 <;> first | (cases h5; done) | skip
    rename_i a b ha hb
    rw [← valEq_eq h5] at hb
    exact .bi rfl (glB_gl h2) h3 h4 ha hb (chkEs_ok l h6)
  | .mt m o l, sc, x, h => by
    unfold chkE at h
    split at h <;> first | (cases h; done) | skip
    simp only [Bool.and_eq_true, decide_eq_true_eq] at h
    obtain ⟨⟨⟨⟨⟨rfl, rfl⟩, h3⟩, h4⟩, h5⟩, h6⟩ := h
    have h7 := chkEs_ok l h4
    cases h7 with
    | cons a t =>
      cases t
      exact .join (chkE_ok o h3) a h5 h6
  | .isi _ _, sc, x, h => by unfold chkE at h; cases h
  | .cmpr e t it k, sc, x, h => by
    unfold chkE at h
    split at h <;> first | (cases h; done) | skip
    simp only [Bool.and_eq_true, decide_eq_true_eq] at h
    obtain ⟨⟨⟨⟨⟨⟨⟨h1, h2⟩, h3⟩, h4⟩, h5⟩, h6⟩, h7⟩, h8⟩ := h
    refine .cmpr (chkI_ok it h1) h2 (chkT_ok h3) ?_ (chkE_ok e h5) (nbor h6) h7 h8
    split at h4 <;> first | (cases h4; done) | skip
    · rw [isNo_eq h4]; exact .no
    · exact .one (chkE_ok k h4)
theorem chkA_ok : ∀ (e : E) {sc : Scope} {xs : List Expr}, chkA P N e sc xs = true → CkB P N sc .And e xs
  | .and a b, sc, xs, h => by
    unfold chkA at h
    split at h <;> first | (cases h; done) | skip
    · simp only [Bool.and_eq_true] at h
      exact .and (chkE_ok a h.1.1) (.one (chkE_ok b h.1.2)) (nbor h.2)
    · simp only [Bool.and_eq_true] at h
      exact .and (chkE_ok a h.1.1) (chkA_ok b h.1.2) (nbor h.2)
  | .no, _, _, h | .loc _, _, _, h | .bor _, _, _, h | .con _, _, _, h | .glo _ _, _, _, h | .bin _ _ _, _, _, h | .neg _, _, _, h | .cmp _ _ _, _, _, h | .isN _, _, _, h | .notN _, _, _, h | .chn _ _ _ _ _, _, _, h | .or _ _, _, _, h | .not _, _, _, h
  | .ite _ _ _, _, _, h | .ix _ _, _, _, h | .sl _ _ _, _, _, h | .rev _, _, _, h | .tup _, _, _, h | .lst _, _, _, h | .call _ _ _, _, _, h | .bi _ _, _, _, h | .mt _ _ _, _, _, h | .isi _ _, _, _, h | .cmpr _ _ _ _, _, _, h => by cases h
theorem chkR_ok : ∀ (e : E) {sc : Scope} {xs : List Expr}, chkR P N e sc xs = true → CkB P N sc .Or e xs
  | .or a b, sc, xs, h => by
    unfold chkR at h
    split at h <;> first | (cases h; done) | skip
    · simp only [Bool.and_eq_true] at h
      exact .or (chkE_ok a h.1.1) (.one (chkE_ok b h.1.2)) (nbor h.2)
    · simp only [Bool.and_eq_true] at h
      exact .or (chkE_ok a h.1.1) (chkR_ok b h.1.2) (nbor h.2)
  | .no, _, _, h | .loc _, _, _, h | .bor _, _, _, h | .con _, _, _, h | .glo _ _, _, _, h | .bin _ _ _, _, _, h | .neg _, _, _, h | .cmp _ _ _, _, _, h | .isN _, _, _, h | .notN _, _, _, h | .chn _ _ _ _ _, _, _, h | .and _ _, _, _, h | .not _, _, _, h
  | .ite _ _ _, _, _, h | .ix _ _, _, _, h | .sl _ _ _, _, _, h | .rev _, _, _, h | .tup _, _, _, h | .lst _, _, _, h | .call _ _ _, _, _, h | .bi _ _, _, _, h | .mt _ _ _, _, _, h | .isi _ _, _, _, h | .cmpr _ _ _ _, _, _, h => by cases h
theorem chkEs_ok : ∀ (l : Es) {sc : Scope} {xs : List Expr}, chkEs P N l sc xs = true → CkEs P N sc l xs
  | .nil, sc, xs, h => by
    unfold chkEs at h
    split at h <;> first | (cases h; done) | skip
    exact .nil
  | .cons e l, sc, xs, h => by
    unfold chkEs at h
    split at h <;> first | (cases h; done) | skip
    simp only [Bool.and_eq_true] at h
    exact .cons (chkE_ok e h.1) (chkEs_ok l h.2)
theorem chkK_ok : ∀ (l : Es) {sc : Scope} {xs : List Keyword}, chkK P N l sc xs = true → CkK P N sc l xs (xs.filterMap (·.arg))
  | .nil, sc, xs, h => by
    unfold chkK at h
    split at h <;> first | (cases h; done) | skip
    exact .nil
  | .cons e l, sc, xs, h => by
    unfold chkK at h
    split at h <;> first | (cases h; done) | skip
    simp only [Bool.and_eq_true] at h
    exact .cons (chkE_ok e h.1) (chkK_ok l h.2)
theorem chkI_ok : ∀ (it : PV.It) {sc : Scope} {q : Bool} {x : Expr}, chkI P N it sc q x = true → CkI P N sc q it x
  | .val e, sc, q, x, h => by
    unfold chkI at h
    exact .val (chkE_ok e h)
  | .rng l, sc, q, x, h => by
    unfold chkI at h
    split at h <;> first | (cases h; done) | skip
    simp only [Bool.and_eq_true, decide_eq_true_eq] at h
    obtain ⟨⟨⟨⟨rfl, h2⟩, h3⟩, h4⟩, h5, h6⟩ := h
    have h7 := chkEs_ok l h4
    cases h7 with
    | nil => exact absurd h5 (by simp)
    | cons a t =>
      cases t with
      | nil => exact .rng1 (glB_gl h2) h3 a
      | cons b t =>
        cases t with
        | nil => exact .rng2 (glB_gl h2) h3 a b
        | cons d t =>
          cases t with
          | nil => exact .rng3 (glB_gl h2) h3 a b d
          | cons _ t => exact absurd h6 (by simp)
  | .zip a b, sc, q, x, h => by
    unfold chkI at h
    split at h <;> first | (cases h; done) | skip
    simp only [Bool.and_eq_true, decide_eq_true_eq] at h
    obtain ⟨⟨⟨⟨⟨rfl, rfl⟩, h2⟩, h3⟩, h4⟩, h5⟩ := h
    exact .zip (glB_gl h2) h3 (chkE_ok a h4) (chkE_ok b h5)
  | .enu a, sc, q, x, h => by
    unfold chkI at h
    split at h <;> first | (cases h; done) | skip
    simp only [Bool.and_eq_true, decide_eq_true_eq] at h
    obtain ⟨⟨⟨⟨rfl, rfl⟩, h2⟩, h3⟩, h4⟩ := h
    exact .enu (glB_gl h2) h3 (chkE_ok a h4)
end
end
end PV
set_option maxHeartbeats 2000000
namespace PV
open PySem PySem.Spec PyProof.Rows L2
section
variable (P : PInfo) (N : List PySem.Str) (sc : Scope)
def chkW (e : E) (x : Expr) : Bool :=
  match e, x with
  | .lst l, .List xs _ => chkEs P N l sc xs && noBor l
  | .cmpr _ _ _ _, .ListComp _ _ _ _ => chkE P N e sc x
  | _, _ => false
theorem chkW_ok {e : E} {x : Expr} (h : chkW P N sc e x = true) : CkW P N sc e x := by
  unfold chkW at h
  split at h
  · simp only [Bool.and_eq_true] at h
    exact .lst (chkEs_ok _ h.1) h.2
  · exact .cmpr (chkE_ok _ h)
  · cases h
def chkV (o : Bool) (e : E) (x : Expr) : Bool := if o = true then chkW P N sc e x else chkE P N e sc x && !isBor e
theorem chkV_ok {o : Bool} {e : E} {x : Expr} (h : chkV P N sc o e x = true) : CkV P N sc o e x := by
  unfold chkV at h
  unfold CkV
  cases o with
  | true => rw [if_pos rfl] at h ⊢; exact chkW_ok P N sc h
  | false =>
    rw [if_neg Bool.false_ne_true] at h ⊢
    simp only [Bool.and_eq_true] at h
    exact ⟨chkE_ok _ h.1, nbor h.2⟩
def isLC : Expr → Bool
  | .ListComp .. => true
  | _ => false
def isTgV : Tg → Bool
  | .v _ => true
  | _ => false
mutual
def chkS : C → Stmt → Bool
  | .pas, s => match s with | .Pass _ => true | _ => false
  | .brk, s => match s with | .Break _ => true | _ => false
  | .set t e, s => match s with
    | .Assign [tg] x _ =>
      if swB sc x tg = true then (match t, e, x, tg with
        | .v i, .cmpr _ _ _ _, .ListComp _ _ _ _, .Name y _ => decide (N[i]? = some y) && decide (sc.names.lookup y = some .local) && chkE P N e sc x
        | _, _, _, _ => false)
      else chkE P N e sc x && !isBor e && chkT N sc anyN t tg && okLC x && stN sc tg x
    | _ => false
  | .own i e, s => match s with
    | .Assign [.Name y py] x _ =>
      if swB sc x (.Name y py) = true then (match e, x with
        | .cmpr _ _ _ _, .ListComp _ _ _ _ => decide (N[i]? = some y) && decide (sc.names.lookup y = some .local) && chkE P N e sc x
        | _, _ => false)
      else chkW P N sc e x && decide (N[i]? = some y) && locB sc y && okLC x
    | _ => false
  | .par i oi j oj a b, s => match s with
    | .Assign [.Tuple [.Name x px, .Name y py] _ _] (.Tuple [xa, xb] _ _) _ => decide (N[i]? = some x) && decide (N[j]? = some y) && decide (i ≠ j) && chkV P N sc oi a xa && chkV P N sc oj b xb &&
      (match swp sc [.Name x px, .Name y py] [xa, xb] with
        | some none => locB sc x && locB sc y
        | some (some l) => decide (l = [x, y]) && decide (sc.names.lookup x = some .local) && decide (sc.names.lookup y = some .local)
        | none => false)
    | _ => false
  | .aug _ _ _, _ => false
  | .ife t a b, s => match s with | .If x as bs _ => chkE P N t sc x && chkSs a as && chkSs b bs | _ => false
  | .for t it b, s => match s with | .For tg iter bs [] _ => chkI P N it sc (isTupE tg) iter && itNB it && noSet iter && chkT N sc anyN t tg && chkSs b bs | _ => false
  | .whl t b, s => match s with | .While x bs [] _ => chkE P N t sc x && chkSs b bs | _ => false
  | .ret e, s => match s with | .Return (some x) _ => chkE P N e sc x && !isBor e | _ => false
  | .frz _ s, st => chkS s st
  | .exp e, s => match s with | .Expr x _ => chkE P N e sc x && okLC x && notLC x | _ => false
  | .app i e, s => match s with
    | .Expr (.Call (.Attribute (.Name y _) m ap) [x] [] pos) _ => decide (m = ("append" : PySem.Str)) && decide (N[i]? = some y) && visB sc y && okN y && chkE P N e sc x && !isBor e && (ap.endLine == pos.line)
    | _ => false
  | .ext i e, s => match s with
    | .Expr (.Call (.Attribute (.Name y _) m ap) [x] [] pos) _ => decide (m = ("extend" : PySem.Str)) && decide (N[i]? = some y) && visB sc y && okN y && chkE P N e sc x && !isBor e && (ap.endLine == pos.line)
    | _ => false
  | .mkr _ _ _, _ => false
  termination_by structural c => c
def chkSs : Cs → List Stmt → Bool
  | .nil, ss => match ss with | [] => true | _ => false
  | .cons s l, ss => match ss with | st :: r => chkS s st && chkSs l r | [] => false
  termination_by structural c => c
end
/-- the text's first row may be a docstring -/
def skipDoc : List Stmt → List Stmt
  | .Expr (.Constant (.str _) _ _) _ :: r => r
  | l => l
end
section
variable {P : PInfo} {N : List PySem.Str} {sc : Scope}
mutual
theorem chkS_ok : ∀ (c : C) {s : Stmt}, chkS P N sc c s = true → CkS P N sc c s
  | .pas, s, h => by
    unfold chkS at h
    split at h <;> first | (cases h; done) | skip
    exact .pas
  | .brk, s, h => by
    unfold chkS at h
    split at h <;> first | (cases h; done) | skip
    exact .brk
  | .set t e, s, h => by
    unfold chkS at h
    split at h <;> first | (cases h; done) | skip
    split at h
    · rename_i hsw
      split at h <;> first | (cases h; done) | skip
      simp only [Bool.and_eq_true, decide_eq_true_eq] at h
      exact .setL h.1.1 h.1.2 hsw (chkE_ok _ h.2)
    · rename_i hsw
      simp only [Bool.and_eq_true] at h
      exact .set (chkE_ok _ h.1.1.1.1) (nbor h.1.1.1.2) (chkT_ok h.1.1.2) h.1.2 (by simpa using hsw) h.2
  | .own i e, s, h => by
    unfold chkS at h
    split at h <;> first | (cases h; done) | skip
    split at h
    · rename_i hsw
      split at h <;> first | (cases h; done) | skip
      simp only [Bool.and_eq_true, decide_eq_true_eq] at h
      exact .ownL h.1.1 h.1.2 hsw (chkE_ok _ h.2)
    · rename_i hsw
      simp only [Bool.and_eq_true, decide_eq_true_eq] at h
      exact .own (chkW_ok P N sc h.1.1.1) h.1.1.2 (locB_loc h.1.2) h.2 (by simpa using hsw)
  | .par i oi j oj a b, s, h => by
    unfold chkS at h
    split at h <;> first | (cases h; done) | skip
    simp only [Bool.and_eq_true, decide_eq_true_eq] at h
    obtain ⟨⟨⟨⟨⟨h1, h2⟩, h3⟩, h4⟩, h5⟩, h6⟩ := h
    split at h6
    · rename_i hs
      simp only [Bool.and_eq_true] at h6
      exact .parT h1 h2 h3 (locB_loc h6.1) (locB_loc h6.2) (chkV_ok P N sc h4) (chkV_ok P N sc h5) hs
    · rename_i l hs
      simp only [Bool.and_eq_true, decide_eq_true_eq] at h6
      obtain ⟨⟨rfl, h7⟩, h8⟩ := h6
      exact .par h1 h2 h3 h7 h8 (chkV_ok P N sc h4) (chkV_ok P N sc h5) hs
    · cases h6
  | .aug _ _ _, s, h => by unfold chkS at h; cases h
  | .mkr _ _ _, s, h => by unfold chkS at h; cases h
  | .ife t a b, s, h => by
    unfold chkS at h
    split at h <;> first | (cases h; done) | skip
    simp only [Bool.and_eq_true] at h
    exact .ife (chkE_ok _ h.1.1) (chkSs_ok a h.1.2) (chkSs_ok b h.2)
  | .for t it b, s, h => by
    unfold chkS at h
    split at h <;> first | (cases h; done) | skip
    simp only [Bool.and_eq_true] at h
    exact .for (chkI_ok _ h.1.1.1.1) h.1.1.1.2 h.1.1.2 (chkT_ok h.1.2) (chkSs_ok b h.2)
  | .whl t b, s, h => by
    unfold chkS at h
    split at h <;> first | (cases h; done) | skip
    simp only [Bool.and_eq_true] at h
    exact .whl (chkE_ok _ h.1) (chkSs_ok b h.2)
  | .ret e, s, h => by
    unfold chkS at h
    split at h <;> first | (cases h; done) | skip
    simp only [Bool.and_eq_true] at h
    exact .ret (chkE_ok _ h.1) (nbor h.2)
  | .frz i c, s, h => by
    unfold chkS at h
    exact .frz (chkS_ok c h)
  | .exp e, s, h => by
    unfold chkS at h
    split at h <;> first | (cases h; done) | skip
    simp only [Bool.and_eq_true] at h
    exact .exp (chkE_ok _ h.1.1) h.1.2 h.2
  | .app i e, s, h => by
    unfold chkS at h
    split at h <;> first | (cases h; done) | skip
    simp only [Bool.and_eq_true, decide_eq_true_eq] at h
    obtain ⟨⟨⟨⟨⟨⟨rfl, h2⟩, h3⟩, h4⟩, h5⟩, h6⟩, h7⟩ := h
    exact .app h2 (visB_vis h3) h4 (chkE_ok _ h5) (nbor h6) h7
  | .ext i e, s, h => by
    unfold chkS at h
    split at h <;> first | (cases h; done) | skip
    simp only [Bool.and_eq_true, decide_eq_true_eq] at h
    obtain ⟨⟨⟨⟨⟨⟨rfl, h2⟩, h3⟩, h4⟩, h5⟩, h6⟩, h7⟩ := h
    exact .ext h2 (visB_vis h3) h4 (chkE_ok _ h5) (nbor h6) h7
theorem chkSs_ok : ∀ (c : Cs) {s : List Stmt}, chkSs P N sc c s = true → CkSs P N sc c s
  | .nil, s, h => by
    unfold chkSs at h
    split at h <;> first | (cases h; done) | skip
    exact .nil
  | .cons s l, ss, h => by
    unfold chkSs at h
    split at h <;> first | (cases h; done) | skip
    simp only [Bool.and_eq_true] at h
    exact .cons (chkS_ok s h.1) (chkSs_ok l h.2)
end
/-- the row that makes the random numbers -/
theorem mkr_ok {i j : Nat} {f : List Int → Rl} {n : PySem.Str} {s : Stmt} {l : Cs} {r : List Stmt} (hm : P.mkr = some (n, f))
    (h : (match s with
      | .Assign [.Name y _] (.Call (.Name m _) [.Name z _] [] _) _ => decide (m = n) && glB sc n && okN n && decide (N[i]? = some y) && locB sc y && decide (N[j]? = some z) && visB sc z && okN z
      | _ => false) = true) (hl : chkSs P N sc l r = true) : CkSs P N sc (.cons (.mkr i j f) l) (s :: r) := by
  split at h <;> first | (cases h; done) | skip
  simp only [Bool.and_eq_true, decide_eq_true_eq] at h
  obtain ⟨⟨⟨⟨⟨⟨⟨rfl, h2⟩, h3⟩, h4⟩, h5⟩, h6⟩, h7⟩, h8⟩ := h
  exact .cons (.mkr hm (glB_gl h2) h3 h4 (locB_loc h5) h6 (visB_vis h7) h8) (chkSs_ok l hl)
end
end PV
set_option maxHeartbeats 2000000
namespace PV
open PySem PySem.Spec PyProof.Rows L2
/-! ### the random numbers: what the two defs compute -/
def nmR : RN := ("far", "flow", "turn")
def cellOf (i : Int) : Int := 2 * (if i < 0 then -i else i) + (if i < 0 then 1 else 0)
def flowOf (flow : Int) : List Int → Int
  | [] => flow
  | x :: r => flowOf ((flow * 48271 + x + 11) % 4294967291) r
def rillOf (ns : List Int) : Rl := ⟨((ns.take 63).map cellOf).filter fun x => decide (10 ^ 15 ≤ x), flowOf (1625742 + (ns.length : Int)) ((ns.take 63).map cellOf), 0⟩
def mixOf (flow turn : Int) : Int := (((flow * 69621 + turn * turn * 7 + 104729 * turn) % 4294967279) * 48271 + ((flow * 69621 + turn * turn * 7 + 104729 * turn) % 4294967279) / 65536) % 4294967291
def drawR (r : Rl) (many : Int) : Option (Int × Rl) :=
  if 0 < many ∧ many < 1073741824 then
    match r.far with
    | x :: xs => if r.far.length ≤ 1000000 then some (x % many, ⟨if many ≤ x then x / many :: xs else xs, r.flow, r.turn⟩) else none
    | [] => if 0 ≤ r.turn ∧ r.turn < 2 ^ 63 then some (mixOf r.flow (r.turn + 1) / 1024 % many, ⟨[], mixOf r.flow (r.turn + 1), r.turn + 1⟩) else none
  else none
def drawN : List Arg → G → Option (D × G)
  | [.rill, .d (.int many)], some r => (drawR r many).map fun (v, r) => (.int v, some r)
  | _, _ => none
theorem drawN_inv {as : List Arg} {g g' : G} {d : D} (h : drawN as g = some (d, g')) : ∃ many r v r', as = [.rill, .d (.int many)] ∧ g = some r ∧ drawR r many = some (v, r') ∧ d = .int v ∧ g' = some r' := by
  unfold drawN at h
  split at h
  · obtain ⟨⟨v, r'⟩, h1, h⟩ := Option.map_eq_some_iff.mp h
    cases h
    exact ⟨_, _, v, r', rfl, rfl, h1, rfl, rfl⟩
  · cases h
theorem args2 {K : PySem.W.Frag} {F H : Hp} {R : RA} {many : Int} {vs : List V} (h : ArgsOk K F H R [.rill, .d (.int many)] vs) : ∃ p, R = some p ∧ vs = [.ref p.1, .int many] := by
  cases vs with
  | nil => exact h.elim
  | cons v vs =>
    obtain ⟨⟨p, h1, rfl⟩, h⟩ := h
    cases vs with
    | nil => exact h.elim
    | cons u vs =>
      obtain ⟨h2, h⟩ := h
      cases vs with
      | nil => exact ⟨p, h1, by rw [Rp.int_inv h2]⟩
      | cons _ _ => exact h.elim
theorem dpInts {K : PySem.W.Frag} {H : Hp} : ∀ l : List Int, DpAll K H (l.map V.int) (l.map PyData.int)
  | [] => .nil
  | i :: l => .cons (.int i) (dpInts l)
/-- only the random numbers' objects are changed -/
theorem ext_rill {F H H' : Hp} {p : Addr × Addr} (sF : SubF F H) (rf : ∀ a, inR (some p) a → F a = none) (k : ∀ a, ¬ inR (some p) a → ∀ o, H a = some o → H' a = some o) : Ext F H (some p) F H' (some p) where
  fz := LeF.refl F
  keep := fun a o h n => k a n o h
  new := fun a o h => .inl h
  sub := fun a o h => by
    have n : ¬ inR (some p) a := fun i => by rw [rf a i] at h; cases h
    rcases sF a o h with z | ⟨z1, ob, z2⟩
    · exact .inl (k a n _ z)
    · exact .inr ⟨z1, ob, k a n _ z2⟩
  rr := .inr rfl
  rn := fun a h => .inl h
  rf := rf
theorem inR1 {p : Addr × Addr} : inR (some p) p.1 := ⟨p, rfl, .inl rfl⟩
theorem inR2 {p : Addr × Addr} : inR (some p) p.2 := ⟨p, rfl, .inr rfl⟩
theorem rill_ne {nm : RN} {p : Addr × Addr} {r : Rl} {H : Hp} (h : RillAt nm (some p) (some r) H) : p.1 ≠ p.2 := fun e => by
  have h1 := h.1
  have h2 := h.2
  rw [e] at h1
  rw [h1] at h2
  cases h2
theorem shaped_ints (l : List Int) : SeqAt.shaped (.list (l.map PyData.int)) = true := by
  have h1 : PyData.canLayAll0 (l.map PyData.int) = true := by
    induction l with
    | nil => rfl
    | cons a l ih =>
      rw [List.map_cons]
      unfold PyData.canLayAll0
      rw [ih]
      rfl
  have h2 : PyData.depthAll (l.map PyData.int) = 0 := by
    clear h1
    induction l with
    | nil => rfl
    | cons a l ih =>
      rw [List.map_cons]
      unfold PyData.depthAll
      rw [ih]
      rfl
  unfold SeqAt.shaped PyData.canLay0 PyData.depth
  rw [h1, h2]
  rfl
theorem eqv_nil (l : List Int) : PyData.eqv (.list (l.map PyData.int)) (.list []) = l.isEmpty := by
  cases l with
  | nil => rfl
  | cons a l => rfl
abbrev rcells (x y z : V) : List (Key × V) := [((.inr nmR.1 : Key), x), (.inr nmR.2.1, y), (.inr nmR.2.2, z)]
theorem rv1 {x y z : V} : valV (rcells x y z) (.inr ("far" : PySem.Str)) = some x := valV_pos rfl
theorem kf_ne : ¬ ((.inr nmR.1 : Key) = .inr ("flow" : PySem.Str)) := by decide
theorem kf_nt : ¬ ((.inr nmR.1 : Key) = .inr ("turn" : PySem.Str)) := by decide
theorem ko_nt : ¬ ((.inr nmR.2.1 : Key) = .inr ("turn" : PySem.Str)) := by decide
theorem kt_nf : ¬ ((.inr nmR.2.2 : Key) = .inr ("flow" : PySem.Str)) := by decide
theorem rv2 {x y z : V} : valV (rcells x y z) (.inr ("flow" : PySem.Str)) = some y := (valV_neg kf_ne).trans (valV_pos rfl)
theorem rv3 {x y z : V} : valV (rcells x y z) (.inr ("turn" : PySem.Str)) = some z := (valV_neg kf_nt).trans ((valV_neg ko_nt).trans (valV_pos rfl))
theorem pk2 {x y z u : V} : putK (rcells x y z) (.inr ("flow" : PySem.Str)) u = rcells x u z := by
  unfold putK
  rw [if_pos (by simp [rcells, nmR])]
  show [_, _, _] = _
  dsimp only
  rw [if_neg kf_ne, if_pos (show (Sum.inr nmR.2.1 : Key) = .inr ("flow" : PySem.Str) from rfl), if_neg kt_nf]
theorem pk3 {x y z u : V} : putK (rcells x y z) (.inr ("turn" : PySem.Str)) u = rcells x y u := by
  unfold putK
  rw [if_pos (by simp [rcells, nmR])]
  show [_, _, _] = _
  dsimp only
  rw [if_neg kf_nt, if_neg ko_nt, if_pos (show (Sum.inr nmR.2.2 : Key) = .inr ("turn" : PySem.Str) from rfl)]
theorem seqI0 {n : Nat} (h : 0 < n) : seqIndex? 0 n = some 0 := by
  unfold seqIndex?
  simp
  omega
theorem three (x y z : V) : (rcells x y z).length < sizeLine := by show 3 < sizeLine; decide
theorem lt0 {j : Int} (h : 0 < j) : 0 < j := h
theorem cdiv {i j : Int} (h : 0 < j ∧ j < 1073741824) : CDiv i j := h
end PV
namespace PV
open PySem PySem.Spec PyProof.Rows L2
/-- a comprehension over a list of numbers -/
theorem lcI {K : PySem.W.Frag} {a : Addr} {ns : List Int} {f : Int → Option Int} {tt : TT} {te : TE} {σ : L2.St} {H1 : Hp} {D : Addr} {Qd : Hp → Prop} {j : Nat} (hD : H1 D = none) (hs : SqL K H1 a (ns.map V.int)) (hz : ns.length ≤ 1000)
    (hst : ∀ (n : Int) (Hc : Hp) (W : Option V → Hp → Prop), W ((f n).map V.int) Hc → tt ((wipe σ [j]).set j (some (.int n))) Hc fun b H3 => if b = true then te ((wipe σ [j]).set j (some (.int n))) H3 fun y H4 => W (some y) H4 else W none H3)
    (hd : Qd (upd H1 D (.lst ((ns.filterMap f).map V.int)))) :
    ∃ W : Nat → Nat → Hp → Prop, (∃ m, W 0 m (upd H1 D (.lst []))) ∧ ∀ i m H, W i m H →
      ((Itl K a).stop i H ∧ Qd H) ∨ ((Itl K a).go i H ∧ ∃ Nx : Hp → Prop, (∀ H', Nx H' → ∃ m', m' < m ∧ W (i + 1) m' H') ∧ ∀ x H', (Itl K a).yld i H x H' → gName j x (wipe σ [j]) H' fun σ2 H2 => wipe σ2 [j] = wipe σ [j] ∧ tt σ2 H2 fun b H3 =>
        if b = true then te σ2 H3 fun y H4 => ∃ acc, H4 D = some (.lst acc) ∧ acc.length < sizeLine ∧ Nx (upd H4 D (.lst (acc ++ [y]))) else Nx H3) := by
  have hl : (ns.map V.int).length = ns.length := List.length_map ..
  refine lc_it (walk_list (xs := ns.map V.int)) (fun i Hc => Hc = upd H1 D (.lst (((ns.take i).filterMap f).map V.int))) rfl (fun i Hc _ e => ?_) (fun i x Hc Hc2 hi e y => ?_) fun Hc e => ?_
  · subst e
    rcases hs with hs | hs
    · have na : a ≠ D := fun q => by
        subst q
        rcases hs with z | ⟨o, z⟩ <;> (rw [hD] at z; cases z)
      refine .inl ?_
      rcases hs with z | ⟨o, z⟩
      · exact .inl (by rw [upd_ne na]; exact z)
      · exact .inr ⟨o, by rw [upd_ne na]; exact z⟩
    · exact .inr hs
  · obtain ⟨rfl, hx⟩ := y
    subst e
    rw [hl] at hi
    rw [List.getElem?_map, List.getElem?_eq_getElem hi] at hx
    cases hx
    refine ⟨(Off.wipe ⟨by simp, fun k n => ?_⟩), ?_⟩
    · rw [List.getElem?_set_ne]
      exact fun q => n (by rw [q]; exact List.mem_cons_self ..)
    · have e1 : (ns.take (i + 1)).filterMap f = (ns.take i).filterMap f ++ (f ns[i]).toList := by
        rw [List.take_succ_eq_append_getElem hi, List.filterMap_append]
        rw [List.filterMap_cons]
        cases f ns[i] <;> rfl
      have lt : ((ns.take i).filterMap f).length < sizeLine := by
        have h1 := List.length_filterMap_le f (ns.take i)
        have h2 := List.length_take_le i ns
        have := line24
        omega
      refine hst ns[i] _ (fun o Hc => match o with
        | some y => ∃ acc, Hc D = some (.lst acc) ∧ acc.length < sizeLine ∧ upd Hc D (.lst (acc ++ [y])) = upd H1 D (.lst (((ns.take (i + 1)).filterMap f).map V.int))
        | none => Hc = upd H1 D (.lst (((ns.take (i + 1)).filterMap f).map V.int))) ?_
      rw [e1]
      cases hf : f ns[i] with
      | none =>
        show upd H1 D _ = upd H1 D _
        simp
      | some z =>
        refine ⟨_, upd_same, by rw [List.length_map]; exact lt, ?_⟩
        rw [upd_upd, List.map_append]
        rfl
  · subst e
    rw [hl, List.take_length]
    exact hd
theorem cut63 (ns : List Int) : cutV (ns.map V.int) none (some 63) = (ns.take 63).map V.int := by
  unfold cutV
  rw [show HT.sIx (ns.map V.int).length (ns.map V.int).length (some 63) = min 63 (ns.map V.int).length from HT.sIx_nat _ _ 63, HT.sIx_none, List.drop_zero, Nat.sub_zero, List.map_take]
  rw [List.take_eq_take_iff]
  omega
theorem flowOf_snoc (x : Int) : ∀ (l : List Int) (f : Int), flowOf f (l ++ [x]) = (flowOf f l * 48271 + x + 11) % 4294967291
  | [], f => rfl
  | y :: l, f => by
    show flowOf _ (l ++ [x]) = _
    rw [flowOf_snoc x l]
    rfl
/-- new objects, two of them the random numbers' -/
theorem ext_make {F H H' : Hp} {p b : Addr} (sF : SubF F H) (hp : H p = none) (hb : H b = none) (k : ∀ a o, H a = some o → H' a = some o) : Ext F H none F H' (some (p, b)) where
  fz := LeF.refl F
  keep := fun a o h _ => k a o h
  new := fun a o h => .inl h
  sub := fun a o h => by
    rcases sF a o h with z | ⟨z1, ob, z2⟩
    · exact .inl (k a _ z)
    · exact .inr ⟨z1, ob, k a _ z2⟩
  rr := .inl rfl
  rn := fun a h => by
    obtain ⟨q, e, z⟩ := h
    cases e
    rcases z with z | z
    · rw [z]; exact .inr hp
    · rw [z]; exact .inr hb
  rf := fun a h => by
    obtain ⟨q, e, z⟩ := h
    cases e
    cases w : F a with
    | none => rfl
    | some o =>
      have : H a = none := by
        rcases z with z | z
        · rw [z]; exact hp
        · rw [z]; exact hb
      rcases sF a o w with y | ⟨_, _, y⟩ <;> (rw [this] at y; cases y)
end PV
set_option maxHeartbeats 2000000
namespace PV
open PySem PySem.Spec PyProof.Rows L2
/-! ### the facts of each def -/
def FdOk (P : PInfo) (nat : Nv) (b : Nat) (pr : Program) (w : World) (K : PySem.W.Frag) (mg : PySem.Str → Option Value) (base : Heap) (i : Nat) (fd : Fd) : Prop :=
  ∃ f fdt, mg fd.name = some (.ref f) ∧ PySem.W.keepIn K (.ref f) = true ∧ Binds K fdt (fd.N.take fd.np) [] ∧ fd.np ≤ fd.N.length ∧ (∀ ks q, (i, ks, q) ∈ P.kws → KwB fdt (fd.N.take fd.np) ks q) ∧ (∃ o, K.lookup f = some o ∧ o.data = .func fdt) ∧
    ((nat i = none ∧ ∃ st, Fun K fd.name fd.name st f fdt ∧ FnScope fd.N (fd.N.take fd.np) (defScope st) ∧ CkSs P fd.N (defScope st) fd.body (defBody st)) ∨
     ∃ h, nat i = some h ∧ FnG pr w K mg base b f fdt (fd.N.take fd.np) (spF P.nm K (fun _ => h) fd.np i))
inductive AllI (p : Nat → Fd → Prop) : Nat → List Fd → Prop
  | nil {n} : AllI p n []
  | cons {n a l} : p n a → AllI p (n + 1) l → AllI p n (a :: l)
theorem AllI.get {p : Nat → Fd → Prop} : ∀ {n : Nat} {l : List Fd}, AllI p n l → ∀ (i : Nat) (fd : Fd), l[i]? = some fd → p (n + i) fd
  | _, _, .nil, _, _, h => by simp at h
  | _, _, .cons h _, 0, _, e => by
    simp at e
    subst e
    exact h
  | n, _, .cons _ t, i + 1, fd, e => by
    have := t.get i fd (by simpa using e)
    rw [show n + 1 + i = n + (i + 1) by omega] at this
    exact this
theorem fd_of {P : PInfo} {nat : Nv} {b : Nat} {pr : Program} {w : World} {K : PySem.W.Frag} {mg : PySem.Str → Option Value} {base : Heap} (h : AllI (FdOk P nat b pr w K mg base) 0 P.fds) : ∀ i fd, P.fds[i]? = some fd → FdOk P nat b pr w K mg base i fd := fun i fd e => by
  have := h.get i fd e
  rwa [Nat.zero_add] at this
/-- a function object as the top leaves it -/
def DefAt (K : PySem.W.Frag) (name : PySem.Str) (st : Stmt) (fa : Addr) (fdt : FuncData) : Prop :=
  ∃ oc od an sl kV dc pm cd ct, fdt = PySem.W.fnOf name name (defArgs st) (defBody st) (defScope st) .none kV dc pm an cd ct ∧ PySem.W.nsIn K mainGlobals name = some (some (.ref fa)) ∧
    K.lookup fa = some ⟨oc, od, .func fdt, sl⟩ ∧ PySem.W.codeIn K cd name = true ∧ PySem.W.keepIn K (.ref fa) = true
theorem def_at {K : PySem.W.Frag} {name : PySem.Str} {st : Stmt} {fa : Addr} {oc : Value} {od an : Option Addr} {sl : Array (Option Value)} {kV dc pm cd ct : Value} (h1 : PySem.W.nsIn K mainGlobals name = some (some (.ref fa)))
    (h2 : K.lookup fa = some ⟨oc, od, .func (PySem.W.fnOf name name (defArgs st) (defBody st) (defScope st) .none kV dc pm an cd ct), sl⟩) (h3 : PySem.W.codeIn K cd name = true) (h4 : PySem.W.keepIn K (.ref fa) = true) : ∃ fa fdt, DefAt K name st fa fdt :=
  ⟨fa, _, oc, od, an, sl, kV, dc, pm, cd, ct, rfl, h1, h2, h3, h4⟩
section
variable {P : PInfo} {nat : Nv} {b : Nat} {pr : Program} {w : World} {K : PySem.W.Frag} {h : Heap} {mg : PySem.Str → Option Value} {base : Heap} {name : PySem.Str} {st : Stmt} {fa : Addr} {fdt : FuncData}
theorem DefAt.fn (D : DefAt K name st fa fdt) : Fun K name name st fa fdt := by
  obtain ⟨oc, od, an, sl, kV, dc, pm, cd, ct, rfl, h1, h2, h3, h4⟩ := D
  exact fun_mk h2 h3 h4
theorem DefAt.at_ (D : DefAt K name st fa fdt) (X : K.In h) (G : h.Ns mainGlobals mg) : mg name = some (.ref fa) := by
  obtain ⟨oc, od, an, sl, kV, dc, pm, cd, ct, rfl, h1, h2, h3, h4⟩ := D
  exact PySem.W.mg_of X G h1
theorem DefAt.kp (D : DefAt K name st fa fdt) : PySem.W.keepIn K (.ref fa) = true := by
  obtain ⟨oc, od, an, sl, kV, dc, pm, cd, ct, rfl, h1, h2, h3, h4⟩ := D
  exact h4
theorem DefAt.look (D : DefAt K name st fa fdt) : ∃ o, K.lookup fa = some o ∧ o.data = .func fdt := by
  obtain ⟨oc, od, an, sl, kV, dc, pm, cd, ct, rfl, h1, h2, h3, h4⟩ := D
  exact ⟨_, h2, rfl⟩
/-- how all calls bind: by the text's own row of parameters -/
def BndT (name : PySem.Str) (st : Stmt) (ps : List PySem.Str) : Prop := ∀ (kV dc pm : Value) (an : Option Addr) (cd ct : Value) (us : List Value), us.length = ps.length →
  bindArgs (PySem.W.fnOf name name (defArgs st) (defBody st) (defScope st) .none kV dc pm an cd ct) ⟨us, []⟩ = pure (ps.zip us)
def KwT (name : PySem.Str) (st : Stmt) (ps ks : List PySem.Str) (q : List Nat) : Prop := ∀ (kV dc pm : Value) (an : Option Addr) (cd ct : Value) (us : List Value), us.length = ks.length →
  bindArgs (PySem.W.fnOf name name (defArgs st) (defBody st) (defScope st) .none kV dc pm an cd ct) ⟨[], ks.zip us⟩ = pure (ps.zip (permA q us))
theorem DefAt.binds (D : DefAt K name st fa fdt) {ps : List PySem.Str} (B : BndT name st ps) : Binds K fdt ps [] := D.fn.binds B
theorem DefAt.kw (D : DefAt K name st fa fdt) {ps ks : List PySem.Str} {q : List Nat} (B : KwT name st ps ks q) : KwB fdt ps ks q := by
  obtain ⟨oc, od, an, sl, kV, dc, pm, cd, ct, rfl, h1, h2, h3, h4⟩ := D
  exact B kV dc pm an cd ct
theorem fd_mk {i : Nat} {fd : Fd} (D : DefAt K fd.name st fa fdt) (X : K.In h) (G : h.Ns mainGlobals mg) (B : BndT fd.name st (fd.N.take fd.np)) (hn : nat i = none) (S : FnScope fd.N (fd.N.take fd.np) (defScope st)) (hl : fd.np ≤ fd.N.length)
    (hb : CkSs P fd.N (defScope st) fd.body (defBody st)) (kw : ∀ ks q, (i, ks, q) ∈ P.kws → KwT fd.name st (fd.N.take fd.np) ks q) : FdOk P nat b pr w K mg base i fd :=
  ⟨fa, fdt, D.at_ X G, D.kp, D.binds B, hl, fun ks q e => D.kw (kw ks q e), D.look, .inl ⟨hn, st, D.fn, S, hb⟩⟩
theorem fd_nat {i : Nat} {fd : Fd} {hf : List Arg → G → Option (D × G)} (D : DefAt K fd.name st fa fdt) (X : K.In h) (G : h.Ns mainGlobals mg) (B : BndT fd.name st (fd.N.take fd.np)) (hn : nat i = some hf) (hl : fd.np ≤ fd.N.length)
    (F : FnG pr w K mg base b fa fdt (fd.N.take fd.np) (spF P.nm K (fun _ => hf) fd.np i)) (kw : ∀ ks q, (i, ks, q) ∈ P.kws → KwT fd.name st (fd.N.take fd.np) ks q) : FdOk P nat b pr w K mg base i fd :=
  ⟨fa, fdt, D.at_ X G, D.kp, D.binds B, hl, fun ks q e => D.kw (kw ks q e), D.look, .inr ⟨hf, hn, F⟩⟩
end
end PV
set_option maxHeartbeats 1000000
namespace PV
open PySem PySem.Spec PyProof.Rows L2
/-! ### words: the operations on S w -/
theorem S_len (w : Wd) : (⟨w.toArray⟩ : PySem.Str).length = w.length := by
  show w.toArray.size = w.length
  simp
theorem lenB_S {w : Wd} (h : w.length ≤ 100000) : lenB [S w] = some (.int w.length) := by
  show (if (⟨w.toArray⟩ : PySem.Str).length ≤ sizeLine then some (PyData.int (⟨w.toArray⟩ : PySem.Str).length) else none) = _
  rw [S_len, if_pos (by have := line24; omega)]
theorem addD_S {a b : Wd} (h : a.length + b.length ≤ 100000) : addD (S a) (S b) = some (S (a ++ b)) := by
  show (if (⟨a.toArray⟩ : PySem.Str).length + (⟨b.toArray⟩ : PySem.Str).length ≤ sizeLine then some (PyData.str ((⟨a.toArray⟩ : PySem.Str) ++ (⟨b.toArray⟩ : PySem.Str))) else none) = _
  rw [S_len, S_len, if_pos (by have := line24; omega)]
  show some (PyData.str ⟨a.toArray ++ b.toArray⟩) = _
  unfold S
  simp
theorem slD_S {w : Wd} (h : w.length ≤ 100000) (lo hi : Option Int) : slD (S w) lo hi = some (S (cutL w lo hi)) := by
  show (if (⟨w.toArray⟩ : PySem.Str).length ≤ sizeLine then some (PyData.str ⟨(cutL (⟨w.toArray⟩ : PySem.Str).cps.toList lo hi).toArray⟩) else none) = _
  rw [S_len, if_pos (by have := line24; omega)]
  rfl
theorem revD_S {w : Wd} (h : w.length ≤ 100000) : revD (S w) = some (S w.reverse) := by
  show (if (⟨w.toArray⟩ : PySem.Str).length ≤ sizeLine then some (PyData.str ⟨(⟨w.toArray⟩ : PySem.Str).cps.toList.reverse.toArray⟩) else none) = _
  rw [S_len, if_pos (by have := line24; omega)]
  rfl
theorem mulD_S {w : Wd} {k : Nat} (h : w.length * k ≤ 100000) (h2 : k ≤ 100000) : mulD (S w) (.int k) = some (S (List.replicate k w).flatten) := by
  show (if (⟨w.toArray⟩ : PySem.Str).length * (k : Int).toNat ≤ 1000000 ∧ -1000000 ≤ (k : Int) ∧ (k : Int) ≤ 1000000 then some (PyData.str (repS (⟨w.toArray⟩ : PySem.Str) k)) else none) = _
  rw [S_len, if_pos ⟨by simp; omega, by omega, by omega⟩]
  rfl
theorem inD_S (a b : Wd) : inD (S a) (S b) = some (isPart a b) := rfl
theorem Str_eq {a b : Wd} : (⟨a.toArray⟩ : PySem.Str) = ⟨b.toArray⟩ ↔ a = b := by
  constructor
  · intro h
    have := congrArg (fun x : PySem.Str => x.cps.toList) h
    simpa using this
  · intro h; rw [h]
theorem eqD_S (a b : Wd) : eqD (S a) (S b) = some (decide (a = b)) := by
  show some (decide ((⟨a.toArray⟩ : PySem.Str) = ⟨b.toArray⟩)) = _
  congr 1
  exact decide_eq_decide.mpr Str_eq
theorem ixD_S {w : Wd} {i : Nat} {x : Nat} (h : w.length ≤ 100000) (hx : w[i]? = some x) : ixD (S w) (.int i) = some (S [x]) := by
  have hi : i < w.length := (List.getElem?_eq_some_iff.mp hx).1
  show (if (⟨w.toArray⟩ : PySem.Str).length ≤ sizeLine then (atI (⟨w.toArray⟩ : PySem.Str).cps.toList i).map fun c => PyData.str ⟨#[c]⟩ else none) = _
  rw [S_len, if_pos (by have := line24; omega)]
  show (atI w i).map _ = _
  rw [atI_nat hx]
  rfl
theorem letters_S (w : Wd) : itemsOf (S w) = some (w.map fun c => S [c]) := by
  show some (lettersD ⟨w.toArray⟩) = _
  unfold lettersD
  rfl
theorem strs_S (l : List Wd) : allOf asStr (l.map S) = some (l.map fun w => ⟨w.toArray⟩) := by
  induction l with
  | nil => rfl
  | cons a l ih =>
    rw [List.map_cons, allOf]
    show (some (⟨a.toArray⟩ : PySem.Str)).bind _ = _
    rw [Option.bind_some, ih]
    rfl
theorem ints_I (l : List Int) : allOf asInt (l.map PyData.int) = some l := by
  induction l with
  | nil => rfl
  | cons a l ih =>
    rw [List.map_cons, allOf]
    show (some a).bind _ = _
    rw [Option.bind_some, ih]
    rfl
theorem join_nil_eq : ∀ l : List Wd, Str.join ⟨#[]⟩ (l.map fun w => (⟨w.toArray⟩ : PySem.Str)) = ⟨l.flatten.toArray⟩
  | [] => rfl
  | [x] => by
    show (⟨x.toArray⟩ : PySem.Str) = _
    simp
  | x :: y :: r => by
    have ih := join_nil_eq (y :: r)
    show (⟨x.toArray⟩ : PySem.Str) ++ ⟨#[]⟩ ++ Str.join ⟨#[]⟩ ((y :: r).map fun w => (⟨w.toArray⟩ : PySem.Str)) = _
    rw [ih]
    show (⟨x.toArray ++ #[] ++ ((y :: r).flatten).toArray⟩ : PySem.Str) = _
    simp
theorem joinB_S {l : List Wd} (h : (l.map List.length).sum ≤ 100000) (h2 : l.length ≤ 100000) : joinD ⟨#[]⟩ (l.map S) = some (S l.flatten) := by
  unfold joinD
  rw [strs_S, Option.bind_some, if_pos, join_nil_eq]
  · rfl
  · have e : ((l.map fun w => (⟨w.toArray⟩ : PySem.Str)).map fun x => x.length) = l.map List.length := by
      rw [List.map_map]
      exact List.map_congr_left fun w _ => S_len w
    rw [e]
    show _ + _ * 0 ≤ _
    omega
/-! ### sorted -/
def insW (d : Wd) : List Wd → List Wd
  | [] => [d]
  | e :: r => if ltL d e = true then d :: e :: r else e :: insW d r
def sortW (l : List Wd) : List Wd := l.foldl (fun acc d => insW d acc) []
theorem insD_S (d : Wd) : ∀ l : List Wd, insD cmpStr (S d) (l.map S) = (insW d l).map S
  | [] => rfl
  | e :: r => by
    have h : cmpStr (S d) (S e) = ltL d e := rfl
    rw [List.map_cons, insD, insW, h]
    split
    · rfl
    · rw [insD_S d r]; rfl
theorem sortD_S (l : List Wd) : sortD cmpStr (l.map S) = (sortW l).map S := by
  have key : ∀ (l acc : List Wd), (l.map S).foldl (fun acc d => insD cmpStr d acc) (acc.map S) = (l.foldl (fun acc d => insW d acc) acc).map S := by
    intro l
    induction l with
    | nil => intro acc; rfl
    | cons a l ih =>
      intro acc
      rw [List.map_cons, List.foldl_cons, insD_S, ih]
      rfl
  exact key l []
theorem sortedD_S {l : List Wd} (h : l.length ≤ 100000) : sortedD (l.map S) = some (.list ((sortW l).map S)) := by
  unfold sortedD
  rw [if_pos (by rw [List.length_map]; have := line24; omega), if_pos (by simp [S, isStr]), sortD_S]
theorem insW_mem (d x : Wd) : ∀ l : List Wd, x ∈ insW d l ↔ x = d ∨ x ∈ l
  | [] => by simp [insW]
  | e :: r => by
    unfold insW
    split
    · simp
    · rw [List.mem_cons, insW_mem d x r]
      simp only [List.mem_cons]
      constructor
      · rintro (h | h | h)
        · exact .inr (.inl h)
        · exact .inl h
        · exact .inr (.inr h)
      · rintro (h | h | h)
        · exact .inr (.inl h)
        · exact .inl h
        · exact .inr (.inr h)
theorem sortW_len (l : List Wd) : (sortW l).length = l.length := by
  have h1 : ∀ (d : Wd) (l : List Wd), (insW d l).length = l.length + 1 := by
    intro d l
    induction l with
    | nil => rfl
    | cons e r ih =>
      unfold insW
      split
      · rfl
      · rw [List.length_cons, ih]; rfl
  have key : ∀ (l acc : List Wd), (l.foldl (fun acc d => insW d acc) acc).length = l.length + acc.length := by
    intro l
    induction l with
    | nil => intro acc; simp
    | cons a l ih =>
      intro acc
      rw [List.foldl_cons, ih, h1, List.length_cons]
      omega
  have := key l []
  rw [List.length_nil, Nat.add_zero] at this
  exact this
theorem sortW_mem (l : List Wd) (x : Wd) : x ∈ sortW l ↔ x ∈ l := by
  have key : ∀ (l acc : List Wd), x ∈ l.foldl (fun acc d => insW d acc) acc ↔ x ∈ l ∨ x ∈ acc := by
    intro l
    induction l with
    | nil => intro acc; simp
    | cons a l ih =>
      intro acc
      rw [List.foldl_cons, ih, insW_mem]
      simp only [List.mem_cons]
      constructor
      · rintro (h | h | h)
        · exact .inl (.inr h)
        · exact .inl (.inl h)
        · exact .inr h
      · rintro ((h | h) | h)
        · exact .inr (.inl h)
        · exact .inl h
        · exact .inr (.inr h)
  have := key l []
  rw [show (x ∈ ([] : List Wd)) = False by simp, or_false] at this
  exact this
def SrtW (l : List Wd) : Prop := l.Pairwise fun x y => ltL y x = false
theorem insW_srt (d : Wd) : ∀ l : List Wd, SrtW l → SrtW (insW d l)
  | [], _ => by unfold insW SrtW; simp
  | e :: r, h => by
    unfold SrtW at h
    obtain ⟨h1, h2⟩ := List.pairwise_cons.mp h
    unfold insW
    split
    · rename_i hlt
      refine List.pairwise_cons.mpr ⟨fun y hy => ?_, h⟩
      rcases List.mem_cons.mp hy with rfl | hy
      · exact ltL_asym hlt
      · exact ltL_trans (ltL_asym hlt) (h1 y hy)
    · rename_i hlt
      refine List.pairwise_cons.mpr ⟨fun y hy => ?_, insW_srt d r h2⟩
      rcases (insW_mem d y r).mp hy with rfl | hy
      · simpa using hlt
      · exact h1 y hy
theorem sortW_srt (l : List Wd) : SrtW (sortW l) := by
  have key : ∀ (l acc : List Wd), SrtW acc → SrtW (l.foldl (fun acc d => insW d acc) acc) := by
    intro l
    induction l with
    | nil => intro acc h; exact h
    | cons a l ih => intro acc h; exact ih _ (insW_srt a acc h)
  exact key l [] List.Pairwise.nil
/-! ### each once -/
def stepE (acc : List Wd) (x : Wd) : List Wd := if acc = [] ∨ acc.getLast? ≠ some x then acc ++ [x] else acc
def eoW (l : List Wd) : List Wd := (sortW l).foldl stepE []
theorem stepE_all : ∀ (l acc : List Wd), acc.Pairwise (fun x y => ltL x y = true) → SrtW l → (∀ x ∈ acc, ∀ y ∈ l, ltL y x = false) →
    (l.foldl stepE acc).Pairwise (fun x y => ltL x y = true) ∧ ∀ x, x ∈ l.foldl stepE acc ↔ x ∈ acc ∨ x ∈ l
  | [], acc, h, _, _ => ⟨h, fun x => by simp⟩
  | a :: l, acc, h, hs, hle => by
    obtain ⟨h1, h2⟩ := List.pairwise_cons.mp hs
    have hal : ∀ x ∈ acc, ltL a x = false := fun x hx => hle x hx a (List.mem_cons_self ..)
    rw [List.foldl_cons]
    by_cases hc : acc = [] ∨ acc.getLast? ≠ some a
    · have e : stepE acc a = acc ++ [a] := if_pos hc
      rw [e]
      have hlt : ∀ x ∈ acc, ltL x a = true := fun x hx => by
        cases q : ltL x a with
        | true => rfl
        | false =>
          exfalso
          have xa : x = a := ltL_anti q (hal x hx)
          rcases hc with hc | hc
          · rw [hc] at hx; cases hx
          · obtain ⟨p, z, rfl⟩ : ∃ p z, acc = p ++ [z] := by
              have hne : acc ≠ [] := fun q => by rw [q] at hx; cases hx
              exact ⟨acc.dropLast, acc.getLast hne, (List.dropLast_concat_getLast hne).symm⟩
            rw [List.getLast?_append] at hc
            simp at hc
            rcases List.mem_append.mp hx with hx | hx
            · have h3 := (List.pairwise_append.mp h).2.2 x hx z (List.mem_singleton.mpr rfl)
              have h4 : ltL x z = false := by rw [xa]; exact hal z (by simp)
              rw [h3] at h4
              cases h4
            · have := List.mem_singleton.mp hx
              exact hc (this ▸ xa)
      have r := stepE_all l (acc ++ [a]) (List.pairwise_append.mpr ⟨h, List.pairwise_singleton _ _, fun x hx y hy => by rw [List.mem_singleton.mp hy]; exact hlt x hx⟩) h2 (fun x hx y hy => by
        rcases List.mem_append.mp hx with hx | hx
        · exact hle x hx y (List.mem_cons_of_mem _ hy)
        · rw [List.mem_singleton.mp hx]; exact h1 y hy)
      refine ⟨r.1, fun x => ?_⟩
      rw [r.2 x]
      rw [List.mem_append, List.mem_singleton, List.mem_cons]
      constructor
      · rintro ((h | h) | h)
        · exact .inl h
        · exact .inr (.inl h)
        · exact .inr (.inr h)
      · rintro (h | h | h)
        · exact .inl (.inl h)
        · exact .inl (.inr h)
        · exact .inr h
    · have e : stepE acc a = acc := if_neg hc
      rw [e]
      have hl : acc.getLast? = some a := by
        apply Classical.byContradiction
        intro q
        exact hc (.inr q)
      have ha : a ∈ acc := List.mem_of_getLast? hl
      have r := stepE_all l acc h h2 fun x hx y hy => hle x hx y (List.mem_cons_of_mem _ hy)
      refine ⟨r.1, fun x => ?_⟩
      rw [r.2 x]
      simp only [List.mem_cons]
      constructor
      · rintro (h | h)
        · exact .inl h
        · exact .inr (.inr h)
      · rintro (h | h | h)
        · exact .inl h
        · exact .inl (h ▸ ha)
        · exact .inr h
theorem ltL_irr (w : Wd) : ltL w w = false := by
  cases q2 : ltL w w with
  | false => rfl
  | true => have := ltL_asym q2; rw [q2] at this; exact this
theorem eoW_spec (l : List Wd) : (eoW l).Nodup ∧ ∀ x, x ∈ eoW l ↔ x ∈ l := by
  have r := stepE_all (sortW l) [] List.Pairwise.nil (sortW_srt l) fun x hx => by cases hx
  refine ⟨r.1.imp fun {a b} h e => ?_, fun x => ?_⟩
  · rw [e, ltL_irr] at h
    cases h
  · have := r.2 x
    rw [sortW_mem] at this
    simpa [eoW] using this
theorem nodup_le {α : Type} [BEq α] [LawfulBEq α] : ∀ {a b : List α}, a.Nodup → (∀ x ∈ a, x ∈ b) → a.length ≤ b.length
  | [], b, _, _ => Nat.zero_le _
  | x :: a, b, h, s => by
    obtain ⟨h1, h2⟩ := List.nodup_cons.mp h
    have hx := s x (List.mem_cons_self ..)
    have := nodup_le (b := b.erase x) h2 fun y hy => (List.mem_erase_of_ne (fun e => h1 (by rw [← e]; exact hy))).mpr (s y (List.mem_cons_of_mem _ hy))
    rw [List.length_erase_of_mem hx] at this
    have hp : 0 < b.length := List.length_pos_of_mem hx
    rw [List.length_cons]
    omega
theorem nodup_len {α : Type} [BEq α] [LawfulBEq α] {a b : List α} (h : a.Nodup) (k : b.Nodup) (s : ∀ x, x ∈ a ↔ x ∈ b) : a.length = b.length :=
  Nat.le_antisymm (nodup_le h fun x hx => (s x).mp hx) (nodup_le k fun x hx => (s x).mpr hx)
end PV
set_option maxHeartbeats 1000000
namespace PV
open PySem PySem.Spec PyProof.Rows L2
/-! ### repr: how long the text is at most -/
mutual
def wt : D → Nat
  | .none => 5
  | .bool _ => 5
  | .int _ => 1921
  | .str x => 10 * x.length + 2
  | .list xs => wtL xs + 4
  | .tuple xs => wtL xs + 4
  | .dict _ => 0
def wtL : List D → Nat
  | [] => 0
  | x :: xs => wt x + 2 + wtL xs
/-- plain data: numbers not too long, texts of true signs -/
def okD : D → Bool
  | .none => true
  | .bool _ => true
  | .int i => decide (i.natAbs.log2 < 1920)
  | .str x => PyData.strOk x
  | .list xs => okL xs
  | .tuple xs => okL xs
  | .dict _ => false
def okL : List D → Bool
  | [] => true
  | x :: xs => okD x && okL xs
end
mutual
theorem okD_show : ∀ d : D, okD d = true → d.showable = true ∧ d.canLay0 = true
  | .none, _ => ⟨rfl, rfl⟩
  | .bool _, _ => ⟨rfl, rfl⟩
  | .int i, h => by
    unfold okD at h
    exact ⟨by unfold PyData.showable; exact h, rfl⟩
  | .str x, h => by
    unfold okD at h
    exact ⟨rfl, by unfold PyData.canLay0; exact h⟩
  | .list xs, h => by
    unfold okD at h
    obtain ⟨h1, h2⟩ := okL_show xs h
    exact ⟨by unfold PyData.showable; exact h1, by unfold PyData.canLay0; exact h2⟩
  | .tuple xs, h => by
    unfold okD at h
    obtain ⟨h1, h2⟩ := okL_show xs h
    exact ⟨by unfold PyData.showable; exact h1, by unfold PyData.canLay0; exact h2⟩
  | .dict _, h => by unfold okD at h; cases h
theorem okL_show : ∀ d : List D, okL d = true → PyData.showableAll d = true ∧ PyData.canLayAll0 d = true
  | [], _ => ⟨rfl, rfl⟩
  | x :: xs, h => by
    unfold okL at h
    rw [Bool.and_eq_true] at h
    obtain ⟨h1, h2⟩ := okD_show x h.1
    obtain ⟨h3, h4⟩ := okL_show xs h.2
    exact ⟨by unfold PyData.showableAll; rw [h1, h3]; rfl, by unfold PyData.canLayAll0; rw [h2, h4]; rfl⟩
end
theorem slen (a b : PySem.Str) : (a ++ b).length = a.length + b.length := strLen_append a b
theorem textFrom_le : ∀ (ts : List PySem.Str) (k : Nat) (acc : PySem.Str), (textFrom k acc ts).length ≤ acc.length + (ts.map fun t => t.length + 2).sum
  | [], k, acc => by show acc.length ≤ _; simp
  | t :: r, k, acc => by
    have ih := textFrom_le r (k + 1) (acc ++ (if k > 0 then ", " else "" : String) ++ t)
    have e : (acc ++ (if k > 0 then ", " else "" : String) ++ t).length ≤ acc.length + 2 + t.length := by
      rw [slen, slen]
      split
      · exact Nat.le_refl _
      · show acc.length + 0 + t.length ≤ _
        omega
    show (textFrom (k + 1) _ r).length ≤ _
    rw [List.map_cons, List.sum_cons]
    omega
theorem joinC_le : ∀ ts : List PySem.Str, (Str.join ", " ts).length ≤ (ts.map fun t => t.length + 2).sum
  | [] => Nat.zero_le _
  | [x] => by show x.length ≤ _; simp
  | x :: y :: r => by
    have ih := joinC_le (y :: r)
    show (x ++ ", " ++ Str.join ", " (y :: r)).length ≤ _
    rw [slen, slen, List.map_cons, List.sum_cons]
    have e2 : ((", " : String) : PySem.Str).length = 2 := rfl
    omega
mutual
theorem shown_le : ∀ d : D, okD d = true → d.shown.length ≤ wt d
  | .none, _ => by show ("None" : PySem.Str).length ≤ 5; decide
  | .bool b, _ => by cases b <;> (unfold PyData.shown wt; decide)
  | .int i, h => by
    unfold okD at h
    unfold PyData.shown wt
    exact int_text_len_1921 (of_decide_eq_true h)
  | .str x, h => by
    unfold okD PyData.strOk at h
    unfold PyData.shown wt
    refine StrLaws.reprText_len x fun c hc => ?_
    have := Array.all_eq_true_iff_forall_mem.mp h c (by simpa using hc)
    have h2 : c < 1114112 := by simpa using this
    have : (16 : Nat) ^ 8 = 4294967296 := by decide
    omega
  | .list xs, h => by
    unfold okD at h
    have ih := shownAll_le xs h
    unfold PyData.shown wt
    show (textFrom 0 "[" (PyData.shownAll xs) ++ ("]" : PySem.Str)).length ≤ _
    rw [slen]
    have h1 := textFrom_le (PyData.shownAll xs) 0 ("[" : PySem.Str)
    have e1 : (("[" : String) : PySem.Str).length = 1 := rfl
    have e2 : (("]" : String) : PySem.Str).length = 1 := rfl
    omega
  | .tuple xs, h => by
    unfold okD at h
    have ih := shownAll_le xs h
    unfold PyData.shown wt
    show (("(" : PySem.Str) ++ Str.join ", " (PyData.shownAll xs) ++ (if (PyData.shownAll xs).length == 1 then ",)" else ")" : String)).length ≤ _
    rw [slen, slen]
    have h1 := joinC_le (PyData.shownAll xs)
    have e1 : (("(" : String) : PySem.Str).length = 1 := rfl
    have e3 : (((if (PyData.shownAll xs).length == 1 then ",)" else ")" : String) : PySem.Str)).length ≤ 2 := by split <;> decide
    omega
  | .dict _, h => by unfold okD at h; cases h
theorem shownAll_le : ∀ d : List D, okL d = true → ((PyData.shownAll d).map fun t => t.length + 2).sum ≤ wtL d
  | [], _ => Nat.zero_le _
  | x :: xs, h => by
    unfold okL at h
    rw [Bool.and_eq_true] at h
    have h1 := shown_le x h.1
    have h2 := shownAll_le xs h.2
    unfold PyData.shownAll wtL
    rw [List.map_cons, List.sum_cons]
    omega
end
theorem reprB_ok {d : D} (h : okD d = true) (hd : d.depth ≤ 64) (hw : wt d ≤ 16000000) : reprB [d] = some (.str d.shown) := by
  obtain ⟨h1, h2⟩ := okD_show d h
  have h3 := shown_le d h
  unfold reprB
  dsimp only
  rw [if_pos ⟨h1, by unfold SeqAt.shaped; rw [h2, decide_eq_true hd]; rfl, by have := line24; omega⟩]
theorem shaped_ok {d : D} (h : okD d = true) (hd : d.depth ≤ 64) : SeqAt.shaped d = true := by
  unfold SeqAt.shaped
  rw [(okD_show d h).2, decide_eq_true hd]
  rfl
/-! ### words of true signs -/
def OkW (w : Wd) : Prop := ∀ c ∈ w, c < 1114112
theorem okD_S {w : Wd} (h : OkW w) : okD (S w) = true := by
  unfold S okD PyData.strOk
  rw [Array.all_eq_true_iff_forall_mem]
  intro c hc
  exact decide_eq_true (h c (by simpa using hc))
theorem okL_S : ∀ {l : List Wd}, (∀ w ∈ l, OkW w) → okL (l.map S) = true
  | [], _ => rfl
  | w :: l, h => by
    rw [List.map_cons, okL, okD_S (h w (List.mem_cons_self ..)), okL_S fun x hx => h x (List.mem_cons_of_mem _ hx)]
    rfl
theorem depth_S (l : List Wd) : PyData.depthAll (l.map S) = 0 := by
  induction l with
  | nil => rfl
  | cons a l ih =>
    rw [List.map_cons, PyData.depthAll, ih]
    rfl
theorem okL_I : ∀ {l : List Int}, (∀ i ∈ l, i.natAbs.log2 < 1920) → okL (l.map PyData.int) = true
  | [], _ => rfl
  | w :: l, h => by
    rw [List.map_cons, okL, okL_I fun x hx => h x (List.mem_cons_of_mem _ hx)]
    unfold okD
    rw [decide_eq_true (h w (List.mem_cons_self ..))]
    rfl
theorem depth_I (l : List Int) : PyData.depthAll (l.map PyData.int) = 0 := by
  induction l with
  | nil => rfl
  | cons a l ih =>
    rw [List.map_cons, PyData.depthAll, ih]
    rfl
theorem wtL_I (l : List Int) : wtL (l.map PyData.int) = 1923 * l.length := by
  induction l with
  | nil => rfl
  | cons a l ih =>
    rw [List.map_cons, wtL, ih, List.length_cons]
    unfold wt
    omega
theorem small_log {i : Int} (h1 : -(2 ^ 64) ≤ i) (h2 : i ≤ 2 ^ 64) : i.natAbs.log2 < 1920 := by
  have : i.natAbs < 2 ^ 65 := by omega
  have h3 : i.natAbs.log2 < 65 := by
    by_cases h0 : i.natAbs = 0
    · rw [h0]; decide
    · exact (Nat.log2_lt h0).mpr this
  omega
end PV
namespace PV
open PySem PySem.Spec PyProof.Rows L2
theorem eqD_L (xs ys : List D) : eqD (.list xs) (.list ys) = if SeqAt.shaped (.list xs) = true ∧ SeqAt.shaped (.list ys) = true then some (PyData.eqv (.list xs) (.list ys)) else none := rfl
theorem eqD_T (xs ys : List D) : eqD (.tuple xs) (.tuple ys) = if SeqAt.shaped (.tuple xs) = true ∧ SeqAt.shaped (.tuple ys) = true then some (PyData.eqv (.tuple xs) (.tuple ys)) else none := rfl
theorem eqD_I (i j : Int) : eqD (.int i) (.int j) = some (decide (i = j)) := rfl
end PV
set_option maxHeartbeats 1000000
namespace PV
open PySem PySem.Spec PyProof.Rows L2
/-! ### how the evaluator goes -/
section
variable {c : Cal} {ρ ρ' : List Sl} {g g' g1 : G} {d : D} {s : C} {l : Cs} {o : Out} {α β : Type}
theorem runB_rt {f : Fd} {as : List Arg} (h : as.length = f.np) (e : execs c f.body (as.map slOf ++ List.replicate (f.N.length - f.np) .un) g = some (.rt d g')) : runB c f as g = some (d, g') := by
  unfold runB
  rw [if_pos h, e]
theorem runB_at {f : Fd} {as : List Arg} {ρ : List Sl} (h : as.length = f.np) (hr : as.map slOf ++ List.replicate (f.N.length - f.np) .un = ρ) (e : execs c f.body ρ g = some (.rt d g')) : runB c f as g = some (d, g') := by
  subst hr
  exact runB_rt h e
theorem execs_nx (h : exec c s ρ g = some (.nx ρ' g')) (e : execs c l ρ' g' = some o) : execs c (.cons s l) ρ g = some o := by
  rw [execs, h]
  exact e
theorem execs_rt (h : exec c s ρ g = some (.rt d g')) : execs c (.cons s l) ρ g = some (.rt d g') := by
  rw [execs, h]
  rfl
theorem exec_set {t : Tg} {e : E} (h : ev c e ρ g = some (d, g')) (hb : bindT t d ρ = some ρ') : exec c (.set t e) ρ g = some (.nx ρ' g') := by
  rw [exec, h]
  show (bindT t d ρ).map _ = _
  rw [hb]
  rfl
theorem exec_own {i : Nat} {e : E} (h : ev c e ρ g = some (d, g')) : exec c (.own i e) ρ g = some (.nx (ρ.set i (.own d)) g') := by
  rw [exec, h]
  rfl
theorem exec_ret {e : E} (h : ev c e ρ g = some (d, g')) : exec c (.ret e) ρ g = some (.rt d g') := by
  rw [exec, h]
  rfl
theorem exec_for {t : Tg} {it : PV.It} {b : Cs} {xs : List D} (h : evIt c it ρ g = some (xs, g1)) (e : forL (fun x ρ g => (bindT t x ρ).bind fun ρ => execs c b ρ g) xs ρ g1 = some o) : exec c (.for t it b) ρ g = some o := by
  rw [exec, h]
  exact e
theorem exec_if {t : E} {a b : Cs} {q : Bool} (h : ev c t ρ g = some (.bool q, g1)) (e : (if q = true then execs c a ρ g1 else execs c b ρ g1) = some o) : exec c (.ife t a b) ρ g = some o := by
  rw [exec, h]
  cases q <;> exact e
theorem exec_frz {i : Nat} {d : D} (h : ρ[i]? = some (.own d)) (e : exec c s (ρ.set i (.v d)) g = some o) : exec c (.frz i s) ρ g = some o := by
  rw [exec, h]
  exact e
theorem evIt_val {e : E} {xs : List D} (h : ev c e ρ g = some (d, g')) (hi : itemsOf d = some xs) : evIt c (.val e) ρ g = some (xs, g') := by
  rw [evIt, h]
  show (itemsOf d).map _ = _
  rw [hi]
  rfl
theorem evIt_rng {m : Es} {ds xs : List D} (h : evs c m ρ g = some (ds, g')) (hi : rngD ds = some xs) : evIt c (.rng m) ρ g = some (xs, g') := by
  rw [evIt, h]
  show (rngD ds).map _ = _
  rw [hi]
  rfl
/-- the items, the state told by a relation -/
theorem forL_inv {f : D → List Sl → G → Option Out} : ∀ {xs : List D} {ρ : List Sl} {g : G} (Iv : List D → List Sl → G → Prop), Iv xs ρ g →
    (∀ x r ρ g, Iv (x :: r) ρ g → ∃ ρ' g', f x ρ g = some (.nx ρ' g') ∧ Iv r ρ' g') → ∃ ρ' g', forL f xs ρ g = some (.nx ρ' g') ∧ Iv [] ρ' g'
  | [], ρ, g, Iv, h, _ => ⟨ρ, g, rfl, h⟩
  | x :: xs, ρ, g, Iv, h, st => by
    obtain ⟨ρ1, g1, e1, h1⟩ := st x xs ρ g h
    obtain ⟨ρ2, g2, e2, h2⟩ := forL_inv Iv h1 st
    refine ⟨ρ2, g2, ?_, h2⟩
    rw [forL, e1]
    exact e2
/-- a comprehension that draws nothing -/
theorem ev_map {e : E} {t : Tg} {it : PV.It} {xs : List α} {inj f : α → D} (h : evIt c it ρ g = some (xs.map inj, g1)) (hz : xs.length ≤ 100000)
    (st : ∀ x ∈ xs, ∃ ρ', bindT t (inj x) (wipeR ρ (tgIx t)) = some ρ' ∧ ev c e ρ' g1 = some (f x, g1)) : ev c (.cmpr e t it .no) ρ g = some (.list (xs.map f), g1) := by
  rw [ev, h]
  dsimp only [Option.bind_some]
  have key : ∀ (ys : List α), (∀ x ∈ ys, x ∈ xs) → compL (fun x g => (bindT t x (wipeR ρ (tgIx t))).bind fun ρ' => (ev c e ρ' g).map fun (d, g) => (some d, g)) (ys.map inj) g1 = some (ys.map f, g1) := by
    intro ys
    induction ys with
    | nil => intro _; rfl
    | cons y ys ih =>
      intro hy
      obtain ⟨ρ', h1, h2⟩ := st y (hy y (List.mem_cons_self ..))
      rw [List.map_cons, compL, h1]
      dsimp only [Option.bind_some]
      rw [h2]
      dsimp only [Option.map_some, Option.bind_some]
      rw [ih fun x hx => hy x (List.mem_cons_of_mem _ hx)]
      rfl
  rw [key xs fun _ h => h]
  show (if (xs.map f).length ≤ sizeLine then _ else _) = _
  rw [if_pos (by rw [List.length_map]; have := line24; omega)]
theorem ev_filter {e k : E} {t : Tg} {it : PV.It} {xs : List α} {inj f : α → D} {p : α → Bool} (h : evIt c it ρ g = some (xs.map inj, g1)) (hz : xs.length ≤ 100000) (hk : isNo k = false)
    (st : ∀ x ∈ xs, ∃ ρ', bindT t (inj x) (wipeR ρ (tgIx t)) = some ρ' ∧ ev c k ρ' g1 = some (.bool (p x), g1) ∧ (p x = true → ev c e ρ' g1 = some (f x, g1))) : ev c (.cmpr e t it k) ρ g = some (.list ((xs.filter p).map f), g1) := by
  have hl : (xs.filter p).length ≤ xs.length := List.length_filter_le ..
  have key : ∀ (F : D → G → Option (Option D × G)) (ys : List α), (∀ x ∈ ys, F (inj x) g1 = some (if p x = true then some (f x) else none, g1)) → compL F (ys.map inj) g1 = some ((ys.filter p).map f, g1) := by
    intro F ys
    induction ys with
    | nil => intro _; rfl
    | cons y ys ih =>
      intro hy
      rw [List.map_cons, compL, hy y (List.mem_cons_self ..)]
      dsimp only [Option.bind_some]
      rw [ih fun x hx => hy x (List.mem_cons_of_mem _ hx)]
      cases hp : p y with
      | true => rw [List.filter_cons_of_pos hp]; rfl
      | false => rw [List.filter_cons_of_neg (by rw [hp]; exact Bool.false_ne_true)]; rfl
  rw [ev, h]
  dsimp only [Option.bind_some]
  rw [key _ xs fun x hx => ?_]
  · show (if ((xs.filter p).map f).length ≤ sizeLine then _ else _) = _
    rw [if_pos (by rw [List.length_map]; have := line24; omega)]
  · obtain ⟨ρ', h1, h2, h3⟩ := st x hx
    rw [h1]
    dsimp only [Option.bind_some]
    cases k <;> first | (cases hk; done) | skip
    all_goals
      rw [h2]
      dsimp only [Option.bind_some]
      cases hp : p x with
      | true =>
        dsimp only
        rw [h3 hp]
        rfl
      | false => rfl
end
theorem rng_1 {n : Nat} (h : n ≤ 1000000) : rngD [.int n] = some ((List.range n).map fun k => PyData.int ((k : Nat) : Int)) := by
  show (if okR (n : Int) = true then some (rngL 0 n) else none) = _
  rw [if_pos (by unfold okR; exact decide_eq_true (by omega))]
  unfold rngL
  have e : ((n : Int) - 0).toNat = n := by omega
  rw [e]
  congr 1
  exact List.map_congr_left fun k _ => by rw [Int.zero_add]
theorem rng_neg {i : Int} (h : i ≤ 0) (h2 : -1000000 ≤ i) : rngD [.int i] = some [] := by
  show (if okR i = true then some (rngL 0 i) else none) = _
  rw [if_pos (by unfold okR; exact decide_eq_true (by omega))]
  unfold rngL
  have e : (i - 0).toNat = 0 := by omega
  rw [e]
  rfl
section
variable {c : Cal} {ρ ρ' : List Sl} {g g' g1 g2 : G} {d : D}
theorem evA_d {e : E} (h : ev c e ρ g = some (d, g1)) : evA c e ρ g = some (.d d, g1) := by
  unfold evA
  split
  · rename_i i
    rw [ev] at h
    split at h
    · rename_i hs
      cases h
      rw [hs]
    · cases h
  · rw [h]
    rfl
theorem evAs_d {e : E} {l : Es} {as : List Arg} (h : ev c e ρ g = some (d, g1)) (h2 : evAs c l ρ g1 = some (as, g2)) : evAs c (.cons e l) ρ g = some (.d d :: as, g2) := by
  rw [evAs_cons, evA_d h]
  show (evAs c l ρ g1).map _ = _
  rw [h2]
  rfl
theorem evAs_rill {i : Nat} {l : Es} {as : List Arg} (h : ρ[i]? = some .rill) (h2 : evAs c l ρ g = some (as, g2)) : evAs c (.cons (.loc i) l) ρ g = some (.rill :: as, g2) := by
  rw [evAs_cons]
  show ((match ρ[i]? with
    | some (.v d) => some (Arg.d d, g)
    | some .rill => some (Arg.rill, g)
    | some (.scr ns) => some (Arg.scr ns, g)
    | _ => none).bind _) = _
  rw [h]
  show (evAs c l ρ g).map _ = _
  rw [h2]
  rfl
theorem evAs_nil : evAs c .nil ρ g = some ([], g) := by rw [evAs]
theorem ev_call {f : Nat} {l : Es} {p : List Nat} {as : List Arg} (h : evAs c l ρ g = some (as, g1)) (h2 : c f (permA p as) g1 = some (d, g')) : ev c (.call f l p) ρ g = some (d, g') := by
  rw [ev, h]
  exact h2
theorem ev_bi {f : String} {l : Es} {ds : List D} (h : evs c l ρ g = some (ds, g1)) (h2 : biD f ds = some d) : ev c (.bi f l) ρ g = some (d, g1) := by
  rw [ev, h]
  show (biD f ds).map _ = _
  rw [h2]
  rfl
theorem evs_one1 {e : E} (h : ev c e ρ g = some (d, g1)) : evs c (.cons e .nil) ρ g = some ([d], g1) := by
  simp only [evs, h, Option.bind_some, Option.map_some]
end
theorem cutN {α : Type} {l : List α} {p q : Nat} (h : p ≤ l.length) (h2 : q ≤ l.length) : cutL l (some (p : Int)) (some (q : Int)) = (l.drop p).take (q - p) := by
  unfold cutL
  rw [show HT.sIx l.length 0 (some (p : Int)) = min p l.length from HT.sIx_nat _ _ p, show HT.sIx l.length l.length (some (q : Int)) = min q l.length from HT.sIx_nat _ _ q, Nat.min_eq_left h, Nat.min_eq_left h2]
theorem cutTo {α : Type} {l : List α} (q : Nat) : cutL l none (some (q : Int)) = l.take q := by
  unfold cutL
  rw [show HT.sIx l.length l.length (some (q : Int)) = min q l.length from HT.sIx_nat _ _ q, HT.sIx_none, List.drop_zero, Nat.sub_zero, List.take_eq_take_iff]
  omega
theorem cutFrom {α : Type} {l : List α} (p : Nat) : cutL l (some (p : Int)) none = l.drop p := by
  unfold cutL
  rw [show HT.sIx l.length 0 (some (p : Int)) = min p l.length from HT.sIx_nat _ _ p, HT.sIx_none]
  by_cases h : p ≤ l.length
  · rw [Nat.min_eq_left h, List.take_of_length_le (by rw [List.length_drop]; omega)]
  · rw [Nat.min_eq_right (by omega), List.drop_length, List.drop_of_length_le (by omega)]
    simp
theorem cutLast {α : Type} {l : List α} {k : Nat} (h : k ≤ l.length) (hk : 0 < k) : True := trivial
section
variable {c : Cal} {ρ : List Sl} {g g1 : G}
theorem exec_extT {i : Nat} {e : E} {l m : List D} (h : ev c e ρ g = some (.tuple m, g1)) (hi : ρ[i]? = some (.own (.list l))) (hz : l.length + m.length ≤ 1000000) : exec c (.ext i e) ρ g = some (.nx (ρ.set i (.own (.list (l ++ m)))) g1) := by
  rw [exec, h]
  simp only [Option.bind_some, hi]
  rw [if_pos (by have := line24; omega)]
theorem exec_app {i : Nat} {e : E} {l : List D} {d : D} (h : ev c e ρ g = some (d, g1)) (hi : ρ[i]? = some (.own (.list l))) (hz : l.length < 1000000) : exec c (.app i e) ρ g = some (.nx (ρ.set i (.own (.list (l ++ [d])))) g1) := by
  rw [exec, h]
  simp only [Option.bind_some, hi]
  rw [if_pos (by have := line24; omega)]
end
section
variable {c : Cal} {ρ : List Sl} {g g1 g2 g3 : G} {x y z d : D} {a b e : E}
theorem ev_bin {o : Operator} (h1 : ev c a ρ g = some (x, g1)) (h2 : ev c b ρ g1 = some (y, g2)) (h3 : binD o x y = some z) : ev c (.bin o a b) ρ g = some (z, g2) := by
  simp only [ev, h1, h2, h3, Option.bind_some, Option.map_some]
theorem ev_cmp {o : CmpOp} {q : Bool} (h1 : ev c a ρ g = some (x, g1)) (h2 : ev c b ρ g1 = some (y, g2)) (h3 : cmpD o x y = some q) : ev c (.cmp o a b) ρ g = some (.bool q, g2) := by
  simp only [ev, h1, h2, h3, Option.bind_some, Option.map_some]
theorem ev_ix (h1 : ev c a ρ g = some (x, g1)) (h2 : ev c b ρ g1 = some (y, g2)) (h3 : ixD x y = some z) : ev c (.ix a b) ρ g = some (z, g2) := by
  simp only [ev, h1, h2, h3, Option.bind_some, Option.map_some]
theorem evO_no : evO c .no ρ g = some (none, g) := rfl
theorem evO_some {i : Int} (hn : isNo e = false) (h : ev c e ρ g = some (.int i, g1)) : evO c e ρ g = some (some i, g1) := by
  unfold evO
  split
  · cases hn
  · rw [h]
    rfl
theorem ev_sl {lo hi : E} {l u : Option Int} (h1 : ev c a ρ g = some (x, g1)) (h2 : evO c lo ρ g1 = some (l, g2)) (h3 : evO c hi ρ g2 = some (u, g3)) (h4 : slD x l u = some z) : ev c (.sl a lo hi) ρ g = some (z, g3) := by
  rw [ev, h1]
  show (evO c lo ρ g1).bind _ = _
  rw [h2]
  show (evO c hi ρ g2).bind _ = _
  rw [h3]
  show (slD x l u).map _ = _
  rw [h4]
  rfl
theorem ev_not {q : Bool} (h1 : ev c a ρ g = some (.bool q, g1)) : ev c (.not a) ρ g = some (.bool (!q), g1) := by
  simp only [ev, h1, Option.bind_some]
theorem ev_and1 (h1 : ev c a ρ g = some (.bool true, g1)) (h2 : ev c b ρ g1 = some (x, g2)) : ev c (.and a b) ρ g = some (x, g2) := by
  simp only [ev, h1, Option.bind_some]
  exact h2
theorem ev_and0 (h1 : ev c a ρ g = some (.bool false, g1)) : ev c (.and a b) ρ g = some (.bool false, g1) := by
  simp only [ev, h1, Option.bind_some]
theorem ev_or0 (h1 : ev c a ρ g = some (.bool false, g1)) (h2 : ev c b ρ g1 = some (x, g2)) : ev c (.or a b) ρ g = some (x, g2) := by
  simp only [ev, h1, Option.bind_some]
  exact h2
theorem ev_or1 (h1 : ev c a ρ g = some (.bool true, g1)) : ev c (.or a b) ρ g = some (.bool true, g1) := by
  simp only [ev, h1, Option.bind_some]
theorem ev_ite {t : E} {q : Bool} (h1 : ev c t ρ g = some (.bool q, g1)) (h2 : (if q = true then ev c a ρ g1 else ev c b ρ g1) = some (x, g2)) : ev c (.ite t a b) ρ g = some (x, g2) := by
  simp only [ev, h1, Option.bind_some]
  cases q <;> exact h2
theorem evs_cons {l : Es} {ds : List D} (h1 : ev c e ρ g = some (x, g1)) (h2 : evs c l ρ g1 = some (ds, g2)) : evs c (.cons e l) ρ g = some (x :: ds, g2) := by
  simp only [evs, h1, h2, Option.bind_some, Option.map_some]
theorem evs_nil : evs c .nil ρ g = some ([], g) := by simp only [evs]
theorem ev_lst {l : Es} {ds : List D} (h : evs c l ρ g = some (ds, g1)) (hz : ds.length ≤ 1000000) : ev c (.lst l) ρ g = some (.list ds, g1) := by
  simp only [ev, h, Option.bind_some]
  rw [if_pos (by have := line24; omega)]
theorem ev_tup {l : Es} {ds : List D} (h : evs c l ρ g = some (ds, g1)) (hz : ds.length ≤ 1000000) : ev c (.tup l) ρ g = some (.tuple ds, g1) := by
  simp only [ev, h, Option.bind_some]
  rw [if_pos (by have := line24; omega)]
theorem ev_rev (h1 : ev c a ρ g = some (x, g1)) (h3 : revD x = some z) : ev c (.rev a) ρ g = some (z, g1) := by
  simp only [ev, h1, h3, Option.bind_some, Option.map_some]
end
end PV
set_option maxHeartbeats 1000000
namespace PV
open PySem PySem.Spec PyProof.Rows L2
/-! ### the random numbers -/
def Good (t : Int) (r : Rl) : Prop := 0 ≤ r.turn ∧ r.turn ≤ t ∧ r.far.length ≤ 63
theorem Good.mono {t u : Int} {r : Rl} (h : Good t r) (k : t ≤ u) : Good u r := ⟨h.1, Int.le_trans h.2.1 k, h.2.2⟩
theorem rillOf_good (ns : List Int) : Good 0 (rillOf ns) := by
  refine ⟨Int.le_refl _, Int.le_refl _, ?_⟩
  show (List.filter _ _).length ≤ 63
  refine Nat.le_trans (List.length_filter_le _ _) ?_
  rw [List.length_map, List.length_take]
  omega
theorem draw_ok {t : Int} {r : Rl} {many : Int} (h : Good t r) (ht : t ≤ 1000000000) (h0 : 0 < many) (h1 : many < 1073741824) : ∃ v r', drawR r many = some (v, r') ∧ 0 ≤ v ∧ v < many ∧ Good (t + 1) r' := by
  obtain ⟨far, flow, turn⟩ := r
  obtain ⟨g1, g2, g3⟩ := h
  unfold drawR
  rw [if_pos ⟨h0, h1⟩]
  cases far with
  | nil =>
    dsimp only at g1 g2 ⊢
    rw [if_pos ⟨g1, by omega⟩]
    refine ⟨_, _, rfl, Int.emod_nonneg _ (by omega), Int.emod_lt_of_pos _ h0, ?_, ?_, Nat.zero_le _⟩
    · show 0 ≤ turn + 1
      omega
    · show turn + 1 ≤ t + 1
      omega
  | cons x xs =>
    dsimp only at g1 g2 g3 ⊢
    rw [List.length_cons] at g3
    rw [if_pos (by rw [List.length_cons]; omega)]
    refine ⟨_, _, rfl, Int.emod_nonneg _ (by omega), Int.emod_lt_of_pos _ h0, g1, by show turn ≤ t + 1; omega, ?_⟩
    show (if many ≤ x then x / many :: xs else xs).length ≤ 63
    split
    · rw [List.length_cons]; omega
    · omega
theorem run_draw {fds : List Fd} {nat : Nv} {i n : Nat} (hn : nat i = some drawN) {t : Int} {r : Rl} {many : Int} (h : Good t r) (ht : t ≤ 1000000000) (h0 : 0 < many) (h1 : many < 1073741824) :
    ∃ v r', run fds nat n i [.rill, .d (.int many)] (some r) = some (.int v, some r') ∧ 0 ≤ v ∧ v < many ∧ Good (t + 1) r' := by
  obtain ⟨v, r', e, q⟩ := draw_ok h ht h0 h1
  refine ⟨v, r', ?_, q⟩
  rw [run_nat hn]
  show (drawR r many).map _ = _
  rw [e]
  rfl
section
variable {c : Cal} {ρ : List Sl} {g g1 g2 : G}
theorem ev_comp {e : E} {t : Tg} {it : PV.It} {l r : List D} (h : evIt c it ρ g = some (l, g1)) (hc : compL (fun x g => (bindT t x (wipeR ρ (tgIx t))).bind fun ρ' => (ev c e ρ' g).map fun (d, g) => (some d, g)) l g1 = some (r, g2)) (hz : r.length ≤ 1000000) :
    ev c (.cmpr e t it .no) ρ g = some (.list r, g2) := by
  rw [ev, h]
  dsimp only [Option.bind_some]
  rw [hc]
  show (if r.length ≤ sizeLine then _ else _) = _
  rw [if_pos (by have := line24; omega)]
theorem comp_inv {f : D → G → Option (Option D × G)} {p : D → Prop} : ∀ {l : List D} {g : G} (Iv : List D → G → Prop), Iv l g → (∀ x r g, Iv (x :: r) g → ∃ d g', f x g = some (some d, g') ∧ p d ∧ Iv r g') →
    ∃ ds g', compL f l g = some (ds, g') ∧ ds.length = l.length ∧ (∀ d ∈ ds, p d) ∧ Iv [] g'
  | [], g, Iv, h, _ => ⟨[], g, rfl, rfl, (fun _ h => nomatch h), h⟩
  | x :: l, g, Iv, h, st => by
    obtain ⟨d, g1, e1, hp, h1⟩ := st x l g h
    obtain ⟨ds, g2, e2, hl, hd, h2⟩ := comp_inv Iv h1 st
    refine ⟨d :: ds, g2, ?_, by rw [List.length_cons, hl, List.length_cons], fun y hy => ?_, h2⟩
    · rw [compL, e1]
      show (compL f l g1).bind _ = _
      rw [e2]
      rfl
    · rcases List.mem_cons.mp hy with rfl | hy
      · exact hp
      · exact hd y hy
end
end PV
set_option maxHeartbeats 2000000
namespace PV
open PySem PySem.Spec PyProof.Rows L2
def topS (i : Nat) : Stmt := PySem.Challenge.pw_wordstems_k57_whole_piece_counts.main.body.getD i (.Pass ⟨0, 0, 0, 0⟩)
abbrev sRill : Stmt := topS 14
abbrev sDraw : Stmt := topS 15
theorem scDraw : FnScope ["rill", "many", "far", "digits", "turn", "mixed"] ["rill", "many"] (defScope sDraw) := ⟨rfl, rfl, rfl, by decide +kernel, rfl, by decide +kernel, by decide +kernel⟩
theorem scRill : FnScope ["script", "cells", "flow", "cell"] ["script"] (defScope sRill) := ⟨rfl, rfl, rfl, by decide +kernel, rfl, by decide +kernel, by decide +kernel⟩
theorem boot_int0 : bootBuiltins "int" = some (.type "int") := by decide +kernel
theorem boot_abs0 : bootBuiltins "abs" = some (.builtin "abs") := by decide +kernel
theorem draw_fn {pr : Program} {w : World} {K : PySem.W.Frag} {mg : PySem.Str → Option Value} {base : Heap} {f : Addr} {fdt : FuncData} {i : Nat} (F : Fun K "_law_draw" "_law_draw" sDraw f fdt) (mi : mg "int" = none) :
    FnG pr w K mg base 1 f fdt ["rill", "many"] (spF nmR K (fun _ => drawN) 2 i) := by
  refine fng_of F scDraw (fun vs H Q h => spF_len h) fun cdv A outer s H vs Q hr hg h => ?_
  obtain ⟨F1, R, g, as, d, g', sF, rf, ri, ha, hl, hd, q⟩ := h
  obtain ⟨many, r, v, r', rfl, rfl, hd2, rfl, rfl⟩ := drawN_inv hd
  clear hd
  obtain ⟨⟨a, b⟩, rfl, rfl⟩ := args2 ha
  have ne := rill_ne ri
  have hu : (A.deeper (envOfC "_law_draw" (defScope sDraw) s.heap.objs.size f cdv)).units + 64 < cLine := hr.units
  have hu1 : (A.deeper (envOfC "_law_draw" (defScope sDraw) s.heap.objs.size f cdv)).units + 1 < cLine := by omega
  refine ⟨_, pss_cons (ps_set (i := 2) scDraw.nd rfl (.inl rfl) (pe_dget hu1 (pv 0) pe_str (fun _ _ => rfl)))
    (pss_cons (ps_if (pt_cmpR (op_neD hu) (pv 2) (pe_lst pa_nil) (nomark _))
      (pss_cons (ps_set (i := 3) scDraw.nd rfl (.inl rfl) (pe_bm PySem.F.plainAttrs_list PySem.F.slot_list_pop PySem.F.type_list_pop mt_popAt (pv 2) (pa_cons pe_int pa_nil)))
      (pss_cons (ps_if (pt_cmpR op_ge (pv 3) (pv 1) (nomark _)) (pss_one (ps_expr (pe_bm PySem.F.plainAttrs_list PySem.F.slot_list_insert PySem.F.type_list_insert mt_insert (pv 2) (pa_cons pe_int (pa_cons (pe_op op_fdiv (pv 3) (pv 1)) pa_nil))))) pss_nil)
      (pss_one (ps_ret (pe_op op_mod (pe_callTy call_int1 (by rfl) mi boot_int0 (pa_cons (pv 3) pa_nil)) (pv 1)))))) pss_nil)
    (pss_cons (ps_dput hu1 (pv 0) pe_str (pe_op op_add (pe_dget hu1 (pv 0) pe_str (fun _ _ => rfl)) pe_int) rfl)
    (pss_cons (ps_set (i := 4) scDraw.nd rfl (.inl rfl) (pe_dget hu1 (pv 0) pe_str (fun _ _ => rfl)))
    (pss_cons (ps_set (i := 5) scDraw.nd rfl (.inl rfl) (pe_op op_mod (pe_callTy call_int1 (by rfl) mi boot_int0 (pa_cons (pe_op op_add (pe_op op_add (pe_op op_mul (pe_dget hu1 (pv 0) pe_str (fun _ _ => rfl)) pe_int) (pe_op op_mul (pe_op op_mul (pv 4) (pv 4)) pe_int)) (pe_op op_mul pe_int (pv 4))) pa_nil)) pe_int))
    (pss_cons (ps_set (i := 5) scDraw.nd rfl (.inl rfl) (pe_op op_mod (pe_callTy call_int1 (by rfl) mi boot_int0 (pa_cons (pe_op op_add (pe_op op_mul (pv 5) pe_int) (pe_op op_fdiv (pv 5) pe_int)) pa_nil)) pe_int))
    (pss_cons (ps_dput hu1 (pv 0) pe_str (pv 5) rfl)
    (pss_one (ps_ret (pe_op op_mod (pe_callTy call_int1 (by rfl) mi boot_int0 (pa_cons (pe_op op_fdiv (pv 5) pe_int) pa_nil)) (pv 1)))))))))), ?_⟩
  obtain ⟨far, flow, turn⟩ := r
  have z1 := ri.1
  have z2 := ri.2
  have nb : ∀ {t : Addr}, H t = none → t ≠ b ∧ t ≠ a := fun {t} nt => ⟨fun e => by rw [e, z2] at nt; (cases nt), fun e => by rw [e, z1] at nt; (cases nt)⟩
  have nbv : ∀ {t : Addr}, H t = none → b ≠ t ∧ a ≠ t := fun nt => ⟨fun e => (nb nt).1 e.symm, fun e => (nb nt).2 e.symm⟩
  unfold drawR at hd2
  split at hd2 <;> first | (cases hd2; done) | skip
  rename_i hm
  -- far = rill['far']
  refine ⟨.ref a, rfl, a, .ref b, rfl, .inl ⟨_, .inr "far", .inl z1, rfl, rv1.symm⟩, ?_⟩
  -- if far != []
  refine ⟨.ref b, rfl, Nat.zero_le _, fun t nt => ⟨.list (far.map .int), .list [], .lst (SqL.of (by rw [upd_ne (nbv nt).1]; exact z2)) (dpInts far), .lst (SqL.of upd_same) .nil, shaped_ints far, rfl, _, rfl, ?_⟩⟩
  rw [eqv_nil]
  have y1 : (upd H t (.lst [])) a = H a := upd_ne (nbv nt).2
  have y2 : (upd H t (.lst [])) b = H b := upd_ne (nbv nt).1
  dsimp only at hd2
  cases far with
  | cons x xs =>
    dsimp only at hd2
    split at hd2 <;> first | (cases hd2; done) | skip
    rename_i hlen
    cases hd2
    dsimp only
    rw [if_pos (show (!(x :: xs).isEmpty) = true from rfl)]
    -- digits = far.pop(0)
    refine ⟨.ref b, rfl, .inl ⟨rfl, _, SqL.of (y2.trans z2)⟩, b, _, 0, 0, .int x, rfl, rfl, y2.trans z2, by decide, by decide, seqI0 (by simp), rfl, ?_⟩
    -- if digits >= many
    refine ⟨.int x, rfl, .int many, rfl, x, many, rfl, rfl, _, rfl, ?_⟩
    have w1 : (upd (upd H t (.lst [])) b (.lst (xs.map V.int))) a = H a := by rw [upd_ne ne]; exact y1
    have w2 : (upd (upd H t (.lst [])) b (.lst (xs.map V.int))) b = some (.lst (xs.map V.int)) := upd_same
    have fin : ∀ (H' : Hp) (l : List Int), (∀ c, c ≠ b → H' c = (upd H t (.lst [])) c) → H' b = some (.lst (l.map V.int)) → Ext F1 H (some (a, b)) F1 H' (some (a, b)) ∧ RillAt nmR (some (a, b)) (some ⟨l, flow, turn⟩) H' := fun H' l k1 k2 => by
      refine ⟨ext_rill sF rf fun c n o e => ?_, (k1 a ne).trans (y1.trans z1), k2⟩
      have n1 : c ≠ b := fun q => n (q ▸ inR2)
      rw [k1 c n1, upd_ne (ne_of_none e nt)]
      exact e
    by_cases hge : many ≤ x
    · dsimp only
      rw [if_pos (decide_eq_true hge)]
      refine ⟨.ref b, rfl, .inl ⟨rfl, _, SqL.of w2⟩, .int x, rfl, .int many, rfl, x, many, rfl, rfl, ⟨hm.1, hm.2⟩, b, _, 0, .int (x / many), rfl, rfl, w2, ?_, by decide, by decide, ?_⟩
      · rw [List.length_map]
        rw [List.length_cons] at hlen
        have := line24
        omega
      · refine ⟨.int x, rfl, .inl ⟨x, rfl, .int many, rfl, x, many, rfl, rfl, hm.1, ?_⟩⟩
        obtain ⟨e1, e2⟩ := fin (upd (upd (upd H t (.lst [])) b (.lst (xs.map V.int))) b (.lst ((x / many :: xs).map V.int))) (x / many :: xs) (fun c n => by rw [upd_ne n, upd_ne n]) upd_same
        rw [if_pos hge] at q
        exact q _ _ _ _ e1 e2 (.int _)
    · dsimp only
      rw [if_neg (by rw [decide_eq_false hge]; exact Bool.false_ne_true)]
      refine ⟨.int x, rfl, .inl ⟨x, rfl, .int many, rfl, x, many, rfl, rfl, hm.1, ?_⟩⟩
      obtain ⟨e1, e2⟩ := fin (upd (upd H t (.lst [])) b (.lst (xs.map V.int))) xs (fun c n => by rw [upd_ne n]) upd_same
      rw [if_neg hge] at q
      exact q _ _ _ _ e1 e2 (.int _)
  | nil =>
    dsimp only at hd2
    split at hd2 <;> first | (cases hd2; done) | skip
    rename_i ht
    cases hd2
    dsimp only
    rw [if_neg (show ¬ (!([] : List Int).isEmpty) = true from by decide)]
    have w1 : (upd H t (.lst [])) a = some (.dK (rcells (.ref b) (.int flow) (.int turn))) := y1.trans z1
    have w2 : (upd H t (.lst [])) b = some (.lst []) := y2.trans z2
    -- rill['turn'] = rill['turn'] + 1
    refine ⟨.ref a, rfl, a, .int turn, rfl, .inl ⟨_, .inr "turn", .inl w1, rfl, rv3.symm⟩, turn, 1, rfl, rfl, .ref a, rfl, a, upd (upd H t (.lst [])) a (.dK (rcells (.ref b) (.int flow) (.int (turn + 1)))), rfl, .inl ⟨_, .inr "turn", w1, rfl, three _ _ _, by rw [pk3]⟩, ?_⟩
    -- turn = rill['turn']
    have v1 : (upd (upd H t (.lst [])) a (.dK (rcells (.ref b) (.int flow) (.int (turn + 1))))) a = some (.dK (rcells (.ref b) (.int flow) (.int (turn + 1)))) := upd_same
    refine ⟨.ref a, rfl, a, .int (turn + 1), rfl, .inl ⟨_, .inr "turn", .inl v1, rfl, rv3.symm⟩, ?_⟩
    -- mixed = ..
    refine ⟨.ref a, rfl, a, .int flow, rfl, .inl ⟨_, .inr "flow", .inl v1, rfl, rv2.symm⟩, ?_⟩
    have ht1 : (-(2 ^ 64) : Int) < turn + 1 ∧ turn + 1 < 2 ^ 64 := by omega
    refine ⟨flow, 69621, rfl, rfl, .inr (by decide), .int (turn + 1), rfl, .int (turn + 1), rfl, turn + 1, turn + 1, rfl, rfl, .inl ht1, _, 7, rfl, rfl, .inr (by decide), _, _, rfl, rfl, .int (turn + 1), rfl, 104729, turn + 1, rfl, rfl, .inl (by decide), _, _, rfl, rfl, .inl ⟨_, rfl, _, 4294967279, rfl, rfl, lt0 (by decide), ?_⟩⟩
    refine ⟨_, rfl, _, 48271, rfl, rfl, .inr (by decide), _, rfl, _, 65536, rfl, rfl, cdiv (by decide), _, _, rfl, rfl, .inl ⟨_, rfl, _, 4294967291, rfl, rfl, lt0 (by decide), ?_⟩⟩
    -- rill['flow'] = mixed
    refine ⟨_, rfl, .ref a, rfl, a, upd (upd (upd H t (.lst [])) a (.dK (rcells (.ref b) (.int flow) (.int (turn + 1))))) a (.dK (rcells (.ref b) (.int (mixOf flow (turn + 1))) (.int (turn + 1)))), rfl, .inl ⟨_, .inr "flow", v1, rfl, three _ _ _, by rw [pk2]; rfl⟩, ?_⟩
    refine ⟨_, rfl, _, 1024, rfl, rfl, cdiv (by decide), .inl ⟨_, rfl, .int many, rfl, _, many, rfl, rfl, hm.1, ?_⟩⟩
    refine q _ _ _ _ (ext_rill sF rf fun c n o e => ?_) ⟨upd_same, ?_⟩ (.int _)
    · have n1 : c ≠ a := fun q => n (q ▸ inR1)
      rw [upd_ne n1, upd_ne n1, upd_ne (ne_of_none e nt)]
      exact e
    · rw [upd_ne ne.symm, upd_ne ne.symm]
      exact w2
theorem blk_ok0 {st : Stmt} : True := trivial
theorem rill_fn {pr : Program} {w : World} {K : PySem.W.Frag} {mg : PySem.Str → Option Value} {base : Heap} {f : Addr} {fdt : FuncData} (F : Fun K "_law_rill" "_law_rill" sRill f fdt) (mi : mg "int" = none) (ma : mg "abs" = none) (ml : mg "len" = none) :
    FnG pr w K mg base 1 f fdt ["script"] (spR nmR K rillOf) := by
  refine fng_of F scRill (fun vs H Q h => ?_) fun cdv A outer s H vs Q hr hg h => ?_
  · obtain ⟨F1, a, ns, _, rfl, _⟩ := h
    rfl
  obtain ⟨F1, a, ns, sF, rfl, sc, q⟩ := h
  refine ⟨_, pss_cons (ps_par (i := 1) (j := 2) rfl scRill.nd rfl rfl (by decide) (by rfl) (by rfl)
      (pa_cons (pe_lc rfl scRill.nd (pi_list (pe_slice sl_list (pv 0) po_none (po_some pe_int))) (blkOk_by (own := [("cell", 3)]) (by show blkC ["script", "cells", "flow", "cell"] (defScope sRill) _ [("cell", 3)] = true; decide +kernel)) (fun s H C cl fp => pg_name (i := 3) scRill.nd rfl (.inl rfl)) (fun s H C cl fp => pts_nil)
          (fun s H C cl fp => pe_op op_add (pe_op op_mul pe_int (pe_callB call_abs (by rfl) ma boot_abs0 (pa_cons (pv 3) pa_nil))) (pe_callTy call_int1 (by rfl) mi boot_int0 (pa_cons (pe_cmpR op_lt (pv 3) pe_int (nomark _)) pa_nil))))
        (pa_cons (pe_op op_add pe_int (pe_callB call_len_seq (by rfl) ml PySem.boot_len (pa_cons (pv 0) pa_nil))) pa_nil)) (swp_ok rfl rfl (by show swp (defScope sRill) _ _ = _; decide +kernel)))
    (pss_cons (ps_for PassesOwn.never rfl (pi_list (pv 1)) (pg_name (i := 3) scRill.nd rfl (.inl rfl))
        (pss_one (ps_set (i := 2) scRill.nd rfl (.inl rfl) (pe_op op_mod (pe_callTy call_int1 (by rfl) mi boot_int0 (pa_cons (pe_op op_add (pe_op op_add (pe_op op_mul (pv 2) pe_int) (pv 3)) pe_int) pa_nil)) pe_int))))
    (pss_one (ps_ret (pe_disp (pps_cons pe_str (pe_lc rfl scRill.nd (pi_list (pv 1)) (blkOk_by (own := [("cell", 3)]) (by show blkC ["script", "cells", "flow", "cell"] (defScope sRill) _ [("cell", 3)] = true; decide +kernel)) (fun s H C cl fp => pg_name (i := 3) scRill.nd rfl (.inl rfl)) (fun s H C cl fp => pts_one (pt_cmpR op_ge (pv 3) (pe_op op_pow pe_int pe_int) (nomark _))) (fun s H C cl fp => pv 3))
        (pps_cons pe_str (pv 2) (pps_cons pe_str pe_int pps_nil))) rfl rfl (by decide) (by decide))))), ?_⟩
  have sq := sc.sq
  have len := ns.length_take (i := 63)
  generalize hcs : (ns.take 63).map cellOf = cs
  have hcl : cs.length ≤ 63 := by rw [← hcs, List.length_map]; omega
  -- cells, flow = ..
  refine ⟨.ref a, rfl, 63, rfl, a, ns.map V.int, rfl, sq, fun c nc => ⟨c, rfl, ⟨_, SqL.of upd_same⟩, fun L nL => lcI (ns := ns.take 63) (f := fun n => some (cellOf n)) (j := 3) nL (.inl (.inl (by rw [upd_same, cut63]))) (by omega) (fun n Hc W w => ?_) ?_⟩⟩
  · unfold tYes
    dsimp only
    rw [if_pos rfl]
    have w2 : W (some (.int (cellOf n))) Hc := w
    have e : cellOf n = 2 * (if n < 0 then -n else n) + (if decide (n < 0) = true then 1 else 0) := by unfold cellOf; simp
    rw [e] at w2
    exact ⟨.int n, rfl, n, rfl, 2, _, rfl, rfl, .inl (by decide), .int n, rfl, n, 0, rfl, rfl, .inr ⟨_, rfl, _, _, rfl, rfl, w2⟩⟩
  have hfm : (ns.take 63).filterMap (fun n => some (cellOf n)) = cs := by rw [← hcs, List.filterMap_eq_map']
  rw [hfm]
  have aL : ∀ {x : Addr} {o : HO}, H x = some o → (upd (upd H c (.lst (cutV (ns.map V.int) none (some 63)))) L (.lst (cs.map V.int))) x = some o := fun {x o} e => by
    have nL' : x ≠ L := fun q => by
      subst q
      rw [upd_ne (ne_of_none e nc)] at nL
      rw [e] at nL; cases nL
    rw [upd_ne nL', upd_ne (ne_of_none e nc)]
    exact e
  generalize hH2 : upd (upd H c (.lst (cutV (ns.map V.int) none (some 63)))) L (.lst (cs.map V.int)) = H2 at aL
  have hL : H2 L = some (.lst (cs.map V.int)) := by rw [← hH2]; exact upd_same
  have sq2 : SqL K H2 a (ns.map V.int) := by
    rcases sq with z | z
    · rcases z with z | ⟨o, z⟩
      · exact .inl (.inl (aL z))
      · exact .inl (.inr ⟨o, aL z⟩)
    · exact .inr z
  refine ⟨.ref a, rfl, a, ns.map V.int, rfl, .inl sq2, 1625742, ns.length, rfl, by rw [List.length_map], _, _, rfl, ?_⟩
  -- for cell in cells
  refine ⟨.ref L, rfl, L, rfl, ⟨_, SqL.of hL⟩, for_it (walk_list (xs := cs.map V.int)) (fun i σ Hc => ∃ y3, σ = [some (.ref a), some (.ref L), some (.int (flowOf (1625742 + (ns.length : Int)) (cs.take i))), y3] ∧ Hc = H2) ⟨none, rfl, rfl⟩ (fun i σ Hc _ ⟨_, _, e⟩ => by rw [e]; exact SqL.of hL) (fun i x σ Hc Hc2 hi ⟨y3, e1, e2⟩ y => ?_) fun σ Hc ⟨y3, e1, e2⟩ => ?_⟩
  · obtain ⟨rfl, hx⟩ := y
    subst e1 e2
    rw [List.length_map] at hi
    rw [List.getElem?_map, List.getElem?_eq_getElem hi] at hx
    cases hx
    refine ⟨_, rfl, _, 48271, rfl, rfl, .inr (by decide), .int cs[i], rfl, _, _, rfl, rfl, _, 11, rfl, rfl, .inl ⟨_, rfl, _, 4294967291, rfl, rfl, lt0 (by decide), some (.int cs[i]), ?_, rfl⟩⟩
    rw [List.take_succ_eq_append_getElem hi, flowOf_snoc]
    rfl
  · subst e1 e2
    rw [List.length_map, List.take_length]
    -- return {..}
    intro p np
    have hLp : (upd Hc p (.dK [])) L = some (.lst (cs.map V.int)) := by
      have : L ≠ p := fun q => by subst q; rw [hL] at np; cases np
      rw [upd_ne this]
      exact hL
    refine ⟨.ref L, rfl, L, rfl, ⟨_, SqL.of hLp⟩, fun b nb => lcI (ns := cs) (f := fun n => if 10 ^ 15 ≤ n then some n else none) (j := 3) nb (SqL.of hLp) (by omega) (fun n Hc W w => ?_) ?_⟩
    · refine ⟨.int n, rfl, 10, 15, rfl, rfl, (show CPow 10 15 from ⟨by decide, by decide, by decide⟩), n, _, rfl, rfl, _, rfl, ?_⟩
      by_cases hn : (10 : Int) ^ (15 : Int).toNat ≤ n
      · dsimp only
        rw [if_pos (decide_eq_true hn)]
        have hn' : (10 : Int) ^ 15 ≤ n := hn
        rw [if_pos hn'] at w
        exact ⟨.int n, rfl, w⟩
      · dsimp only
        rw [if_neg (by rw [decide_eq_false hn]; exact Bool.false_ne_true)]
        have hn' : ¬ (10 : Int) ^ 15 ≤ n := hn
        rw [if_neg hn'] at w
        exact w
    · have hfl : cs.filterMap (fun n => if 10 ^ 15 ≤ n then some n else none) = cs.filter fun x => decide (10 ^ 15 ≤ x) := by
        rw [← List.filterMap_eq_filter]
        congr 1
        funext n
        by_cases hn : (10 : Int) ^ 15 ≤ n
        · simp [Option.guard, hn]
        · simp [Option.guard, hn]
      rw [hfl]
      have pb : b ≠ p := fun q => by
        subst q
        rw [upd_same] at nb
        cases nb
      refine ⟨_, rfl, by rw [upd_ne pb.symm, upd_same], rcells (.ref b) (.int (flowOf (1625742 + (ns.length : Int)) cs)) (.int 0), rfl, by show 3 ≤ 15; decide, ?_⟩
      have nbc : Hc b = none := by rw [upd_ne pb] at nb; exact nb
      have back : ∀ {x : Addr}, Hc x = none → H x = none := fun {x} e => by
        cases q : H x with
        | none => rfl
        | some o => rw [aL q] at e; cases e
      refine q (p, b) F1 _ (ext_make sF (back np) (back nbc) fun x o e => ?_) ⟨?_, ?_⟩
      · have e2 := aL e
        have n1 : x ≠ p := ne_of_none e2 np
        have n2 : x ≠ b := ne_of_none e2 nbc
        rw [upd_ne n1, upd_ne n2, upd_ne n1]
        exact e2
      · rw [upd_same]
        unfold rillOf
        rw [hcs]
        rfl
      · rw [upd_ne pb, upd_same]
        unfold rillOf
        rw [hcs]
end PV
set_option maxHeartbeats 4000000
namespace PV
open PySem PySem.Spec PyProof.Rows L2
/-! ### the defs in the small language -/
def f_each_once : Fd := ⟨(Str.ofString "each_once"), 1, [(Str.ofString "items"), (Str.ofString "found"), (Str.ofString "item")],
  (.cons (.own 1 (.lst .nil))
  (.cons (.for (.v 2) (.val (.bi "sorted" (.cons (.loc 0) .nil))) (.cons (.ife (.or (.cmp .Eq (.bor 1) (.lst .nil)) (.cmp .NotEq (.ix (.bor 1) (.neg (.con (.int 1)))) (.loc 2))) (.cons (.app 1 (.loc 2)) .nil) .nil) .nil))
  (.cons (.ret (.bi "tuple" (.cons (.bor 1) .nil)))
  .nil)))⟩
def f_pieces_of : Fd := ⟨(Str.ofString "pieces_of"), 2, [(Str.ofString "word"), (Str.ofString "size"), (Str.ofString "place")],
  (.cons (.ret (.call 0 (.cons (.cmpr (.sl (.loc 0) (.loc 2) (.bin .Add (.loc 2) (.loc 1))) (.v 2) (.rng (.cons (.bin .Add (.bin .Sub (.bi "len" (.cons (.loc 0) .nil)) (.loc 1)) (.con (.int 1))) .nil)) .no) .nil) [0]))
  .nil)⟩
def f_is_piece : Fd := ⟨(Str.ofString "is_piece"), 2, [(Str.ofString "word"), (Str.ofString "piece")],
  (.cons (.ret (.cmp .In (.loc 1) (.loc 0)))
  .nil)⟩
def f_piece_counts : Fd := ⟨(Str.ofString "piece_counts"), 1, [(Str.ofString "word"), (Str.ofString "size")],
  (.cons (.ret (.bi "tuple" (.cons (.cmpr (.bi "len" (.cons (.call 1 (.cons (.loc 0) (.cons (.loc 1) .nil)) [0, 1]) .nil)) (.v 1) (.rng (.cons (.bin .Add (.bi "len" (.cons (.loc 0) .nil)) (.con (.int 1))) .nil)) .no) .nil)))
  .nil)⟩
def f_new_pieces : Fd := ⟨(Str.ofString "new_pieces"), 1, [(Str.ofString "word"), (Str.ofString "size"), (Str.ofString "sums"), (Str.ofString "less"), (Str.ofString "more")],
  (.cons (.set (.v 2) (.cmpr (.bi "sum" (.cons (.call 3 (.cons (.sl (.loc 0) .no (.loc 1)) .nil) [0]) .nil)) (.v 1) (.rng (.cons (.bin .Add (.bi "len" (.cons (.loc 0) .nil)) (.con (.int 1))) .nil)) .no))
  (.cons (.ret (.bi "tuple" (.cons (.cmpr (.bin .Sub (.loc 4) (.loc 3)) (.t2 (.v 3) (.v 4)) (.zip (.loc 2) (.sl (.loc 2) (.con (.int 1)) .no)) .no) .nil)))
  .nil))⟩
def f_ways_on : Fd := ⟨(Str.ofString "ways_on"), 2, [(Str.ofString "word"), (Str.ofString "piece"), (Str.ofString "letter")],
  (.cons (.ret (.mt "join" (.con (.str (Str.ofString ""))) (.cons (.cmpr (.loc 2) (.v 2) (.val (.glo (Str.ofString "LETTERS") (.str (Str.ofString "abcd")))) (.call 2 (.cons (.loc 0) (.cons (.bin .Add (.loc 1) (.loc 2)) .nil)) [0, 1])) .nil)))
  .nil)⟩
def f_all_pieces : Fd := ⟨(Str.ofString "all_pieces"), 1, [(Str.ofString "word"), (Str.ofString "found"), (Str.ofString "size")],
  (.cons (.own 1 (.lst .nil))
  (.cons (.for (.v 2) (.rng (.cons (.bin .Add (.bi "len" (.cons (.loc 0) .nil)) (.con (.int 1))) .nil)) (.cons (.ext 1 (.call 1 (.cons (.loc 0) (.cons (.loc 2) .nil)) [0, 1])) .nil))
  (.cons (.frz 1 (.ret (.call 0 (.cons (.loc 1) .nil) [0])))
  .nil)))⟩
def f_forked_pieces : Fd := ⟨(Str.ofString "forked_pieces"), 1, [(Str.ofString "word"), (Str.ofString "piece")],
  (.cons (.ret (.bi "tuple" (.cons (.cmpr (.loc 1) (.v 1) (.val (.call 6 (.cons (.loc 0) .nil) [0])) (.cmp .Gt (.bi "len" (.cons (.call 5 (.cons (.loc 0) (.cons (.loc 1) .nil)) [0, 1]) .nil)) (.con (.int 1)))) .nil)))
  .nil)⟩
def f__law_draw : Fd := ⟨(Str.ofString "_law_draw"), 2, [(Str.ofString "rill"), (Str.ofString "many")], .nil⟩
def f__law_one : Fd := ⟨(Str.ofString "_law_one"), 2, [(Str.ofString "rill"), (Str.ofString "some")],
  (.cons (.ret (.ix (.loc 1) (.call 8 (.cons (.loc 0) (.cons (.bi "len" (.cons (.loc 1) .nil)) .nil)) [0, 1])))
  .nil)⟩
def f__law_letters : Fd := ⟨(Str.ofString "_law_letters"), 1, [(Str.ofString "kinds")],
  (.cons (.ret (.sl (.con (.str (Str.ofString "abcd"))) .no (.loc 0)))
  .nil)⟩
def f__law_word : Fd := ⟨(Str.ofString "_law_word"), 3, [(Str.ofString "rill"), (Str.ofString "most"), (Str.ofString "kinds"), (Str.ofString "turn"), (Str.ofString "found"), (Str.ofString "piece")],
  (.cons (.set (.v 4) (.mt "join" (.con (.str (Str.ofString ""))) (.cons (.cmpr (.call 9 (.cons (.loc 0) (.cons (.call 10 (.cons (.loc 2) .nil) [0]) .nil)) [0, 1]) (.v 3) (.rng (.cons (.call 8 (.cons (.loc 0) (.cons (.bin .Add (.loc 1) (.con (.int 1))) .nil)) [0, 1]) .nil)) .no) .nil)))
  (.cons (.ife (.and (.cmp .NotEq (.loc 4) (.con (.str (Str.ofString "")))) (.cmp .Eq (.call 8 (.cons (.loc 0) (.cons (.con (.int 3)) .nil)) [0, 1]) (.con (.int 0)))) (.cons (.set (.v 5) (.sl (.loc 4) .no (.bin .Add (.con (.int 1)) (.call 8 (.cons (.loc 0) (.cons (.bi "len" (.cons (.loc 4) .nil)) .nil)) [0, 1])))) (.cons (.set (.v 4) (.sl (.bin .Add (.bin .Mult (.loc 5) (.bin .FloorDiv (.loc 1) (.bi "len" (.cons (.loc 5) .nil)))) (.loc 4)) .no (.loc 1))) .nil)) .nil)
  (.cons (.ret (.loc 4))
  .nil)))⟩
def f__law_counted : Fd := ⟨(Str.ofString "_law_counted"), 1, [(Str.ofString "word"), (Str.ofString "found"), (Str.ofString "size"), (Str.ofString "p")],
  (.cons (.own 1 (.lst .nil))
  (.cons (.for (.v 2) (.rng (.cons (.bin .Add (.bi "len" (.cons (.loc 0) .nil)) (.con (.int 1))) .nil)) (.cons (.app 1 (.bi "len" (.cons (.bi "dict" (.cons (.cmpr (.tup (.cons (.sl (.loc 0) (.loc 3) (.bin .Add (.loc 3) (.loc 2))) (.cons (.con (.bool true)) .nil))) (.v 3) (.rng (.cons (.bin .Add (.bin .Sub (.bi "len" (.cons (.loc 0) .nil)) (.loc 2)) (.con (.int 1))) .nil)) .no) .nil)) .nil))) .nil))
  (.cons (.ret (.bi "tuple" (.cons (.bor 1) .nil)))
  .nil)))⟩
def f__law_is_right : Fd := ⟨(Str.ofString "_law_is_right"), 2, [(Str.ofString "word"), (Str.ofString "is_great"), (Str.ofString "due"), (Str.ofString "k"), (Str.ofString "totals"), (Str.ofString "new"), (Str.ofString "told"), (Str.ofString "forked"), (Str.ofString "own"), (Str.ofString "more"), (Str.ofString "end"), (Str.ofString "q"), (Str.ofString "less")],
  (.cons (.set (.v 2) (.call 12 (.cons (.loc 0) .nil) [0]))
  (.cons (.ife (.cmp .NotEq (.bi "repr" (.cons (.lst (.cons (.call 3 (.cons (.loc 0) .nil) [0]) (.cons (.call 3 (.cons (.loc 0) .nil) [0]) (.cons (.call 3 (.cons (.rev (.loc 0)) .nil) [0]) .nil)))) .nil)) (.bi "repr" (.cons (.lst (.cons (.loc 2) (.cons (.loc 2) (.cons (.loc 2) .nil)))) .nil))) (.cons (.ret (.con (.bool false))) .nil) .nil)
  (.cons (.set (.v 4) (.ite (.not (.loc 1)) (.cmpr (.bi "sum" (.cons (.call 12 (.cons (.sl (.loc 0) .no (.loc 3)) .nil) [0]) .nil)) (.v 3) (.rng (.cons (.bin .Add (.bi "len" (.cons (.loc 0) .nil)) (.con (.int 1))) .nil)) .no) (.lst .nil)))
  (.cons (.set (.v 5) (.bi "tuple" (.cons (.cmpr (.bin .Sub (.ix (.loc 4) (.bin .Add (.loc 3) (.con (.int 1)))) (.ix (.loc 4) (.loc 3))) (.v 3) (.rng (.cons (.bin .Sub (.bi "len" (.cons (.loc 4) .nil)) (.con (.int 1))) .nil)) .no) .nil)))
  (.cons (.set (.v 6) (.call 4 (.cons (.loc 0) .nil) [0]))
  (.cons (.ife (.or (.cmp .NotEq (.bi "repr" (.cons (.call 4 (.cons (.loc 0) .nil) [0]) .nil)) (.bi "repr" (.cons (.loc 6) .nil))) (.cmp .NotEq (.bin .Add (.bi "sum" (.cons (.loc 6) .nil)) (.con (.int 1))) (.bi "sum" (.cons (.loc 2) .nil)))) (.cons (.ret (.con (.bool false))) .nil) .nil)
  (.cons (.ife (.and (.not (.loc 1)) (.cmp .NotEq (.bi "repr" (.cons (.loc 6) .nil)) (.bi "repr" (.cons (.loc 5) .nil)))) (.cons (.ret (.con (.bool false))) .nil) .nil)
  (.cons (.set (.v 7) (.call 7 (.cons (.loc 0) .nil) [0]))
  (.cons (.for (.v 3) (.rng (.cons (.bi "len" (.cons (.loc 0) .nil)) .nil)) (.cons (.set (.v 9) (.bi "sum" (.cons (.cmpr (.bin .Sub (.bi "len" (.cons (.call 5 (.cons (.loc 0) (.cons (.loc 8) .nil)) [0, 1]) .nil)) (.con (.int 1))) (.v 8) (.val (.loc 7)) (.cmp .Eq (.bi "len" (.cons (.loc 8) .nil)) (.loc 3))) .nil))) (.cons (.set (.v 10) (.sl (.loc 0) (.bin .Sub (.bi "len" (.cons (.loc 0) .nil)) (.loc 3)) .no)) (.cons (.set (.v 12) (.bi "int" (.cons (.cmp .Eq (.bi "len" (.cons (.cmpr (.loc 11) (.v 11) (.rng (.cons (.bin .Add (.bin .Sub (.bi "len" (.cons (.loc 0) .nil)) (.loc 3)) (.con (.int 1))) .nil)) (.cmp .Eq (.sl (.loc 0) (.loc 11) (.bin .Add (.loc 11) (.loc 3))) (.loc 10))) .nil)) (.con (.int 1))) .nil))) (.cons (.ife (.cmp .NotEq (.bin .Sub (.ix (.loc 2) (.bin .Add (.loc 3) (.con (.int 1)))) (.ix (.loc 2) (.loc 3))) (.bin .Sub (.loc 9) (.loc 12))) (.cons (.ret (.con (.bool false))) .nil) .nil) .nil)))))
  (.cons (.ret (.con (.bool true)))
  .nil))))))))))⟩
def f_law : Fd := ⟨(Str.ofString "law"), 1, [(Str.ofString "script"), (Str.ofString "rill"), (Str.ofString "turn")],
  (.cons (.mkr 1 0 rillOf)
  (.cons (.for (.v 2) (.rng (.cons (.con (.int 3)) .nil)) (.cons (.ife (.not (.call 13 (.cons (.call 11 (.cons (.loc 1) (.cons (.call 9 (.cons (.loc 1) (.cons (.lst (.cons (.con (.int 3)) (.cons (.con (.int 8)) (.cons (.con (.int 12)) (.cons (.con (.int 16)) .nil))))) .nil)) [0, 1]) (.cons (.bin .Add (.con (.int 1)) (.call 8 (.cons (.loc 1) (.cons (.con (.int 4)) .nil)) [0, 1])) .nil))) [0, 1, 2]) (.cons (.con (.bool false)) .nil)) [0, 1])) (.cons (.ret (.con (.bool false))) .nil) .nil) .nil))
  (.cons (.ife (.cmp .Eq (.call 8 (.cons (.loc 1) (.cons (.con (.int 8)) .nil)) [0, 1]) (.con (.int 0))) (.cons (.ret (.call 13 (.cons (.call 11 (.cons (.loc 1) (.cons (.con (.int 40)) (.cons (.bin .Add (.con (.int 1)) (.call 8 (.cons (.loc 1) (.cons (.con (.int 4)) .nil)) [0, 1])) .nil))) [0, 1, 2]) (.cons (.con (.bool true)) .nil)) [0, 1])) .nil) .nil)
  (.cons (.ret (.call 13 (.cons (.con (.str (Str.ofString ""))) (.cons (.con (.bool false)) .nil)) [0, 1]))
  .nil))))⟩
def fdsL : List Fd := [f_each_once, f_pieces_of, f_is_piece, f_piece_counts, f_new_pieces, f_ways_on, f_all_pieces, f_forked_pieces, f__law_draw, f__law_one, f__law_letters, f__law_word, f__law_counted, f__law_is_right, f_law]
def PL : PInfo := ⟨fdsL, [((Str.ofString "LETTERS"), (.str (Str.ofString "abcd")))], [(Str.ofString "abs"), (Str.ofString "dict"), (Str.ofString "int"), (Str.ofString "len"), (Str.ofString "range"), (Str.ofString "repr"), (Str.ofString "sorted"), (Str.ofString "sum"), (Str.ofString "tuple"), (Str.ofString "zip")], nmR, [(3, [(Str.ofString "word")], [0]), (4, [(Str.ofString "word")], [0])], some ("_law_rill", rillOf)⟩
def natL : Nv := fun i => if i = 8 then some drawN else none
abbrev st_each_once : Stmt := topS 1
theorem bd_each_once : BndT (Str.ofString "each_once") st_each_once [(Str.ofString "items")] := fun _ _ _ _ _ _ us hl => match us, hl with | [_], _ => rfl
theorem sc_each_once : FnScope f_each_once.N (f_each_once.N.take f_each_once.np) (defScope st_each_once) := ⟨rfl, rfl, rfl, by decide +kernel, rfl, by decide +kernel, by decide +kernel⟩
theorem ok_each_once : CkSs PL f_each_once.N (defScope st_each_once) f_each_once.body (defBody st_each_once) := chkSs_ok _ (by decide +kernel)
abbrev st_pieces_of : Stmt := topS 4
theorem bd_pieces_of : BndT (Str.ofString "pieces_of") st_pieces_of [(Str.ofString "word"), (Str.ofString "size")] := fun _ _ _ _ _ _ us hl => match us, hl with | [_, _], _ => rfl
theorem sc_pieces_of : FnScope f_pieces_of.N (f_pieces_of.N.take f_pieces_of.np) (defScope st_pieces_of) := ⟨rfl, rfl, rfl, by decide +kernel, rfl, by decide +kernel, by decide +kernel⟩
theorem ok_pieces_of : CkSs PL f_pieces_of.N (defScope st_pieces_of) f_pieces_of.body (defBody st_pieces_of) := chkSs_ok _ (by decide +kernel)
abbrev st_is_piece : Stmt := topS 5
theorem bd_is_piece : BndT (Str.ofString "is_piece") st_is_piece [(Str.ofString "word"), (Str.ofString "piece")] := fun _ _ _ _ _ _ us hl => match us, hl with | [_, _], _ => rfl
theorem sc_is_piece : FnScope f_is_piece.N (f_is_piece.N.take f_is_piece.np) (defScope st_is_piece) := ⟨rfl, rfl, rfl, by decide +kernel, rfl, by decide +kernel, by decide +kernel⟩
theorem ok_is_piece : CkSs PL f_is_piece.N (defScope st_is_piece) f_is_piece.body (defBody st_is_piece) := chkSs_ok _ (by decide +kernel)
abbrev st_piece_counts : Stmt := topS 7
theorem bd_piece_counts : BndT (Str.ofString "piece_counts") st_piece_counts [(Str.ofString "word")] := fun _ _ _ _ _ _ us hl => match us, hl with | [_], _ => rfl
theorem sc_piece_counts : FnScope f_piece_counts.N (f_piece_counts.N.take f_piece_counts.np) (defScope st_piece_counts) := ⟨rfl, rfl, rfl, by decide +kernel, rfl, by decide +kernel, by decide +kernel⟩
theorem ok_piece_counts : CkSs PL f_piece_counts.N (defScope st_piece_counts) f_piece_counts.body (defBody st_piece_counts) := chkSs_ok _ (by decide +kernel)
abbrev st_new_pieces : Stmt := topS 8
theorem bd_new_pieces : BndT (Str.ofString "new_pieces") st_new_pieces [(Str.ofString "word")] := fun _ _ _ _ _ _ us hl => match us, hl with | [_], _ => rfl
theorem sc_new_pieces : FnScope f_new_pieces.N (f_new_pieces.N.take f_new_pieces.np) (defScope st_new_pieces) := ⟨rfl, rfl, rfl, by decide +kernel, rfl, by decide +kernel, by decide +kernel⟩
theorem ok_new_pieces : CkSs PL f_new_pieces.N (defScope st_new_pieces) f_new_pieces.body (defBody st_new_pieces) := chkSs_ok _ (by decide +kernel)
abbrev st_ways_on : Stmt := topS 10
theorem bd_ways_on : BndT (Str.ofString "ways_on") st_ways_on [(Str.ofString "word"), (Str.ofString "piece")] := fun _ _ _ _ _ _ us hl => match us, hl with | [_, _], _ => rfl
theorem sc_ways_on : FnScope f_ways_on.N (f_ways_on.N.take f_ways_on.np) (defScope st_ways_on) := ⟨rfl, rfl, rfl, by decide +kernel, rfl, by decide +kernel, by decide +kernel⟩
theorem ok_ways_on : CkSs PL f_ways_on.N (defScope st_ways_on) f_ways_on.body (defBody st_ways_on) := chkSs_ok _ (by decide +kernel)
abbrev st_all_pieces : Stmt := topS 11
theorem bd_all_pieces : BndT (Str.ofString "all_pieces") st_all_pieces [(Str.ofString "word")] := fun _ _ _ _ _ _ us hl => match us, hl with | [_], _ => rfl
theorem sc_all_pieces : FnScope f_all_pieces.N (f_all_pieces.N.take f_all_pieces.np) (defScope st_all_pieces) := ⟨rfl, rfl, rfl, by decide +kernel, rfl, by decide +kernel, by decide +kernel⟩
theorem ok_all_pieces : CkSs PL f_all_pieces.N (defScope st_all_pieces) f_all_pieces.body (defBody st_all_pieces) := chkSs_ok _ (by decide +kernel)
abbrev st_forked_pieces : Stmt := topS 12
theorem bd_forked_pieces : BndT (Str.ofString "forked_pieces") st_forked_pieces [(Str.ofString "word")] := fun _ _ _ _ _ _ us hl => match us, hl with | [_], _ => rfl
theorem sc_forked_pieces : FnScope f_forked_pieces.N (f_forked_pieces.N.take f_forked_pieces.np) (defScope st_forked_pieces) := ⟨rfl, rfl, rfl, by decide +kernel, rfl, by decide +kernel, by decide +kernel⟩
theorem ok_forked_pieces : CkSs PL f_forked_pieces.N (defScope st_forked_pieces) f_forked_pieces.body (defBody st_forked_pieces) := chkSs_ok _ (by decide +kernel)
abbrev st__law_draw : Stmt := topS 15
theorem bd__law_draw : BndT (Str.ofString "_law_draw") st__law_draw [(Str.ofString "rill"), (Str.ofString "many")] := fun _ _ _ _ _ _ us hl => match us, hl with | [_, _], _ => rfl
abbrev st__law_one : Stmt := topS 16
theorem bd__law_one : BndT (Str.ofString "_law_one") st__law_one [(Str.ofString "rill"), (Str.ofString "some")] := fun _ _ _ _ _ _ us hl => match us, hl with | [_, _], _ => rfl
theorem sc__law_one : FnScope f__law_one.N (f__law_one.N.take f__law_one.np) (defScope st__law_one) := ⟨rfl, rfl, rfl, by decide +kernel, rfl, by decide +kernel, by decide +kernel⟩
theorem ok__law_one : CkSs PL f__law_one.N (defScope st__law_one) f__law_one.body (defBody st__law_one) := chkSs_ok _ (by decide +kernel)
abbrev st__law_letters : Stmt := topS 17
theorem bd__law_letters : BndT (Str.ofString "_law_letters") st__law_letters [(Str.ofString "kinds")] := fun _ _ _ _ _ _ us hl => match us, hl with | [_], _ => rfl
theorem sc__law_letters : FnScope f__law_letters.N (f__law_letters.N.take f__law_letters.np) (defScope st__law_letters) := ⟨rfl, rfl, rfl, by decide +kernel, rfl, by decide +kernel, by decide +kernel⟩
theorem ok__law_letters : CkSs PL f__law_letters.N (defScope st__law_letters) f__law_letters.body (defBody st__law_letters) := chkSs_ok _ (by decide +kernel)
abbrev st__law_word : Stmt := topS 18
theorem bd__law_word : BndT (Str.ofString "_law_word") st__law_word [(Str.ofString "rill"), (Str.ofString "most"), (Str.ofString "kinds")] := fun _ _ _ _ _ _ us hl => match us, hl with | [_, _, _], _ => rfl
theorem sc__law_word : FnScope f__law_word.N (f__law_word.N.take f__law_word.np) (defScope st__law_word) := ⟨rfl, rfl, rfl, by decide +kernel, rfl, by decide +kernel, by decide +kernel⟩
theorem ok__law_word : CkSs PL f__law_word.N (defScope st__law_word) f__law_word.body (defBody st__law_word) := chkSs_ok _ (by decide +kernel)
abbrev st__law_counted : Stmt := topS 19
theorem bd__law_counted : BndT (Str.ofString "_law_counted") st__law_counted [(Str.ofString "word")] := fun _ _ _ _ _ _ us hl => match us, hl with | [_], _ => rfl
theorem sc__law_counted : FnScope f__law_counted.N (f__law_counted.N.take f__law_counted.np) (defScope st__law_counted) := ⟨rfl, rfl, rfl, by decide +kernel, rfl, by decide +kernel, by decide +kernel⟩
theorem ok__law_counted : CkSs PL f__law_counted.N (defScope st__law_counted) f__law_counted.body (defBody st__law_counted) := chkSs_ok _ (by decide +kernel)
abbrev st__law_is_right : Stmt := topS 20
theorem bd__law_is_right : BndT (Str.ofString "_law_is_right") st__law_is_right [(Str.ofString "word"), (Str.ofString "is_great")] := fun _ _ _ _ _ _ us hl => match us, hl with | [_, _], _ => rfl
theorem sc__law_is_right : FnScope f__law_is_right.N (f__law_is_right.N.take f__law_is_right.np) (defScope st__law_is_right) := ⟨rfl, rfl, rfl, by decide +kernel, rfl, by decide +kernel, by decide +kernel⟩
theorem ok__law_is_right : CkSs PL f__law_is_right.N (defScope st__law_is_right) f__law_is_right.body (defBody st__law_is_right) := chkSs_ok _ (by decide +kernel)
abbrev st_law : Stmt := topS 21
theorem bd_law : BndT (Str.ofString "law") st_law [(Str.ofString "script")] := fun _ _ _ _ _ _ us hl => match us, hl with | [_], _ => rfl
theorem sc_law : FnScope f_law.N (f_law.N.take f_law.np) (defScope st_law) := ⟨rfl, rfl, rfl, by decide +kernel, rfl, by decide +kernel, by decide +kernel⟩
theorem ok_law : CkSs PL f_law.N (defScope st_law) f_law.body (defBody st_law) := mkr_ok rfl (by decide +kernel) (by decide +kernel)
theorem kw_0 : KwT (Str.ofString "piece_counts") st_piece_counts [(Str.ofString "word")] [(Str.ofString "word")] [0] := fun _ _ _ _ _ _ us hl => match us, hl with | [_], _ => rfl
theorem kw_1 : KwT (Str.ofString "new_pieces") st_new_pieces [(Str.ofString "word")] [(Str.ofString "word")] [0] := fun _ _ _ _ _ _ us hl => match us, hl with | [_], _ => rfl
theorem kws_each_once : ∀ ks q, (0, ks, q) ∈ PL.kws → KwT (Str.ofString "each_once") st_each_once [(Str.ofString "items")] ks q := by
  intro ks q h
  simp [PL] at h
theorem kws_pieces_of : ∀ ks q, (1, ks, q) ∈ PL.kws → KwT (Str.ofString "pieces_of") st_pieces_of [(Str.ofString "word"), (Str.ofString "size")] ks q := by
  intro ks q h
  simp [PL] at h
theorem kws_is_piece : ∀ ks q, (2, ks, q) ∈ PL.kws → KwT (Str.ofString "is_piece") st_is_piece [(Str.ofString "word"), (Str.ofString "piece")] ks q := by
  intro ks q h
  simp [PL] at h
theorem kws_piece_counts : ∀ ks q, (3, ks, q) ∈ PL.kws → KwT (Str.ofString "piece_counts") st_piece_counts [(Str.ofString "word")] ks q := by
  intro ks q h
  simp [PL] at h
  obtain ⟨rfl, rfl⟩ := h
  exact kw_0
theorem kws_new_pieces : ∀ ks q, (4, ks, q) ∈ PL.kws → KwT (Str.ofString "new_pieces") st_new_pieces [(Str.ofString "word")] ks q := by
  intro ks q h
  simp [PL] at h
  obtain ⟨rfl, rfl⟩ := h
  exact kw_1
theorem kws_ways_on : ∀ ks q, (5, ks, q) ∈ PL.kws → KwT (Str.ofString "ways_on") st_ways_on [(Str.ofString "word"), (Str.ofString "piece")] ks q := by
  intro ks q h
  simp [PL] at h
theorem kws_all_pieces : ∀ ks q, (6, ks, q) ∈ PL.kws → KwT (Str.ofString "all_pieces") st_all_pieces [(Str.ofString "word")] ks q := by
  intro ks q h
  simp [PL] at h
theorem kws_forked_pieces : ∀ ks q, (7, ks, q) ∈ PL.kws → KwT (Str.ofString "forked_pieces") st_forked_pieces [(Str.ofString "word")] ks q := by
  intro ks q h
  simp [PL] at h
theorem kws__law_draw : ∀ ks q, (8, ks, q) ∈ PL.kws → KwT (Str.ofString "_law_draw") st__law_draw [(Str.ofString "rill"), (Str.ofString "many")] ks q := by
  intro ks q h
  simp [PL] at h
theorem kws__law_one : ∀ ks q, (9, ks, q) ∈ PL.kws → KwT (Str.ofString "_law_one") st__law_one [(Str.ofString "rill"), (Str.ofString "some")] ks q := by
  intro ks q h
  simp [PL] at h
theorem kws__law_letters : ∀ ks q, (10, ks, q) ∈ PL.kws → KwT (Str.ofString "_law_letters") st__law_letters [(Str.ofString "kinds")] ks q := by
  intro ks q h
  simp [PL] at h
theorem kws__law_word : ∀ ks q, (11, ks, q) ∈ PL.kws → KwT (Str.ofString "_law_word") st__law_word [(Str.ofString "rill"), (Str.ofString "most"), (Str.ofString "kinds")] ks q := by
  intro ks q h
  simp [PL] at h
theorem kws__law_counted : ∀ ks q, (12, ks, q) ∈ PL.kws → KwT (Str.ofString "_law_counted") st__law_counted [(Str.ofString "word")] ks q := by
  intro ks q h
  simp [PL] at h
theorem kws__law_is_right : ∀ ks q, (13, ks, q) ∈ PL.kws → KwT (Str.ofString "_law_is_right") st__law_is_right [(Str.ofString "word"), (Str.ofString "is_great")] ks q := by
  intro ks q h
  simp [PL] at h
theorem kws_law : ∀ ks q, (14, ks, q) ∈ PL.kws → KwT (Str.ofString "law") st_law [(Str.ofString "script")] ks q := by
  intro ks q h
  simp [PL] at h
theorem mdl {pr : Program} {w : World} {K : PySem.W.Frag} {h : Heap} {mg : PySem.Str → Option Value} {base : Heap} (X : K.In h) (G : h.Ns mainGlobals mg)
    (D_each_once : ∃ fa fdt, DefAt K (Str.ofString "each_once") st_each_once fa fdt)
    (D_pieces_of : ∃ fa fdt, DefAt K (Str.ofString "pieces_of") st_pieces_of fa fdt)
    (D_is_piece : ∃ fa fdt, DefAt K (Str.ofString "is_piece") st_is_piece fa fdt)
    (D_piece_counts : ∃ fa fdt, DefAt K (Str.ofString "piece_counts") st_piece_counts fa fdt)
    (D_new_pieces : ∃ fa fdt, DefAt K (Str.ofString "new_pieces") st_new_pieces fa fdt)
    (D_ways_on : ∃ fa fdt, DefAt K (Str.ofString "ways_on") st_ways_on fa fdt)
    (D_all_pieces : ∃ fa fdt, DefAt K (Str.ofString "all_pieces") st_all_pieces fa fdt)
    (D_forked_pieces : ∃ fa fdt, DefAt K (Str.ofString "forked_pieces") st_forked_pieces fa fdt)
    (D__law_draw : ∃ fa fdt, DefAt K (Str.ofString "_law_draw") st__law_draw fa fdt)
    (D__law_one : ∃ fa fdt, DefAt K (Str.ofString "_law_one") st__law_one fa fdt)
    (D__law_letters : ∃ fa fdt, DefAt K (Str.ofString "_law_letters") st__law_letters fa fdt)
    (D__law_word : ∃ fa fdt, DefAt K (Str.ofString "_law_word") st__law_word fa fdt)
    (D__law_counted : ∃ fa fdt, DefAt K (Str.ofString "_law_counted") st__law_counted fa fdt)
    (D__law_is_right : ∃ fa fdt, DefAt K (Str.ofString "_law_is_right") st__law_is_right fa fdt)
    (D_law : ∃ fa fdt, DefAt K (Str.ofString "law") st_law fa fdt)
    (D_mk : ∃ fa fdt, DefAt K "_law_rill" sRill fa fdt)
    {t_0 : Tok} (G_0 : PySem.W.nsIn K mainGlobals (Str.ofString "LETTERS") = some (some (Value.str (Str.ofString "abcd") t_0)))
    (Z_0 : PySem.W.nsIn K mainGlobals (Str.ofString "abs") = some none)
    (Z_1 : PySem.W.nsIn K mainGlobals (Str.ofString "dict") = some none)
    (Z_2 : PySem.W.nsIn K mainGlobals (Str.ofString "int") = some none)
    (Z_3 : PySem.W.nsIn K mainGlobals (Str.ofString "len") = some none)
    (Z_4 : PySem.W.nsIn K mainGlobals (Str.ofString "range") = some none)
    (Z_5 : PySem.W.nsIn K mainGlobals (Str.ofString "repr") = some none)
    (Z_6 : PySem.W.nsIn K mainGlobals (Str.ofString "sorted") = some none)
    (Z_7 : PySem.W.nsIn K mainGlobals (Str.ofString "sum") = some none)
    (Z_8 : PySem.W.nsIn K mainGlobals (Str.ofString "tuple") = some none)
    (Z_9 : PySem.W.nsIn K mainGlobals (Str.ofString "zip") = some none) : Mdl PL natL 1 pr w K mg base := by
  have z_0 : mg (Str.ofString "abs") = none := PySem.W.mg_none_of X G Z_0
  have z_1 : mg (Str.ofString "dict") = none := PySem.W.mg_none_of X G Z_1
  have z_2 : mg (Str.ofString "int") = none := PySem.W.mg_none_of X G Z_2
  have z_3 : mg (Str.ofString "len") = none := PySem.W.mg_none_of X G Z_3
  have z_4 : mg (Str.ofString "range") = none := PySem.W.mg_none_of X G Z_4
  have z_5 : mg (Str.ofString "repr") = none := PySem.W.mg_none_of X G Z_5
  have z_6 : mg (Str.ofString "sorted") = none := PySem.W.mg_none_of X G Z_6
  have z_7 : mg (Str.ofString "sum") = none := PySem.W.mg_none_of X G Z_7
  have z_8 : mg (Str.ofString "tuple") = none := PySem.W.mg_none_of X G Z_8
  have z_9 : mg (Str.ofString "zip") = none := PySem.W.mg_none_of X G Z_9
  obtain ⟨fa_each_once, fdt_each_once, D_each_once⟩ := D_each_once
  obtain ⟨fa_pieces_of, fdt_pieces_of, D_pieces_of⟩ := D_pieces_of
  obtain ⟨fa_is_piece, fdt_is_piece, D_is_piece⟩ := D_is_piece
  obtain ⟨fa_piece_counts, fdt_piece_counts, D_piece_counts⟩ := D_piece_counts
  obtain ⟨fa_new_pieces, fdt_new_pieces, D_new_pieces⟩ := D_new_pieces
  obtain ⟨fa_ways_on, fdt_ways_on, D_ways_on⟩ := D_ways_on
  obtain ⟨fa_all_pieces, fdt_all_pieces, D_all_pieces⟩ := D_all_pieces
  obtain ⟨fa_forked_pieces, fdt_forked_pieces, D_forked_pieces⟩ := D_forked_pieces
  obtain ⟨fa__law_draw, fdt__law_draw, D__law_draw⟩ := D__law_draw
  obtain ⟨fa__law_one, fdt__law_one, D__law_one⟩ := D__law_one
  obtain ⟨fa__law_letters, fdt__law_letters, D__law_letters⟩ := D__law_letters
  obtain ⟨fa__law_word, fdt__law_word, D__law_word⟩ := D__law_word
  obtain ⟨fa__law_counted, fdt__law_counted, D__law_counted⟩ := D__law_counted
  obtain ⟨fa__law_is_right, fdt__law_is_right, D__law_is_right⟩ := D__law_is_right
  obtain ⟨fa_law, fdt_law, D_law⟩ := D_law
  obtain ⟨fa_mk, fdt_mk, D_mk⟩ := D_mk
  refine ⟨fd_of (.cons (fd_mk D_each_once X G bd_each_once rfl sc_each_once (by decide) ok_each_once kws_each_once) <|
      .cons (fd_mk D_pieces_of X G bd_pieces_of rfl sc_pieces_of (by decide) ok_pieces_of kws_pieces_of) <|
      .cons (fd_mk D_is_piece X G bd_is_piece rfl sc_is_piece (by decide) ok_is_piece kws_is_piece) <|
      .cons (fd_mk D_piece_counts X G bd_piece_counts rfl sc_piece_counts (by decide) ok_piece_counts kws_piece_counts) <|
      .cons (fd_mk D_new_pieces X G bd_new_pieces rfl sc_new_pieces (by decide) ok_new_pieces kws_new_pieces) <|
      .cons (fd_mk D_ways_on X G bd_ways_on rfl sc_ways_on (by decide) ok_ways_on kws_ways_on) <|
      .cons (fd_mk D_all_pieces X G bd_all_pieces rfl sc_all_pieces (by decide) ok_all_pieces kws_all_pieces) <|
      .cons (fd_mk D_forked_pieces X G bd_forked_pieces rfl sc_forked_pieces (by decide) ok_forked_pieces kws_forked_pieces) <|
      .cons (fd_nat D__law_draw X G bd__law_draw rfl (by decide) (draw_fn D__law_draw.fn z_2) kws__law_draw) <|
      .cons (fd_mk D__law_one X G bd__law_one rfl sc__law_one (by decide) ok__law_one kws__law_one) <|
      .cons (fd_mk D__law_letters X G bd__law_letters rfl sc__law_letters (by decide) ok__law_letters kws__law_letters) <|
      .cons (fd_mk D__law_word X G bd__law_word rfl sc__law_word (by decide) ok__law_word kws__law_word) <|
      .cons (fd_mk D__law_counted X G bd__law_counted rfl sc__law_counted (by decide) ok__law_counted kws__law_counted) <|
      .cons (fd_mk D__law_is_right X G bd__law_is_right rfl sc__law_is_right (by decide) ok__law_is_right kws__law_is_right) <|
      .cons (fd_mk D_law X G bd_law rfl sc_law (by decide) ok_law kws_law) <|
      .nil), fun y d e => ?_, fun y e => ?_, fun y hh e => ?_⟩
  · simp only [PL, List.mem_cons, List.not_mem_nil, or_false, Prod.mk.injEq] at e
    obtain ⟨rfl, rfl⟩ := e
    exact ⟨_, .str _, PySem.W.mg_of X G G_0, ⟨_, rfl⟩, fun _ => .str _⟩
  · simp only [PL, List.mem_cons, List.not_mem_nil, or_false] at e
    rcases e with rfl | rfl | rfl | rfl | rfl | rfl | rfl | rfl | rfl | rfl
    · exact z_0
    · exact z_1
    · exact z_2
    · exact z_3
    · exact z_4
    · exact z_5
    · exact z_6
    · exact z_7
    · exact z_8
    · exact z_9
  · cases e
    exact ⟨fa_mk, fdt_mk, "script", D_mk.at_ X G, D_mk.kp, rill_fn D_mk.fn z_2 z_0 z_3, D_mk.binds fun _ _ _ _ _ _ us hl => match us, hl with | [_], _ => rfl⟩
end PV
set_option maxHeartbeats 1000000
namespace PV
open PySem PySem.Spec PyProof.Rows L2
theorem c_empty : PyData.str (Str.ofString "") = S [] := rfl
theorem c_abcd : PyData.str (Str.ofString "abcd") = S [97, 98, 99, 100] := by
  unfold S
  congr 1
theorem neg1 : negD (.int 1) = some (.int (-1)) := rfl
theorem last_S {l : List D} {x : D} (h : l.getLast? = some x) : ixD (.list l) (.int (-1)) = some x := by
  obtain ⟨p, rfl⟩ : ∃ p, l = p ++ [x] := by
    have hne : l ≠ [] := fun q => by rw [q] at h; cases h
    rw [List.getLast?_eq_getLast hne] at h
    cases h
    exact ⟨l.dropLast, (List.dropLast_concat_getLast hne).symm⟩
  exact atI_last _ _
theorem eq_nilL {l : List Wd} (h : ∀ w ∈ l, OkW w) : eqD (.list (l.map S)) (.list []) = some l.isEmpty := by
  rw [eqD_L, if_pos ⟨shaped_ok (by unfold okD; exact okL_S h) (by unfold PyData.depth; rw [depth_S]; decide), rfl⟩]
  cases l <;> rfl
/-- the loop of each_once -/
theorem loop0 {c : Cal} {g : G} (it : D) : ∀ (l acc : List Wd) (s : Sl), (∀ w ∈ acc, OkW w) → (∀ w ∈ l, OkW w) → acc.length + l.length ≤ 100000 →
    ∃ s', forL (fun x ρ g => (bindT (.v 2) x ρ).bind fun ρ => execs c (.cons (.ife (.or (.cmp .Eq (.bor 1) (.lst .nil)) (.cmp .NotEq (.ix (.bor 1) (.neg (.con (.int 1)))) (.loc 2))) (.cons (.app 1 (.loc 2)) .nil) .nil) .nil) ρ g) (l.map S) [.v it, .own (.list (acc.map S)), s] g =
      some (.nx [.v it, .own (.list ((l.foldl stepE acc).map S)), s'] g)
  | [], acc, s, _, _, _ => ⟨s, rfl⟩
  | x :: l, acc, s, ha, hl, hz => by
    have ok1 : ∀ w ∈ stepE acc x, OkW w := fun w hw => by
      unfold stepE at hw
      split at hw
      · rcases List.mem_append.mp hw with h | h
        · exact ha w h
        · rw [List.mem_singleton.mp h]; exact hl x (List.mem_cons_self ..)
      · exact ha w hw
    have len1 : (stepE acc x).length ≤ acc.length + 1 := by
      unfold stepE
      split <;> simp
    obtain ⟨s', ih⟩ := loop0 (c := c) (g := g) it l (stepE acc x) (.v (S x)) ok1 (fun w hw => hl w (List.mem_cons_of_mem _ hw)) (by rw [List.length_cons] at hz; omega)
    refine ⟨s', ?_⟩
    rw [List.map_cons, forL, List.foldl_cons]
    have body : (bindT (.v 2) (S x) [.v it, .own (.list (acc.map S)), s]).bind (fun ρ => execs c (.cons (.ife (.or (.cmp .Eq (.bor 1) (.lst .nil)) (.cmp .NotEq (.ix (.bor 1) (.neg (.con (.int 1)))) (.loc 2))) (.cons (.app 1 (.loc 2)) .nil) .nil) .nil) ρ g) =
        some (.nx [.v it, .own (.list ((stepE acc x).map S)), .v (S x)] g) := by
      have hlt : acc.length < sizeLine := by
        rw [List.length_cons] at hz
        have := line24
        omega
      cases hacc : acc.isEmpty with
      | true =>
        have e : acc = [] := List.isEmpty_iff.mp hacc
        subst e
        have es : stepE [] x = [x] := rfl
        have e0 : eqD (.list []) (.list []) = some true := eq_nilL (l := []) fun _ h => by cases h
        have hlt0 : 0 < sizeLine := hlt
        simp [bindT, execs, exec, ev, evs, cmpD, e0, es, hlt0]
      | false =>
        obtain ⟨z, hz2⟩ : ∃ z, acc.getLast? = some z := by
          cases h : acc.getLast? with
          | some z => exact ⟨z, rfl⟩
          | none =>
            rw [List.getLast?_eq_none_iff] at h
            rw [h] at hacc; cases hacc
        have e0 : eqD (.list (acc.map S)) (.list []) = some false := by rw [eq_nilL ha, hacc]
        have e1 : ixD (.list (acc.map S)) (.int (-1)) = some (S z) := last_S (by rw [List.getLast?_map, hz2]; rfl)
        have ne : acc ≠ [] := fun q => by rw [q] at hacc; cases hacc
        by_cases hzx : z = x
        · have es : stepE acc x = acc := if_neg (by rintro (q | q); exact ne q; exact q (by rw [hz2, hzx]))
          simp [bindT, execs, exec, ev, evs, cmpD, e0, es, neg1, e1, eqD_S, hzx]
        · have es : stepE acc x = acc ++ [x] := if_pos (.inr (by rw [hz2]; simpa using hzx))
          simp [bindT, execs, exec, ev, evs, cmpD, e0, es, neg1, e1, eqD_S, hzx, hlt]
    rw [body]
    exact ih
theorem r0 (n : Nat) (l : List Wd) (g : G) (hl : ∀ w ∈ l, OkW w) (hz : l.length ≤ 100000) : run fdsL natL (n + 1) 0 [.d (.list (l.map S))] g = some (.tuple ((eoW l).map S), g) := by
  rw [run_succ (fd := f_each_once) rfl rfl]
  obtain ⟨s', e⟩ := loop0 (c := run fdsL natL n) (g := g) (.list (l.map S)) (sortW l) [] .un (fun _ h => by cases h) (fun w hw => hl w ((sortW_mem l w).mp hw)) (by rw [sortW_len]; simpa using hz)
  refine runB_rt rfl ?_
  refine execs_nx (exec_own (d := .list []) (g' := g) (by simp [ev, evs])) ?_
  refine execs_nx (exec_for (evIt_val (d := .list ((sortW l).map S)) (g' := g) ?_ rfl) e) ?_
  · simp [ev, evs, slOf, biD, sortedB, sortedD_S hz]
  · refine execs_rt (exec_ret ?_)
    simp [ev, evs, biD, tupleB]
    rfl
/-! ### pieces -/
def piece (w : Wd) (p k : Nat) : Wd := (w.drop p).take k
def pcs (w : Wd) (k : Nat) : List Wd := (List.range (w.length - k + 1)).map fun p => piece w p k
theorem cut_nat {w : Wd} {p k : Nat} (h : p + k ≤ w.length) : cutL w (some (p : Int)) (some ((p : Int) + (k : Int))) = piece w p k := by
  rw [show ((p : Int) + (k : Int)) = ((p + k : Nat) : Int) by omega, cutN (by omega) h, Nat.add_sub_cancel_left]
  rfl
theorem pcs_ok {w : Wd} (h : OkW w) (k : Nat) : ∀ u ∈ pcs w k, OkW u := fun u hu => by
  obtain ⟨p, _, rfl⟩ := List.mem_map.mp hu
  exact fun c hc => h c (List.mem_of_mem_drop (List.mem_of_mem_take hc))
theorem r1 (n : Nat) (w : Wd) (k : Nat) (g : G) (hw : OkW w) (hl : w.length ≤ 1000) (hk : k ≤ w.length) : run fdsL natL (n + 2) 1 [.d (S w), .d (.int k)] g = some (.tuple ((eoW (pcs w k)).map S), g) := by
  rw [run_succ (fd := f_pieces_of) rfl rfl]
  refine runB_rt rfl (execs_rt (exec_ret ?_))
  have e : ev (run fdsL natL (n + 1)) (.cmpr (.sl (.loc 0) (.loc 2) (.bin .Add (.loc 2) (.loc 1))) (.v 2) (.rng (.cons (.bin .Add (.bin .Sub (.bi "len" (.cons (.loc 0) .nil)) (.loc 1)) (.con (.int 1))) .nil)) .no) [.v (S w), .v (.int k), .un] g = some (.list ((pcs w k).map S), g) := by
    have h := ev_map (c := run fdsL natL (n + 1)) (ρ := [.v (S w), .v (.int k), .un]) (g := g) (g1 := g) (e := .sl (.loc 0) (.loc 2) (.bin .Add (.loc 2) (.loc 1))) (t := .v 2) (it := .rng (.cons (.bin .Add (.bin .Sub (.bi "len" (.cons (.loc 0) .nil)) (.loc 1)) (.con (.int 1))) .nil)) (xs := List.range (w.length - k + 1)) (inj := fun (p : Nat) => PyData.int p) (f := fun p => S (piece w p k)) ?_ (by rw [List.length_range]; omega) ?_
    · rw [h]
      unfold pcs
      rw [List.map_map]
      rfl
    · refine evIt_rng (ds := [.int ((w.length - k + 1 : Nat) : Int)]) ?_ (rng_1 (by omega))
      simp [ev, evs, biD, lenB_S (show w.length ≤ 100000 by omega), binD, subD, addD]
      omega
    · intro p hp
      have hp' : p + k ≤ w.length := by have := List.mem_range.mp hp; omega
      refine ⟨_, rfl, ?_⟩
      simp [ev, wipeR, tgIx, binD, addD, optI, slD_S (show w.length ≤ 100000 by omega), cut_nat hp']
  exact ev_call (evAs_d e evAs_nil) (r0 n _ g (pcs_ok hw k) (by unfold pcs; simp; omega))
theorem r2 (n : Nat) (w u : Wd) (g : G) : run fdsL natL (n + 1) 2 [.d (S w), .d (S u)] g = some (.bool (isPart u w), g) := by
  rw [run_succ (fd := f_is_piece) rfl rfl]
  refine runB_rt rfl (execs_rt (exec_ret ?_))
  simp [ev, slOf, cmpD, inD_S]
def cnts (w : Wd) : List Int := (List.range (w.length + 1)).map fun k => (((eoW (pcs w k)).length : Nat) : Int)
theorem r3 (n : Nat) (w : Wd) (g : G) (hw : OkW w) (hl : w.length ≤ 1000) : run fdsL natL (n + 3) 3 [.d (S w)] g = some (.tuple ((cnts w).map PyData.int), g) := by
  rw [run_succ (fd := f_piece_counts) rfl rfl]
  refine runB_rt rfl (execs_rt (exec_ret (ev_bi (ds := [.list ((cnts w).map PyData.int)]) (evs_one1 ?_) rfl)))
  have h := ev_map (c := run fdsL natL (n + 2)) (ρ := [.v (S w), .un]) (g := g) (g1 := g) (e := .bi "len" (.cons (.call 1 (.cons (.loc 0) (.cons (.loc 1) .nil)) [0, 1]) .nil)) (t := .v 1) (it := .rng (.cons (.bin .Add (.bi "len" (.cons (.loc 0) .nil)) (.con (.int 1))) .nil)) (xs := List.range (w.length + 1)) (inj := fun (p : Nat) => PyData.int p) (f := fun k => .int (((eoW (pcs w k)).length : Nat) : Int)) ?_ (by rw [List.length_range]; omega) ?_
  · unfold cnts
    rw [List.map_map]
    exact h
  · refine evIt_rng (ds := [.int ((w.length + 1 : Nat) : Int)]) ?_ (rng_1 (by omega))
    simp [ev, evs, biD, lenB_S (show w.length ≤ 100000 by omega), binD, addD]
  · intro k hk
    have hk' : k ≤ w.length := by have := List.mem_range.mp hk; omega
    refine ⟨_, rfl, ev_bi (evs_one1 (ev_call (evAs_d (d := S w) (g1 := g) rfl (evAs_d (d := .int k) (g1 := g) rfl evAs_nil)) (r1 n w k g hw hl hk'))) ?_⟩
    simp [biD, lenB]
theorem zip_next (a : Nat → Int) (n : Nat) : zipL ((List.range (n + 1)).map fun k => PyData.int (a k)) (((List.range (n + 1)).map fun k => PyData.int (a k)).drop 1) = (List.range n).map fun i => .tuple [.int (a i), .int (a (i + 1))] := by
  have key : ∀ (m n : Nat), zipL ((List.range' m (n + 1)).map fun k => PyData.int (a k)) (((List.range' m (n + 1)).map fun k => PyData.int (a k)).drop 1) = (List.range' m n).map fun i => .tuple [.int (a i), .int (a (i + 1))] := by
    intro m n
    induction n generalizing m with
    | zero => rfl
    | succ n ih =>
      have := ih (m + 1)
      rw [List.range'_succ, List.map_cons, List.drop_succ_cons, List.drop_zero, List.range'_succ (s := m) (n := n), List.map_cons, ← this]
      rw [List.range'_succ (s := m + 1) (n := n), List.map_cons, zipL]
      rfl
  have := key 0 n
  rw [← List.range_eq_range', ← List.range_eq_range'] at this
  exact this
def sumW (w : Wd) (k : Nat) : Int := (cnts (w.take k)).sum
def newW (w : Wd) : List Int := (List.range w.length).map fun i => sumW w (i + 1) - sumW w i
theorem take_ok {w : Wd} (h : OkW w) (k : Nat) : OkW (w.take k) := fun c hc => h c (List.mem_of_mem_take hc)
theorem sum_B (l : List Int) : biD "sum" [.tuple (l.map PyData.int)] = some (.int l.sum) := by
  show (allOf asInt (l.map PyData.int)).map _ = _
  rw [ints_I]
  rfl
theorem sum_L (l : List Int) : biD "sum" [.list (l.map PyData.int)] = some (.int l.sum) := by
  show (allOf asInt (l.map PyData.int)).map _ = _
  rw [ints_I]
  rfl
theorem r4 (n : Nat) (w : Wd) (g : G) (hw : OkW w) (hl : w.length ≤ 1000) : run fdsL natL (n + 4) 4 [.d (S w)] g = some (.tuple ((newW w).map PyData.int), g) := by
  rw [run_succ (fd := f_new_pieces) rfl rfl]
  refine runB_at (ρ := [.v (S w), .un, .un, .un, .un]) rfl rfl ?_
  refine execs_nx (exec_set (d := .list ((List.range (w.length + 1)).map fun k => PyData.int (sumW w k))) (g' := g) ?_ rfl) (execs_rt (exec_ret (ev_bi (ds := [.list ((newW w).map PyData.int)]) (evs_one1 ?_) rfl)))
  · refine ev_map (inj := fun (p : Nat) => PyData.int p) (f := fun k => PyData.int (sumW w k)) (evIt_rng (ds := [.int ((w.length + 1 : Nat) : Int)]) ?_ (rng_1 (by omega))) (by rw [List.length_range]; omega) ?_
    · simp [ev, evs, slOf, biD, lenB_S (show w.length ≤ 100000 by omega), binD, addD]
    · intro k hk
      refine ⟨_, rfl, ev_bi (evs_one1 (ev_call (evAs_d (d := S (w.take k)) (g1 := g) ?_ evAs_nil) (r3 n (w.take k) g (take_ok hw k) (by rw [List.length_take]; omega)))) (sum_B _)⟩
      simp [ev, wipeR, tgIx, optI, slD_S (show w.length ≤ 100000 by omega), cutTo, slOf]
  · unfold newW
    rw [List.map_map]
    refine ev_map (xs := List.range w.length) (inj := fun i => .tuple [.int (sumW w i), .int (sumW w (i + 1))]) (f := fun i => PyData.int (sumW w (i + 1) - sumW w i)) ?_ (by rw [List.length_range]; omega) ?_
    · rw [← zip_next]
      have e : slD (.list ((List.range (w.length + 1)).map fun k => PyData.int (sumW w k))) (some 1) none = some (.list (((List.range (w.length + 1)).map fun k => PyData.int (sumW w k)).drop 1)) := congrArg (fun l => some (PyData.list l)) (cutFrom 1)
      simp only [evIt, ev, List.set_cons_succ, List.set_cons_zero, List.getElem?_cons_succ, List.getElem?_cons_zero, Option.bind_some, optI, Option.map_some, e, itemsL]
    · intro k hk
      refine ⟨_, rfl, ?_⟩
      simp [ev, wipeR, tgIx, binD, subD, slOf]
/-! ### letters on -/
def abcd : List Nat := [97, 98, 99, 100]
def waysW (w u : Wd) : Wd := abcd.filter fun c => isPart (u ++ [c]) w
theorem r5 (n : Nat) (w u : Wd) (g : G) (hw : w.length ≤ 1000) (hu : u.length ≤ 1000) : run fdsL natL (n + 2) 5 [.d (S w), .d (S u)] g = some (S (waysW w u), g) := by
  rw [run_succ (fd := f_ways_on) rfl rfl]
  refine runB_rt rfl (execs_rt (exec_ret ?_))
  have h := ev_filter (c := run fdsL natL (n + 1)) (ρ := [.v (S w), .v (S u), .un]) (g := g) (g1 := g) (e := .loc 2) (k := .call 2 (.cons (.loc 0) (.cons (.bin .Add (.loc 1) (.loc 2)) .nil)) [0, 1]) (t := .v 2) (it := .val (.glo (Str.ofString "LETTERS") (.str (Str.ofString "abcd")))) (xs := abcd) (inj := fun c => S [c]) (f := fun c => S [c]) (p := fun c => isPart (u ++ [c]) w)
    (evIt_val (d := S abcd) (by rw [ev, c_abcd]; rfl) (letters_S _)) (by decide) rfl fun c _ => ⟨_, rfl, ev_call (evAs_d (d := S w) (g1 := g) rfl (evAs_d (d := S (u ++ [c])) (g1 := g) ?_ evAs_nil)) (r2 n w (u ++ [c]) g), fun _ => rfl⟩
  · have hl : ((waysW w u).map fun c => S [c]) = (((waysW w u).map fun c => [c]).map S) := by rw [List.map_map]; rfl
    have hlen : (waysW w u).length ≤ 4 := List.length_filter_le _ abcd
    have e : mtD "join" (S []) [.list ((waysW w u).map fun c => S [c])] = some (S (waysW w u)) := by
      show joinD ⟨#[]⟩ _ = _
      rw [hl, joinB_S]
      · congr 2
        induction (waysW w u) with
        | nil => rfl
        | cons a l ih => rw [List.map_cons, List.flatten_cons, ih]; rfl
      · rw [List.map_map]
        have : ∀ l : List Nat, (l.map (List.length ∘ fun c => [c])).sum = l.length := by
          intro l
          induction l with
          | nil => rfl
          | cons a l ih => rw [List.map_cons, List.sum_cons, ih, List.length_cons]; show 1 + _ = _; omega
        rw [this]
        omega
      · rw [List.length_map]
        omega
    show ev _ (.mt "join" _ _) [.v (S w), .v (S u), .un] g = _
    rw [ev]
    show ((some (PyData.str (Str.ofString ""), g)).bind fun (x, g) => _) = _
    dsimp only [Option.bind_some]
    rw [evs_one1 h]
    dsimp only [Option.bind_some]
    rw [c_empty]
    show (mtD "join" (S []) [.list ((waysW w u).map fun c => S [c])]).map _ = _
    rw [e]
    rfl
  · simp [ev, wipeR, tgIx, binD]
    exact addD_S (by simp; omega)
/-! ### all pieces -/
def flatP (w : Wd) (m : Nat) : List Wd := (List.range m).flatMap fun k => eoW (pcs w k)
def allW (w : Wd) : List Wd := eoW (flatP w (w.length + 1))
theorem eoW_len_le (l : List Wd) : (eoW l).length ≤ l.length := nodup_le (eoW_spec l).1 fun x hx => ((eoW_spec l).2 x).mp hx
theorem pcs_len (w : Wd) (k : Nat) : (pcs w k).length = w.length - k + 1 := by unfold pcs; simp
theorem flatP_len (w : Wd) : ∀ m, (flatP w m).length ≤ m * (w.length + 1)
  | 0 => Nat.zero_le _
  | m + 1 => by
    have ih := flatP_len w m
    have e : flatP w (m + 1) = flatP w m ++ eoW (pcs w m) := by
      unfold flatP
      rw [List.range_succ, List.flatMap_append]
      simp
    rw [e, List.length_append]
    have h1 := eoW_len_le (pcs w m)
    rw [pcs_len] at h1
    have : (m + 1) * (w.length + 1) = m * (w.length + 1) + (w.length + 1) := Nat.succ_mul ..
    omega
theorem flatP_ok {w : Wd} (h : OkW w) (m : Nat) : ∀ u ∈ flatP w m, OkW u := fun u hu => by
  obtain ⟨k, _, hk⟩ := List.mem_flatMap.mp hu
  exact pcs_ok h k u (((eoW_spec _).2 u).mp hk)
theorem r6 (n : Nat) (w : Wd) (g : G) (hw : OkW w) (hl : w.length ≤ 100) : run fdsL natL (n + 3) 6 [.d (S w)] g = some (.tuple ((allW w).map S), g) := by
  rw [run_succ (fd := f_all_pieces) rfl rfl]
  refine runB_at (ρ := [.v (S w), .un, .un]) rfl rfl ?_
  refine execs_nx (exec_own (d := .list []) (g' := g) (by simp [ev, evs])) ?_
  have inv := forL_inv (f := fun x ρ g => (bindT (.v 2) x ρ).bind fun ρ => execs (run fdsL natL (n + 2)) (.cons (.ext 1 (.call 1 (.cons (.loc 0) (.cons (.loc 2) .nil)) [0, 1])) .nil) ρ g) (xs := (List.range (w.length + 1)).map fun k => PyData.int ((k : Nat) : Int)) (ρ := [.v (S w), .own (.list []), .un]) (g := g)
    (fun r ρ g' => ∃ m s, m + r.length = w.length + 1 ∧ r = (List.range' m r.length).map (fun k => PyData.int ((k : Nat) : Int)) ∧ ρ = [.v (S w), .own (.list ((flatP w m).map S)), s] ∧ g' = g)
    ⟨0, .un, by simp, by simp [List.range_eq_range'], rfl, rfl⟩ (fun x r ρ g' ⟨m, s, h1, h2, h3, h4⟩ => ?_)
  · obtain ⟨ρ', g', e1, m, s, h1, h2, rfl, rfl⟩ := inv
    have hm : m = w.length + 1 := h1
    subst hm
    refine execs_nx (exec_for (evIt_rng (ds := [.int ((w.length + 1 : Nat) : Int)]) ?_ (rng_1 (by omega))) e1) ?_
    · simp [ev, evs, slOf, biD, lenB_S (show w.length ≤ 100000 by omega), binD, addD]
    · refine execs_rt (exec_frz rfl (exec_ret (ev_call (evAs_d rfl evAs_nil) (r0 (n + 1) _ g' (flatP_ok hw _) ?_))))
      have := flatP_len w (w.length + 1)
      have h3 : (w.length + 1) * (w.length + 1) ≤ 101 * 101 := Nat.mul_le_mul (by omega) (by omega)
      omega
  · subst h3 h4
    rw [List.length_cons, List.range'_succ, List.map_cons] at h2
    obtain ⟨e1, e2⟩ := List.cons.inj h2
    rw [List.length_cons] at h1
    refine ⟨[.v (S w), .own (.list ((flatP w (m + 1)).map S)), .v (.int m)], g', ?_, m + 1, _, by omega, e2, rfl, rfl⟩
    rw [e1]
    show execs _ _ [.v (S w), .own (.list ((flatP w m).map S)), .v (.int m)] g' = _
    refine execs_nx (exec_extT (l := (flatP w m).map S) (m := (eoW (pcs w m)).map S) (ev_call (evAs_d (d := S w) (g1 := g') rfl (evAs_d (d := .int m) (g1 := g') rfl evAs_nil)) (r1 n w m g' hw (by omega) (by omega))) rfl ?_) ?_
    · have h3 := flatP_len w m
      have h4 := eoW_len_le (pcs w m)
      rw [pcs_len] at h4
      have h5 : m * (w.length + 1) ≤ 101 * 101 := Nat.mul_le_mul (by omega) (by omega)
      rw [List.length_map, List.length_map]
      omega
    · have e : flatP w (m + 1) = flatP w m ++ eoW (pcs w m) := by
        unfold flatP
        rw [List.range_succ, List.flatMap_append]
        simp
      rw [e, List.map_append]
      rfl
def forkW (w : Wd) : List Wd := (allW w).filter fun u => decide ((waysW w u).length > 1)
theorem allW_mem (w u : Wd) : u ∈ allW w ↔ ∃ k, k ≤ w.length ∧ u ∈ pcs w k := by
  unfold allW
  rw [(eoW_spec _).2 u]
  unfold flatP
  rw [List.mem_flatMap]
  constructor
  · rintro ⟨k, h1, h2⟩
    exact ⟨k, by have := List.mem_range.mp h1; omega, ((eoW_spec _).2 u).mp h2⟩
  · rintro ⟨k, h1, h2⟩
    exact ⟨k, List.mem_range.mpr (by omega), ((eoW_spec _).2 u).mpr h2⟩
theorem pcs_mem {w u : Wd} {k : Nat} (hk : k ≤ w.length) (h : u ∈ pcs w k) : u.length = k := by
  obtain ⟨p, hp, rfl⟩ := List.mem_map.mp h
  have := List.mem_range.mp hp
  unfold piece
  rw [List.length_take, List.length_drop]
  omega
theorem r7 (n : Nat) (w : Wd) (g : G) (hw : OkW w) (hl : w.length ≤ 100) : run fdsL natL (n + 4) 7 [.d (S w)] g = some (.tuple ((forkW w).map S), g) := by
  rw [run_succ (fd := f_forked_pieces) rfl rfl]
  refine runB_at (ρ := [.v (S w), .un]) rfl rfl (execs_rt (exec_ret (ev_bi (ds := [.list ((forkW w).map S)]) (evs_one1 ?_) rfl)))
  have hlen : (allW w).length ≤ 101 * 101 := by
    have h1 := eoW_len_le (flatP w (w.length + 1))
    have h2 := flatP_len w (w.length + 1)
    have h3 : (w.length + 1) * (w.length + 1) ≤ 101 * 101 := Nat.mul_le_mul (by omega) (by omega)
    unfold allW
    omega
  refine ev_filter (inj := S) (f := S) (p := fun u => decide ((waysW w u).length > 1)) (evIt_val (ev_call (evAs_d (d := S w) (g1 := g) rfl evAs_nil) (r6 n w g hw hl)) rfl) (by omega) rfl fun u hu => ⟨_, rfl, ?_, fun _ => rfl⟩
  obtain ⟨k, hk, hu2⟩ := (allW_mem w u).mp hu
  have hul := pcs_mem hk hu2
  have e : ev (run fdsL natL (n + 3)) (.bi "len" (.cons (.call 5 (.cons (.loc 0) (.cons (.loc 1) .nil)) [0, 1]) .nil)) [.v (S w), .v (S u)] g = some (.int (waysW w u).length, g) := by
    refine ev_bi (evs_one1 (ev_call (evAs_d (d := S w) (g1 := g) rfl (evAs_d (d := S u) (g1 := g) rfl evAs_nil)) (r5 (n + 1) w u g (by omega) (by omega)))) (lenB_S ?_)
    have : (waysW w u).length ≤ 4 := List.length_filter_le _ abcd
    omega
  show ev _ _ [.v (S w), .v (S u)] g = _
  rw [ev, e]
  simp [ev, cmpD, ltD]
  omega
/-! ### counted by a dict -/
def tr1 (u : Wd) : D × D := (S u, .bool true)
def addK (acc : List Wd) (u : Wd) : List Wd := if u ∈ acc then acc else acc ++ [u]
theorem keyS (u v : Wd) : keyEq (S u) (S v) = decide (u = v) := by
  show decide ((⟨u.toArray⟩ : PySem.Str) = ⟨v.toArray⟩) = _
  exact decide_eq_decide.mpr Str_eq
theorem has_tr (acc : List Wd) (u : Wd) : hasD (acc.map tr1) (S u) = decide (u ∈ acc) := by
  unfold hasD findD
  rw [Option.isSome_map]
  induction acc with
  | nil => rfl
  | cons a acc ih =>
    rw [List.map_cons, List.find?_cons]
    have hk : keyEq (tr1 a).1 (S u) = decide (a = u) := keyS a u
    by_cases e : a = u
    · rw [hk, decide_eq_true e]
      simp [e]
    · rw [hk, decide_eq_false e]
      dsimp only
      rw [ih]
      simp [List.mem_cons, show ¬ u = a from fun q => e q.symm]
theorem put_tr (acc : List Wd) (u : Wd) : putD (acc.map tr1) (S u) (.bool true) = (addK acc u).map tr1 := by
  unfold putD addK
  rw [has_tr]
  by_cases h : u ∈ acc
  · rw [if_pos (decide_eq_true h), if_pos h, List.map_map]
    refine List.map_congr_left fun v _ => ?_
    show (if keyEq (S v) (S u) = true then _ else _) = _
    split <;> rfl
  · rw [if_neg (by rw [decide_eq_false h]; exact Bool.false_ne_true), if_neg h, List.map_append]
    rfl
theorem addK_spec : ∀ (l acc : List Wd), acc.Nodup → (l.foldl addK acc).Nodup ∧ ∀ x, x ∈ l.foldl addK acc ↔ x ∈ acc ∨ x ∈ l
  | [], acc, h => ⟨h, fun x => by simp⟩
  | a :: l, acc, h => by
    rw [List.foldl_cons]
    have hn : (addK acc a).Nodup := by
      unfold addK
      split
      · exact h
      · rename_i hn
        rw [List.nodup_append]
        exact ⟨h, by simp, fun x hx y hy e => hn (by rw [List.mem_singleton.mp hy] at e; rw [← e]; exact hx)⟩
    obtain ⟨h1, h2⟩ := addK_spec l (addK acc a) hn
    refine ⟨h1, fun x => ?_⟩
    rw [h2 x]
    have e : x ∈ addK acc a ↔ x ∈ acc ∨ x = a := by
      unfold addK
      split
      · rename_i ha
        constructor
        · exact .inl
        · rintro (q | q)
          · exact q
          · rw [q]; exact ha
      · simp
    rw [e, List.mem_cons, or_assoc]
theorem dict_tr (l : List Wd) : biD "dict" [.list (l.map fun u => .tuple [S u, .bool true])] = some (.dict ((l.foldl addK []).map tr1)) := by
  have h1 : allOf asPair (l.map fun u => .tuple [S u, .bool true]) = some (l.map tr1) := by
    induction l with
    | nil => rfl
    | cons a l ih =>
      rw [List.map_cons, allOf]
      show (some (S a, PyData.bool true)).bind _ = _
      rw [Option.bind_some, ih]
      rfl
  have h2 : ((l.map tr1).all fun p => isKey p.1) = true := by
    rw [List.all_eq_true]
    intro p hp
    obtain ⟨u, _, rfl⟩ := List.mem_map.mp hp
    rfl
  have h3 : ∀ (l acc : List Wd), (l.map tr1).foldl (fun acc p => putD acc p.1 p.2) (acc.map tr1) = (l.foldl addK acc).map tr1 := by
    intro l
    induction l with
    | nil => intro acc; rfl
    | cons a l ih =>
      intro acc
      rw [List.map_cons, List.foldl_cons, List.foldl_cons, ← ih, ← put_tr]
      rfl
  show (allOf asPair _).bind _ = _
  rw [h1]
  dsimp only [Option.bind_some]
  rw [if_pos h2]
  exact congrArg (fun x => some (PyData.dict x)) (h3 l [])
theorem dict_len (l : List Wd) : (l.foldl addK []).length = (eoW l).length := by
  obtain ⟨h1, h2⟩ := addK_spec l [] List.nodup_nil
  exact nodup_len h1 (eoW_spec l).1 fun x => by rw [h2 x, (eoW_spec l).2 x]; simp
theorem r12 (n : Nat) (w : Wd) (g : G) (hl : w.length ≤ 1000) : run fdsL natL (n + 1) 12 [.d (S w)] g = some (.tuple ((cnts w).map PyData.int), g) := by
  rw [run_succ (fd := f__law_counted) rfl rfl]
  refine runB_at (ρ := [.v (S w), .un, .un, .un]) rfl rfl ?_
  refine execs_nx (exec_own (d := .list []) (g' := g) (by simp [ev, evs])) ?_
  have inv := forL_inv (f := fun x ρ g => (bindT (.v 2) x ρ).bind fun ρ => execs (run fdsL natL n) (.cons (.app 1 (.bi "len" (.cons (.bi "dict" (.cons (.cmpr (.tup (.cons (.sl (.loc 0) (.loc 3) (.bin .Add (.loc 3) (.loc 2))) (.cons (.con (.bool true)) .nil))) (.v 3) (.rng (.cons (.bin .Add (.bin .Sub (.bi "len" (.cons (.loc 0) .nil)) (.loc 2)) (.con (.int 1))) .nil)) .no) .nil)) .nil))) .nil) ρ g) (xs := (List.range (w.length + 1)).map fun k => PyData.int ((k : Nat) : Int)) (ρ := [.v (S w), .own (.list []), .un, .un]) (g := g)
    (fun r ρ g' => ∃ m s, m + r.length = w.length + 1 ∧ r = (List.range' m r.length).map (fun k => PyData.int ((k : Nat) : Int)) ∧ ρ = [.v (S w), .own (.list (((List.range m).map fun k => (((eoW (pcs w k)).length : Nat) : Int)).map PyData.int)), s, .un] ∧ g' = g)
    ⟨0, .un, by simp, by simp [List.range_eq_range'], rfl, rfl⟩ (fun x r ρ g' ⟨m, s, h1, h2, h3, h4⟩ => ?_)
  · obtain ⟨ρ', g', e1, m, s, h1, h2, rfl, rfl⟩ := inv
    have hm : m = w.length + 1 := h1
    subst hm
    refine execs_nx (exec_for (evIt_rng (ds := [.int ((w.length + 1 : Nat) : Int)]) ?_ (rng_1 (by omega))) e1) (execs_rt (exec_ret (ev_bi (evs_one1 rfl) rfl)))
    simp [ev, evs, slOf, biD, lenB_S (show w.length ≤ 100000 by omega), binD, addD]
  · subst h3 h4
    rw [List.length_cons, List.range'_succ, List.map_cons] at h2
    obtain ⟨e1, e2⟩ := List.cons.inj h2
    rw [List.length_cons] at h1
    refine ⟨[.v (S w), .own (.list (((List.range (m + 1)).map fun k => (((eoW (pcs w k)).length : Nat) : Int)).map PyData.int)), .v (.int m), .un], g', ?_, m + 1, _, by omega, e2, rfl, rfl⟩
    rw [e1]
    show execs _ _ [.v (S w), .own (.list (((List.range m).map fun k => (((eoW (pcs w k)).length : Nat) : Int)).map PyData.int)), .v (.int m), .un] g' = _
    have hlc : ev (run fdsL natL n) (.cmpr (.tup (.cons (.sl (.loc 0) (.loc 3) (.bin .Add (.loc 3) (.loc 2))) (.cons (.con (.bool true)) .nil))) (.v 3) (.rng (.cons (.bin .Add (.bin .Sub (.bi "len" (.cons (.loc 0) .nil)) (.loc 2)) (.con (.int 1))) .nil)) .no)
        [.v (S w), .own (.list (((List.range m).map fun k => (((eoW (pcs w k)).length : Nat) : Int)).map PyData.int)), .v (.int m), .un] g' = some (.list ((pcs w m).map fun u => .tuple [S u, .bool true]), g') := by
      have h := ev_map (c := run fdsL natL n) (ρ := [.v (S w), .own (.list (((List.range m).map fun k => (((eoW (pcs w k)).length : Nat) : Int)).map PyData.int)), .v (.int m), .un]) (g := g') (g1 := g') (e := .tup (.cons (.sl (.loc 0) (.loc 3) (.bin .Add (.loc 3) (.loc 2))) (.cons (.con (.bool true)) .nil))) (t := .v 3)
        (it := .rng (.cons (.bin .Add (.bin .Sub (.bi "len" (.cons (.loc 0) .nil)) (.loc 2)) (.con (.int 1))) .nil)) (xs := List.range (w.length - m + 1)) (inj := fun (p : Nat) => PyData.int p) (f := fun p => .tuple [S (piece w p m), .bool true]) ?_ (by rw [List.length_range]; omega) ?_
      · rw [h]
        unfold pcs
        rw [List.map_map]
        rfl
      · refine evIt_rng (ds := [.int ((w.length - m + 1 : Nat) : Int)]) ?_ (rng_1 (by omega))
        simp [ev, evs, biD, lenB_S (show w.length ≤ 100000 by omega), binD, subD, addD]
        omega
      · intro p hp
        have hp' : p + m ≤ w.length := by have := List.mem_range.mp hp; omega
        refine ⟨_, rfl, ?_⟩
        have h2s : 2 ≤ sizeLine := by decide
        simp [ev, evs, wipeR, tgIx, binD, addD, optI, slD_S (show w.length ≤ 100000 by omega), cut_nat hp', h2s]
    refine execs_nx (exec_app (d := .int (((eoW (pcs w m)).length : Nat) : Int)) (l := ((List.range m).map fun k => (((eoW (pcs w k)).length : Nat) : Int)).map PyData.int) (g1 := g') (ev_bi (evs_one1 (ev_bi (evs_one1 hlc) (dict_tr _))) ?_) rfl ?_) ?_
    · show some (PyData.int (((pcs w m).foldl addK []).map tr1).length) = _
      rw [List.length_map, dict_len]
    · rw [List.length_map, List.length_map, List.length_range]
      omega
    · rw [List.range_succ, List.map_append, List.map_append]
      rfl
/-! ### drawn words -/
theorem nat8 : natL 8 = some drawN := rfl
theorem r9L {n : Nat} {t : Int} {r : Rl} (l : List D) (h : Good t r) (ht : t ≤ 1000000000) (h0 : l ≠ []) (h1 : l.length ≤ 1000000) :
    ∃ d r', run fdsL natL (n + 1) 9 [.rill, .d (.list l)] (some r) = some (d, some r') ∧ d ∈ l ∧ Good (t + 1) r' := by
  have hp : 0 < l.length := List.length_pos_iff.mpr h0
  obtain ⟨v, r', e, v0, v1, hg⟩ := run_draw (fds := fdsL) (n := n) nat8 h ht (many := (l.length : Int)) (by omega) (by omega)
  obtain ⟨k, rfl⟩ : ∃ k : Nat, v = k := ⟨v.toNat, by omega⟩
  have hk : k < l.length := by omega
  refine ⟨l[k], r', ?_, List.getElem_mem hk, hg⟩
  rw [run_succ (fd := f__law_one) rfl rfl]
  refine runB_at (ρ := [.rill, .v (.list l)]) rfl rfl (execs_rt (exec_ret ?_))
  have e2 : ev (run fdsL natL n) (.call 8 (.cons (.loc 0) (.cons (.bi "len" (.cons (.loc 1) .nil)) .nil)) [0, 1]) [.rill, .v (.list l)] (some r) = some (.int (k : Int), some r') :=
    ev_call (evAs_rill rfl (evAs_d (d := .int l.length) (g1 := some r) (ev_bi (evs_one1 rfl) rfl) evAs_nil)) e
  have e3 : ixD (.list l) (.int (k : Int)) = some l[k] := atI_nat (List.getElem?_eq_getElem hk)
  rw [ev]
  show ((some (PyData.list l, some r)).bind fun (x, g) => _) = _
  dsimp only [Option.bind_some]
  rw [e2]
  dsimp only [Option.bind_some]
  rw [e3]
  rfl
theorem r9S {n : Nat} {t : Int} {r : Rl} (w : Wd) (h : Good t r) (ht : t ≤ 1000000000) (h0 : w ≠ []) (h1 : w.length ≤ 100000) :
    ∃ c r', run fdsL natL (n + 1) 9 [.rill, .d (S w)] (some r) = some (S [c], some r') ∧ c ∈ w ∧ Good (t + 1) r' := by
  have hp : 0 < w.length := List.length_pos_iff.mpr h0
  obtain ⟨v, r', e, v0, v1, hg⟩ := run_draw (fds := fdsL) (n := n) nat8 h ht (many := (w.length : Int)) (by omega) (by omega)
  obtain ⟨k, rfl⟩ : ∃ k : Nat, v = k := ⟨v.toNat, by omega⟩
  have hk : k < w.length := by omega
  refine ⟨w[k], r', ?_, List.getElem_mem hk, hg⟩
  rw [run_succ (fd := f__law_one) rfl rfl]
  refine runB_at (ρ := [.rill, .v (S w)]) rfl rfl (execs_rt (exec_ret ?_))
  have e2 : ev (run fdsL natL n) (.call 8 (.cons (.loc 0) (.cons (.bi "len" (.cons (.loc 1) .nil)) .nil)) [0, 1]) [.rill, .v (S w)] (some r) = some (.int (k : Int), some r') :=
    ev_call (evAs_rill rfl (evAs_d (d := .int w.length) (g1 := some r) (ev_bi (evs_one1 rfl) (lenB_S h1)) evAs_nil)) e
  have e3 : ixD (S w) (.int (k : Int)) = some (S [w[k]]) := ixD_S h1 (List.getElem?_eq_getElem hk)
  rw [ev]
  show ((some (S w, some r)).bind fun (x, g) => _) = _
  dsimp only [Option.bind_some]
  rw [e2]
  dsimp only [Option.bind_some]
  rw [e3]
  rfl
theorem r10 (n : Nat) (k : Nat) (g : G) : run fdsL natL (n + 1) 10 [.d (.int k)] g = some (S (abcd.take k), g) := by
  rw [run_succ (fd := f__law_letters) rfl rfl]
  refine runB_at (ρ := [.v (.int k)]) rfl rfl (execs_rt (exec_ret ?_))
  rw [ev]
  show ((some (PyData.str (Str.ofString "abcd"), g)).bind fun (x, g) => _) = _
  rw [c_abcd]
  simp [ev, optI]
  have : slD (S [97, 98, 99, 100]) none (some (k : Int)) = some (S (cutL [97, 98, 99, 100] none (some (k : Int)))) := slD_S (by decide) _ _
  rw [this, cutTo]
  rfl
def AbW (w : Wd) : Prop := ∀ c ∈ w, c ∈ abcd
theorem AbW.ok {w : Wd} (h : AbW w) : OkW w := fun c hc => by
  have := h c hc
  simp [abcd] at this
  omega
theorem words_of : ∀ {ds : List D}, (∀ d ∈ ds, ∃ c, c ∈ abcd ∧ d = S [c]) → ∃ w : Wd, AbW w ∧ w.length = ds.length ∧ ds = (w.map fun c => [c]).map S
  | [], _ => ⟨[], (fun _ h => nomatch h), rfl, rfl⟩
  | d :: ds, h => by
    obtain ⟨c, hc, rfl⟩ := h d (List.mem_cons_self ..)
    obtain ⟨w, h1, h2, h3⟩ := words_of fun x hx => h x (List.mem_cons_of_mem _ hx)
    refine ⟨c :: w, fun x hx => ?_, by rw [List.length_cons, h2, List.length_cons], by rw [h3]; rfl⟩
    rcases List.mem_cons.mp hx with rfl | hx
    · exact hc
    · exact h1 x hx
theorem flat_one (w : Wd) : (w.map fun c => [c]).flatten = w := by
  induction w with
  | nil => rfl
  | cons a l ih => rw [List.map_cons, List.flatten_cons, ih]; rfl
theorem join_one {w : Wd} (h : w.length ≤ 1000) : mtD "join" (S []) [.list ((w.map fun c => [c]).map S)] = some (S w) := by
  show joinD ⟨#[]⟩ _ = _
  rw [joinB_S, flat_one]
  · rw [List.map_map]
    have : ∀ l : List Nat, (l.map (List.length ∘ fun c => [c])).sum = l.length := by
      intro l
      induction l with
      | nil => rfl
      | cons a l ih => rw [List.map_cons, List.sum_cons, ih, List.length_cons]; show 1 + _ = _; omega
    rw [this]
    omega
  · rw [List.length_map]
    omega
theorem r11 {n : Nat} {t : Int} {r : Rl} {most kinds : Nat} (h : Good t r) (ht : t ≤ 1000000) (hm : most ≤ 100) (hk : 1 ≤ kinds) :
    ∃ w r', run fdsL natL (n + 3) 11 [.rill, .d (.int most), .d (.int kinds)] (some r) = some (S w, some r') ∧ AbW w ∧ w.length ≤ most ∧ Good (t + 200) r' := by
  rw [run_succ (fd := f__law_word) rfl rfl]
  -- how many
  obtain ⟨v, r1, e1, v0, v1, g1⟩ := run_draw (fds := fdsL) (n := n + 2) nat8 h (by omega) (many := (most : Int) + 1) (by omega) (by omega)
  obtain ⟨m, rfl⟩ : ∃ m : Nat, v = m := ⟨v.toNat, by omega⟩
  have ab : (abcd.take kinds) ≠ [] := by
    intro q
    have := congrArg List.length q
    rw [List.length_take] at this
    simp [abcd] at this
    omega
  have hit : evIt (run fdsL natL (n + 2)) (.rng (.cons (.call 8 (.cons (.loc 0) (.cons (.bin .Add (.loc 1) (.con (.int 1))) .nil)) [0, 1]) .nil)) [.rill, .v (.int most), .v (.int kinds), .un, .un, .un] (some r) = some ((List.range m).map fun k => PyData.int ((k : Nat) : Int), some r1) := by
    refine evIt_rng (ds := [.int (m : Int)]) (evs_one1 (ev_call (evAs_rill rfl (evAs_d (d := .int ((most : Int) + 1)) (g1 := some r) ?_ evAs_nil)) e1)) (rng_1 (by omega))
    simp [ev, binD, addD]
  obtain ⟨ds, g2, e2, l2, p2, u2, r2, rfl, k2⟩ := comp_inv (f := fun x g => (bindT (.v 3) x (wipeR [.rill, .v (.int most), .v (.int kinds), .un, .un, .un] (tgIx (.v 3)))).bind fun ρ' => (ev (run fdsL natL (n + 2)) (.call 9 (.cons (.loc 0) (.cons (.call 10 (.cons (.loc 2) .nil) [0]) .nil)) [0, 1]) ρ' g).map fun (d, g) => (some d, g))
    (p := fun d => ∃ c, c ∈ abcd ∧ d = S [c]) (l := (List.range m).map fun k => PyData.int ((k : Nat) : Int)) (g := some r1) (fun rest g => ∃ u : Int, ∃ r2, g = some r2 ∧ Good (u - rest.length) r2 ∧ u = t + 1 + m ∧ rest.length ≤ m) ⟨t + 1 + m, r1, rfl, by simp; exact g1.mono (by omega), rfl, by simp⟩ (fun x rest g ⟨u, r2, e, k, eu, kl⟩ => by
      subst e
      rw [List.length_cons] at k kl
      obtain ⟨c, r3, q1, q2, q3⟩ := r9S (n := n + 1) (abcd.take kinds) k (by omega) ab (Nat.le_trans (List.length_take_le' ..) (by decide))
      refine ⟨S [c], some r3, ?_, ⟨c, List.mem_of_mem_take q2, rfl⟩, u, r3, rfl, q3.mono (by omega), eu, by omega⟩
      show (ev _ _ [.rill, .v (.int most), .v (.int kinds), .v x, .un, .un] (some r2)).map _ = _
      rw [ev_call (evAs_rill rfl (evAs_d (d := S (abcd.take kinds)) (g1 := some r2) (ev_call (evAs_d (d := .int kinds) (g1 := some r2) rfl evAs_nil) (r10 (n + 1) kinds _)) evAs_nil)) q1]
      rfl)
  have hm1 : m ≤ most := by omega
  obtain ⟨w1, ok1, len1, rfl⟩ := words_of p2
  have hw1 : w1.length = m := by rw [len1, l2]; simp
  have k2' : Good (t + 1 + m) r2 := by
    have := k2.1
    rw [k2.2.1] at this
    simpa using this
  have hz1 : ((w1.map fun c => [c]).map S).length ≤ 1000000 := by rw [List.length_map, List.length_map]; omega
  have e3 := ev_comp (e := .call 9 (.cons (.loc 0) (.cons (.call 10 (.cons (.loc 2) .nil) [0]) .nil)) [0, 1]) (t := .v 3) hit e2 hz1
  have e4 : ev (run fdsL natL (n + 2)) (.mt "join" (.con (.str (Str.ofString ""))) (.cons (.cmpr (.call 9 (.cons (.loc 0) (.cons (.call 10 (.cons (.loc 2) .nil) [0]) .nil)) [0, 1]) (.v 3) (.rng (.cons (.call 8 (.cons (.loc 0) (.cons (.bin .Add (.loc 1) (.con (.int 1))) .nil)) [0, 1]) .nil)) .no) .nil)) [.rill, .v (.int most), .v (.int kinds), .un, .un, .un] (some r) = some (S w1, some r2) := by
    rw [ev]
    show ((some (PyData.str (Str.ofString ""), some r)).bind fun (x, g) => _) = _
    dsimp only [Option.bind_some]
    rw [evs_one1 e3]
    dsimp only [Option.bind_some]
    rw [c_empty, join_one (by omega)]
    rfl
  generalize hc : run fdsL natL (n + 2) = c at e4
  by_cases hw0 : w1 = []
  · subst hw0
    refine ⟨[], r2, ?_, (fun _ h => nomatch h), Nat.zero_le _, k2'.mono (by omega)⟩
    refine runB_at (ρ := [.rill, .v (.int most), .v (.int kinds), .un, .un, .un]) rfl rfl ?_
    refine execs_nx (exec_set e4 rfl) (execs_nx (exec_if (q := false) (g1 := some r2) ?_ rfl) (execs_rt (exec_ret rfl)))
    rw [ev, ev]
    simp [ev, c_empty, cmpD, eqD_S]
  · obtain ⟨v3, r3, e5, v30, v31, g3⟩ := run_draw (fds := fdsL) (n := n + 2) nat8 k2' (by omega) (many := 3) (by omega) (by omega)
    rw [hc] at e5
    have e6 : ev c (.call 8 (.cons (.loc 0) (.cons (.con (.int 3)) .nil)) [0, 1]) [.rill, .v (.int most), .v (.int kinds), .un, .v (S w1), .un] (some r2) = some (.int v3, some r3) :=
      ev_call (evAs_rill rfl (evAs_d (d := .int 3) (g1 := some r2) rfl evAs_nil)) e5
    have e7 : ev c (.and (.cmp .NotEq (.loc 4) (.con (.str (Str.ofString "")))) (.cmp .Eq (.call 8 (.cons (.loc 0) (.cons (.con (.int 3)) .nil)) [0, 1]) (.con (.int 0)))) [.rill, .v (.int most), .v (.int kinds), .un, .v (S w1), .un] (some r2) = some (.bool (decide (v3 = 0)), some r3) := by
      have e8 : ev c (.cmp .NotEq (.loc 4) (.con (.str (Str.ofString "")))) [.rill, .v (.int most), .v (.int kinds), .un, .v (S w1), .un] (some r2) = some (.bool true, some r2) := by
        simp [ev, c_empty, cmpD, eqD_S, hw0]
      have e9 : ev c (.cmp .Eq (.call 8 (.cons (.loc 0) (.cons (.con (.int 3)) .nil)) [0, 1]) (.con (.int 0))) [.rill, .v (.int most), .v (.int kinds), .un, .v (S w1), .un] (some r2) = some (.bool (decide (v3 = 0)), some r3) := by
        rw [ev, e6]
        simp [ev, cmpD, eqD_I]
      rw [ev, e8]
      exact e9
    by_cases h30 : v3 = 0
    · have hp : 0 < w1.length := List.length_pos_iff.mpr hw0
      obtain ⟨v4, r4, e10, v40, v41, g4⟩ := run_draw (fds := fdsL) (n := n + 2) nat8 g3 (by omega) (many := (w1.length : Int)) (by omega) (by omega)
      rw [hc] at e10
      obtain ⟨j, rfl⟩ : ∃ j : Nat, v4 = j := ⟨v4.toNat, by omega⟩
      have hj : j < w1.length := by omega
      have pl : (w1.take (1 + j)).length = 1 + j := by rw [List.length_take]; omega
      have hq : (most / (1 + j)) * (1 + j) ≤ most := Nat.div_mul_le_self ..
      have hq2 : most / (1 + j) ≤ most := Nat.div_le_self ..
      have hflat : (List.replicate (most / (1 + j)) (w1.take (1 + j))).flatten.length = (most / (1 + j)) * (1 + j) := by
        rw [List.length_flatten, List.map_replicate, pl, List.sum_replicate_nat]
      refine ⟨((List.replicate (most / (1 + j)) (w1.take (1 + j))).flatten ++ w1).take most, r4, ?_, fun x hx => ?_, ?_, g4.mono (by omega)⟩
      · refine runB_at (ρ := [.rill, .v (.int most), .v (.int kinds), .un, .un, .un]) rfl rfl ?_
        refine execs_nx (exec_set e4 rfl) (execs_nx (ρ' := [.rill, .v (.int most), .v (.int kinds), .un, .v (S (((List.replicate (most / (1 + j)) (w1.take (1 + j))).flatten ++ w1).take most)), .v (S (w1.take (1 + j)))]) (g' := some r4) (exec_if (q := true) (g1 := some r3) (by rw [← show decide (v3 = 0) = true from decide_eq_true h30]; exact e7) ?_) (execs_rt (exec_ret rfl)))
        rw [if_pos rfl]
        refine execs_nx (exec_set (d := S (w1.take (1 + j))) (g' := some r4) ?_ rfl) (execs_nx (exec_set (d := S (((List.replicate (most / (1 + j)) (w1.take (1 + j))).flatten ++ w1).take most)) (g' := some r4) ?_ rfl) rfl)
        · have e11 : ev c (.call 8 (.cons (.loc 0) (.cons (.bi "len" (.cons (.loc 4) .nil)) .nil)) [0, 1]) [.rill, .v (.int most), .v (.int kinds), .un, .v (S w1), .un] (some r3) = some (.int (j : Int), some r4) :=
            ev_call (evAs_rill rfl (evAs_d (d := .int w1.length) (g1 := some r3) (ev_bi (evs_one1 rfl) (lenB_S (by omega))) evAs_nil)) e10
          have e12 : ev c (.bin .Add (.con (.int 1)) (.call 8 (.cons (.loc 0) (.cons (.bi "len" (.cons (.loc 4) .nil)) .nil)) [0, 1])) [.rill, .v (.int most), .v (.int kinds), .un, .v (S w1), .un] (some r3) = some (.int ((1 + j : Nat) : Int), some r4) := by
            rw [ev]
            show ((some (PyData.int 1, some r3)).bind fun (x, g) => _) = _
            dsimp only [Option.bind_some]
            rw [e11]
            simp [binD, addD]
          show ev c _ [.rill, .v (.int most), .v (.int kinds), .un, .v (S w1), .un] (some r3) = _
          rw [ev]
          show ((some (S w1, some r3)).bind fun (x, g) => _) = _
          dsimp only [Option.bind_some]
          rw [e12]
          dsimp only [Option.bind_some, optI, Option.map_some]
          rw [slD_S (by omega), cutTo]
          rfl
        · show ev c _ [.rill, .v (.int most), .v (.int kinds), .un, .v (S w1), .v (S (w1.take (1 + j)))] (some r4) = _
          have f0 : ev c (.bi "len" (.cons (.loc 5) .nil)) [.rill, .v (.int most), .v (.int kinds), .un, .v (S w1), .v (S (w1.take (1 + j)))] (some r4) = some (.int ((1 + j : Nat) : Int), some r4) := by
            have := ev_bi (c := c) (f := "len") (evs_one1 (c := c) (e := .loc 5) (ρ := [.rill, .v (.int most), .v (.int kinds), .un, .v (S w1), .v (S (w1.take (1 + j)))]) (g := some r4) rfl) (lenB_S (w := w1.take (1 + j)) (by omega))
            rw [pl] at this
            exact this
          have f1 : ev c (.bin .FloorDiv (.loc 1) (.bi "len" (.cons (.loc 5) .nil))) [.rill, .v (.int most), .v (.int kinds), .un, .v (S w1), .v (S (w1.take (1 + j)))] (some r4) = some (.int ((most / (1 + j) : Nat) : Int), some r4) := by
            rw [ev]
            show ((some (PyData.int most, some r4)).bind fun (x, g) => _) = _
            dsimp only [Option.bind_some]
            rw [f0]
            dsimp only [Option.bind_some]
            show (fdivD (.int most) (.int ((1 + j : Nat) : Int))).map _ = _
            have : fdivD (.int most) (.int ((1 + j : Nat) : Int)) = some (.int ((most : Int) / ((1 + j : Nat) : Int))) := by
              show (if 0 < ((1 + j : Nat) : Int) ∧ ((1 + j : Nat) : Int).natAbs.log2 < 9000 then _ else _) = _
              rw [if_pos]
              refine ⟨by omega, ?_⟩
              have h1 : ((1 + j : Nat) : Int).natAbs = 1 + j := by omega
              rw [h1]
              have : (1 + j).log2 < 10 := (Nat.log2_lt (by omega)).mpr (by omega)
              omega
            rw [this]
            rfl
          have f2 : ev c (.bin .Mult (.loc 5) (.bin .FloorDiv (.loc 1) (.bi "len" (.cons (.loc 5) .nil)))) [.rill, .v (.int most), .v (.int kinds), .un, .v (S w1), .v (S (w1.take (1 + j)))] (some r4) = some (S (List.replicate (most / (1 + j)) (w1.take (1 + j))).flatten, some r4) := by
            rw [ev]
            show ((some (S (w1.take (1 + j)), some r4)).bind fun (x, g) => _) = _
            dsimp only [Option.bind_some]
            rw [f1]
            show (mulD (S (w1.take (1 + j))) (.int ((most / (1 + j) : Nat) : Int))).map _ = _
            rw [mulD_S (by rw [pl, Nat.mul_comm]; omega) (by omega)]
            rfl
          exact ev_sl (ev_bin f2 (y := S w1) (g2 := some r4) rfl (addD_S (by rw [hflat]; omega))) evO_no (evO_some (i := most) (g1 := some r4) rfl rfl) (by rw [slD_S (by rw [List.length_append, hflat]; omega), cutTo])
      · rcases List.mem_append.mp (List.mem_of_mem_take hx) with h | h
        · obtain ⟨l, h1, h2⟩ := List.mem_flatten.mp h
          rw [List.eq_of_mem_replicate h1] at h2
          exact ok1 x (List.mem_of_mem_take h2)
        · exact ok1 x h
      · rw [List.length_take]
        exact Nat.min_le_left ..
    · refine ⟨w1, r3, ?_, ok1, by omega, g3.mono (by omega)⟩
      refine runB_at (ρ := [.rill, .v (.int most), .v (.int kinds), .un, .un, .un]) rfl rfl ?_
      exact execs_nx (exec_set e4 rfl) (execs_nx (exec_if (q := false) (g1 := some r3) (by rw [← show decide (v3 = 0) = false from decide_eq_false h30]; exact e7) rfl) (execs_rt (exec_ret rfl)))
end PV
set_option maxHeartbeats 1000000
namespace PV
open PySem PySem.Spec PyProof.Rows L2
/-! ### the plain law of k57: pieces and ways on -/
theorem mem_pcs {w u : Wd} {k : Nat} (hk : k ≤ w.length) : u ∈ pcs w k ↔ ∃ p, p + k ≤ w.length ∧ piece w p k = u := by
  unfold pcs
  rw [List.mem_map]
  constructor
  · rintro ⟨p, h1, h2⟩
    exact ⟨p, by have := List.mem_range.mp h1; omega, h2⟩
  · rintro ⟨p, h1, h2⟩
    exact ⟨p, List.mem_range.mpr (by omega), h2⟩
theorem piece_len {w : Wd} {p k : Nat} (h : p + k ≤ w.length) : (piece w p k).length = k := by
  unfold piece
  rw [List.length_take, List.length_drop]
  omega
theorem part_iff {u w : Wd} : isPart u w = true ↔ ∃ p, p + u.length ≤ w.length ∧ piece w p u.length = u := by
  rw [isPart_iff]
  constructor
  · rintro ⟨i, h1, h2⟩
    have h3 := h2.length_le
    rw [List.length_drop] at h3
    exact ⟨i, by omega, (List.prefix_iff_eq_take.mp h2).symm⟩
  · rintro ⟨p, h1, h2⟩
    refine ⟨p, by omega, ?_⟩
    rw [List.prefix_iff_eq_take]
    exact h2.symm
theorem piece_succ {w : Wd} {p k : Nat} (h : p + k < w.length) : piece w p (k + 1) = piece w p k ++ [w[p + k]] := by
  unfold piece
  rw [List.take_add_one, List.getElem?_drop, List.getElem?_eq_getElem h]
  rfl
theorem ab_nodup : abcd.Nodup := by decide
theorem ways_nodup (w u : Wd) : (waysW w u).Nodup := List.Nodup.sublist List.filter_sublist ab_nodup
theorem ways_mem {w u : Wd} {c : Nat} : c ∈ waysW w u ↔ c ∈ abcd ∧ isPart (u ++ [c]) w = true := by
  unfold waysW
  rw [List.mem_filter]
/-- the pieces one sign longer, by the ways on -/
theorem next_perm {w : Wd} {k : Nat} (hw : AbW w) (hk : k < w.length) : (eoW (pcs w (k + 1))).Perm ((eoW (pcs w k)).flatMap fun u => (waysW w u).map fun c => u ++ [c]) := by
  rw [List.perm_ext_iff_of_nodup (eoW_spec _).1]
  · intro v
    rw [(eoW_spec _).2 v, mem_pcs (by omega), List.mem_flatMap]
    constructor
    · rintro ⟨p, h1, rfl⟩
      refine ⟨piece w p k, ((eoW_spec _).2 _).mpr ((mem_pcs (by omega)).mpr ⟨p, by omega, rfl⟩), ?_⟩
      rw [piece_succ (by omega)]
      refine List.mem_map.mpr ⟨w[p + k], ways_mem.mpr ⟨hw _ (List.getElem_mem _), part_iff.mpr ⟨p, ?_, ?_⟩⟩, rfl⟩
      · rw [List.length_append, piece_len (by omega)]
        simpa using h1
      · rw [List.length_append, piece_len (by omega)]
        exact piece_succ (by omega)
    · rintro ⟨u, hu, hv⟩
      obtain ⟨p0, h0, rfl⟩ := (mem_pcs (by omega)).mp (((eoW_spec _).2 u).mp hu)
      obtain ⟨c, hc, rfl⟩ := List.mem_map.mp hv
      obtain ⟨p, h1, h2⟩ := part_iff.mp (ways_mem.mp hc).2
      rw [List.length_append, piece_len h0] at h1 h2
      exact ⟨p, h1, h2⟩
  · unfold List.Nodup
    rw [List.pairwise_flatMap]
    refine ⟨fun u _ => ?_, ?_⟩
    · refine List.Pairwise.map _ (fun a b (h : a ≠ b) e => h ?_) (ways_nodup w u)
      have := List.append_inj_right' e rfl
      simpa using this
    · refine List.Pairwise.imp ?_ (eoW_spec (pcs w k)).1
      intro a b hab x hx y hy e
      obtain ⟨c, _, rfl⟩ := List.mem_map.mp hx
      obtain ⟨d, _, rfl⟩ := List.mem_map.mp hy
      exact hab (List.append_inj_left' e rfl)
theorem sumI_perm {l m : List Int} (h : l.Perm m) : l.sum = m.sum := by
  induction h with
  | nil => rfl
  | cons a _ ih => rw [List.sum_cons, List.sum_cons, ih]
  | swap a b l => rw [List.sum_cons, List.sum_cons, List.sum_cons, List.sum_cons]; omega
  | trans _ _ h1 h2 => rw [h1, h2]
/-- less one each: the forked ones, and those that end -/
theorem sum_split (f : Wd → Nat) : ∀ l : List Wd, (((l.map f).sum : Nat) : Int) - (l.length : Int) = ((l.filter fun u => decide (f u > 1)).map fun u => ((f u : Nat) : Int) - 1).sum - ((l.filter fun u => decide (f u = 0)).length : Int)
  | [] => rfl
  | a :: l => by
    have ih := sum_split f l
    rw [List.map_cons, List.sum_cons, List.length_cons]
    by_cases h1 : f a > 1
    · rw [List.filter_cons_of_pos (by simpa using h1), List.filter_cons_of_neg (by simp; omega), List.map_cons, List.sum_cons]
      omega
    · by_cases h0 : f a = 0
      · rw [List.filter_cons_of_neg (by simpa using h1), List.filter_cons_of_pos (by simpa using h0), List.length_cons]
        omega
      · rw [List.filter_cons_of_neg (by simpa using h1), List.filter_cons_of_neg (by simpa using h0)]
        omega
def endW (w : Wd) (k : Nat) : Wd := w.drop (w.length - k)
def occ (w : Wd) (k : Nat) : List Nat := (List.range (w.length - k + 1)).filter fun q => decide (piece w q k = endW w k)
theorem end_piece {w : Wd} {k : Nat} (hk : k ≤ w.length) : piece w (w.length - k) k = endW w k := by
  unfold piece endW
  rw [List.take_of_length_le]
  rw [List.length_drop]
  omega
theorem mem_occ {w : Wd} {k q : Nat} (hk : k ≤ w.length) : q ∈ occ w k ↔ q + k ≤ w.length ∧ piece w q k = endW w k := by
  unfold occ
  rw [List.mem_filter, List.mem_range, decide_eq_true_eq]
  constructor
  · rintro ⟨h1, h2⟩; exact ⟨by omega, h2⟩
  · rintro ⟨h1, h2⟩; exact ⟨by omega, h2⟩
/-- the piece at p has no way on only if it is the end, found once -/
theorem no_ways {w : Wd} {k : Nat} (hw : AbW w) (hk : k < w.length) (u : Wd) (hu : u ∈ pcs w k) : (waysW w u).length = 0 ↔ u = endW w k ∧ (occ w k).length = 1 := by
  have hocc : (w.length - k) ∈ occ w k := (mem_occ (by omega)).mpr ⟨by omega, end_piece (by omega)⟩
  have nd : (occ w k).Nodup := List.Nodup.sublist List.filter_sublist List.nodup_range
  obtain ⟨p, hp, rfl⟩ := (mem_pcs (by omega)).mp hu
  have grow : ∀ q, q + k < w.length → piece w q k = piece w p k → w[q + k]? ≠ none → 0 < (waysW w (piece w p k)).length := fun q h1 h2 _ => by
    have : w[q + k] ∈ waysW w (piece w p k) := ways_mem.mpr ⟨hw _ (List.getElem_mem _), part_iff.mpr ⟨q, by rw [List.length_append, piece_len hp]; exact h1, by rw [List.length_append, piece_len hp]; rw [← h2]; exact piece_succ h1⟩⟩
    exact List.length_pos_of_mem this
  constructor
  · intro h0
    have all : ∀ q, q + k ≤ w.length → piece w q k = piece w p k → q + k = w.length := fun q h1 h2 => by
      apply Classical.byContradiction
      intro ne
      have := grow q (by omega) h2 (by rw [List.getElem?_eq_getElem (by omega)]; simp)
      omega
    have e1 : p + k = w.length := all p hp rfl
    have e2 : piece w p k = endW w k := by
      rw [show p = w.length - k by omega]
      exact end_piece (by omega)
    refine ⟨e2, ?_⟩
    have sub : ∀ q ∈ occ w k, q ∈ [w.length - k] := fun q hq => by
      obtain ⟨h1, h2⟩ := (mem_occ (by omega)).mp hq
      have := all q h1 (h2.trans e2.symm)
      exact List.mem_singleton.mpr (by omega)
    have le := nodup_le nd sub
    have pos := List.length_pos_of_mem hocc
    simp at le
    omega
  · rintro ⟨e2, h1⟩
    apply Classical.byContradiction
    intro h0
    have pos : 0 < (waysW w (piece w p k)).length := by omega
    obtain ⟨c, hc⟩ := List.exists_mem_of_length_pos pos
    obtain ⟨q, h3, h4⟩ := part_iff.mp (ways_mem.mp hc).2
    rw [List.length_append, piece_len hp] at h3 h4
    have h3' : q + k < w.length := by
      have h := h3
      simp at h
      omega
    have h4' : piece w q (k + 1) = piece w p k ++ [c] := h4
    rw [piece_succ h3'] at h4'
    have h5 := List.append_inj_left' h4' rfl
    have hq : q ∈ occ w k := (mem_occ (by omega)).mpr ⟨by omega, h5.trans e2⟩
    obtain ⟨z, hz⟩ := List.length_eq_one_iff.mp h1
    rw [hz] at hq hocc
    have := List.mem_singleton.mp hq
    have := List.mem_singleton.mp hocc
    omega
/-- what the law says of each length -/
theorem step_law {w : Wd} {k : Nat} (hw : AbW w) (hk : k < w.length) :
    ((eoW (pcs w (k + 1))).length : Int) - ((eoW (pcs w k)).length : Int) = (((forkW w).filter fun u => decide (u.length = k)).map fun u => ((waysW w u).length : Int) - 1).sum - (if (occ w k).length = 1 then 1 else 0) := by
  have e1 : (eoW (pcs w (k + 1))).length = ((eoW (pcs w k)).map fun u => (waysW w u).length).sum := by
    rw [(next_perm hw hk).length_eq, List.length_flatMap]
    congr 1
    exact List.map_congr_left fun u _ => List.length_map ..
  rw [e1, sum_split]
  have e2 : ((eoW (pcs w k)).filter fun u => decide ((waysW w u).length > 1)).Perm ((forkW w).filter fun u => decide (u.length = k)) := by
    rw [List.perm_ext_iff_of_nodup]
    · intro u
      unfold forkW
      rw [List.mem_filter, List.mem_filter, List.mem_filter, (eoW_spec _).2 u, allW_mem]
      simp only [decide_eq_true_eq]
      constructor
      · rintro ⟨h1, h2⟩
        exact ⟨⟨⟨k, by omega, h1⟩, h2⟩, pcs_mem (by omega) h1⟩
      · rintro ⟨⟨⟨j, h0, h1⟩, h2⟩, h3⟩
        have := pcs_mem h0 h1
        have e : j = k := by omega
        subst e
        exact ⟨h1, h2⟩
    · exact List.Nodup.sublist List.filter_sublist (eoW_spec _).1
    · exact List.Nodup.sublist List.filter_sublist (List.Nodup.sublist List.filter_sublist (eoW_spec _).1)
  rw [sumI_perm (e2.map _)]
  have e3 : (((eoW (pcs w k)).filter fun u => decide ((waysW w u).length = 0)).length : Int) = if (occ w k).length = 1 then 1 else 0 := by
    have nd : ((eoW (pcs w k)).filter fun u => decide ((waysW w u).length = 0)).Nodup := List.Nodup.sublist List.filter_sublist (eoW_spec _).1
    have mem : ∀ u, u ∈ ((eoW (pcs w k)).filter fun u => decide ((waysW w u).length = 0)) ↔ u = endW w k ∧ (occ w k).length = 1 := fun u => by
      rw [List.mem_filter, (eoW_spec _).2 u, decide_eq_true_eq]
      constructor
      · rintro ⟨h1, h2⟩
        exact (no_ways hw hk u h1).mp h2
      · rintro ⟨h1, h2⟩
        have hu : u ∈ pcs w k := (mem_pcs (by omega)).mpr ⟨w.length - k, by omega, by rw [h1]; exact end_piece (by omega)⟩
        exact ⟨hu, (no_ways hw hk u hu).mpr ⟨h1, h2⟩⟩
    by_cases h1 : (occ w k).length = 1
    · rw [if_pos h1]
      have := nodup_len nd (b := [endW w k]) (by simp) fun u => by rw [mem u, List.mem_singleton]; exact ⟨fun h => h.1, fun h => ⟨h, h1⟩⟩
      rw [this]
      rfl
    · rw [if_neg h1]
      have : ((eoW (pcs w k)).filter fun u => decide ((waysW w u).length = 0)) = [] := List.eq_nil_iff_forall_not_mem.mpr fun u hu => h1 ((mem u).mp hu).2
      rw [this]
      rfl
  rw [e3]
/-! ### read from behind; sums -/
theorem piece_rev {w : Wd} {p k : Nat} (h : p + k ≤ w.length) : piece w.reverse p k = (piece w (w.length - k - p) k).reverse := by
  unfold piece
  rw [List.drop_reverse, List.take_reverse, List.length_take, List.drop_take]
  congr 1
  have e : min (w.length - p) w.length - k = w.length - k - p := by omega
  rw [e]
  congr 1
  omega
theorem rev_count {w : Wd} {k : Nat} (hk : k ≤ w.length) : (eoW (pcs w.reverse k)).length = (eoW (pcs w k)).length := by
  have h : (eoW (pcs w.reverse k)).length = ((eoW (pcs w k)).map List.reverse).length := by
    refine nodup_len (eoW_spec _).1 ?_ fun u => ?_
    · exact List.Pairwise.map _ (fun a b (h : a ≠ b) e => h (List.reverse_inj.mp e)) (eoW_spec _).1
    · rw [(eoW_spec _).2 u, mem_pcs (by rw [List.length_reverse]; exact hk), List.mem_map]
      constructor
      · rintro ⟨p, h1, rfl⟩
        rw [List.length_reverse] at h1
        exact ⟨piece w (w.length - k - p) k, ((eoW_spec _).2 _).mpr ((mem_pcs hk).mpr ⟨_, by omega, rfl⟩), (piece_rev h1).symm⟩
      · rintro ⟨v, hv, rfl⟩
        obtain ⟨p, h1, rfl⟩ := (mem_pcs hk).mp (((eoW_spec _).2 v).mp hv)
        refine ⟨w.length - k - p, by rw [List.length_reverse]; omega, ?_⟩
        rw [piece_rev (by omega), show w.length - k - (w.length - k - p) = p by omega]
  rw [h, List.length_map]
theorem cnts_rev (w : Wd) : cnts w.reverse = cnts w := by
  unfold cnts
  rw [List.length_reverse]
  refine List.map_congr_left fun k hk => ?_
  rw [rev_count (by have := List.mem_range.mp hk; omega)]
theorem tele (a : Nat → Int) : ∀ n : Nat, ((List.range n).map fun i => a (i + 1) - a i).sum = a n - a 0
  | 0 => by simp
  | n + 1 => by
    rw [List.range_succ, List.map_append, List.sum_append, tele a n]
    simp
    omega
theorem new_sum (w : Wd) : (newW w).sum + 1 = (cnts w).sum := by
  unfold newW
  rw [tele]
  unfold sumW
  rw [List.take_length, List.take_zero]
  have : (cnts []).sum = 1 := by decide
  omega
theorem cnts_bd {w : Wd} (hl : w.length ≤ 1000) : ∀ i ∈ cnts w, 0 ≤ i ∧ i ≤ 1001 := fun i hi => by
  obtain ⟨k, _, rfl⟩ := List.mem_map.mp hi
  have h1 := eoW_len_le (pcs w k)
  rw [pcs_len] at h1
  omega
theorem sum_bd {b : Int} (hb : 0 ≤ b) : ∀ {l : List Int}, (∀ i ∈ l, 0 ≤ i ∧ i ≤ b) → 0 ≤ l.sum ∧ l.sum ≤ b * l.length
  | [], _ => by simp
  | a :: l, h => by
    obtain ⟨h1, h2⟩ := sum_bd hb (l := l) fun i hi => h i (List.mem_cons_of_mem _ hi)
    obtain ⟨h3, h4⟩ := h a (List.mem_cons_self ..)
    rw [List.sum_cons, List.length_cons]
    have : b * ((l.length + 1 : Nat) : Int) = b * l.length + b := by
      rw [show ((l.length + 1 : Nat) : Int) = (l.length : Int) + 1 by omega, Int.mul_add, Int.mul_one]
    omega
theorem cnts_len (w : Wd) : (cnts w).length = w.length + 1 := by unfold cnts; simp
theorem sumW_bd {w : Wd} (hl : w.length ≤ 1000) (k : Nat) : 0 ≤ sumW w k ∧ sumW w k ≤ 10000000 := by
  have ht : (w.take k).length ≤ 1000 := by rw [List.length_take]; omega
  obtain ⟨h1, h2⟩ := sum_bd (b := 1001) (by decide) (cnts_bd ht)
  rw [cnts_len] at h2
  unfold sumW
  omega
theorem okT_cnts {w : Wd} (hl : w.length ≤ 1000) : okD (.tuple ((cnts w).map PyData.int)) = true := by
  unfold okD
  exact okL_I fun i hi => small_log (by have := cnts_bd hl i hi; omega) (by have := cnts_bd hl i hi; omega)
theorem okT_new {w : Wd} (hl : w.length ≤ 1000) : okD (.tuple ((newW w).map PyData.int)) = true := by
  unfold okD
  refine okL_I fun i hi => ?_
  obtain ⟨k, _, rfl⟩ := List.mem_map.mp hi
  have h1 := sumW_bd hl k
  have h2 := sumW_bd hl (k + 1)
  exact small_log (by omega) (by omega)
theorem dep_T (l : List Int) : (PyData.tuple (l.map PyData.int)).depth ≤ 64 := by
  unfold PyData.depth
  rw [depth_I]
  decide
theorem wt_T {l : List Int} (h : l.length ≤ 1001) : wt (.tuple (l.map PyData.int)) ≤ 16000000 := by
  unfold wt
  rw [wtL_I]
  omega
theorem rep3 {w : Wd} (hl : w.length ≤ 1000) : ∃ z, reprB [.list [.tuple ((cnts w).map PyData.int), .tuple ((cnts w).map PyData.int), .tuple ((cnts w).map PyData.int)]] = some (.str z) := by
  refine ⟨_, reprB_ok ?_ ?_ ?_⟩
  · unfold okD okL okL okL okL
    rw [okT_cnts hl]
    rfl
  · unfold PyData.depth PyData.depthAll PyData.depthAll PyData.depthAll PyData.depthAll PyData.depth
    rw [depth_I]
    decide
  · unfold wt wtL wtL wtL wtL wt
    rw [wtL_I, cnts_len]
    omega
/-! ### the law's check of one word -/
def rev_ab {w : Wd} (h : AbW w) : AbW w.reverse := fun c hc => h c (List.mem_reverse.mp hc)
abbrev TC (w : Wd) : D := .tuple ((cnts w).map PyData.int)
abbrev TN (w : Wd) : D := .tuple ((newW w).map PyData.int)
theorem ne_same (z : PySem.Str) : cmpD .NotEq (.str z) (.str z) = some false := by
  show (some (decide (z = z))).map _ = _
  simp
theorem ne_int (i : Int) : cmpD .NotEq (.int i) (.int i) = some false := by
  show (some (decide (i = i))).map _ = _
  simp
theorem ix_T {l : List Int} {k : Nat} {i : Int} (h : l[k]? = some i) : ixD (.tuple (l.map PyData.int)) (.int (k : Int)) = some (.int i) := by
  show atI _ _ = _
  exact atI_nat (by rw [List.getElem?_map, h]; rfl)
theorem ix_L {f : Nat → Int} {n k : Nat} (h : k < n) : ixD (.list ((List.range n).map fun j => PyData.int (f j))) (.int (k : Int)) = some (.int (f k)) := by
  show atI _ _ = _
  exact atI_nat (by rw [List.getElem?_map, List.getElem?_range h]; rfl)
theorem cnts_get {w : Wd} {k : Nat} (hk : k ≤ w.length) : (cnts w)[k]? = some ((eoW (pcs w k)).length : Int) := by
  unfold cnts
  rw [List.getElem?_map, List.getElem?_range (by omega)]
  rfl
/-- one turn of the law's loop over the lengths -/
theorem turn13 {n : Nat} {w : Wd} {g : G} {k : Nat} {gr : Bool} {s3 s4 s5 s6 s8 s9 s10 s11 s12 : Sl} (hw : AbW w) (hl : w.length ≤ 100) (hk : k < w.length) :
    execs (run fdsL natL (n + 4)) (.cons (.set (.v 9) (.bi "sum" (.cons (.cmpr (.bin .Sub (.bi "len" (.cons (.call 5 (.cons (.loc 0) (.cons (.loc 8) .nil)) [0, 1]) .nil)) (.con (.int 1))) (.v 8) (.val (.loc 7)) (.cmp .Eq (.bi "len" (.cons (.loc 8) .nil)) (.loc 3))) .nil))) (.cons (.set (.v 10) (.sl (.loc 0) (.bin .Sub (.bi "len" (.cons (.loc 0) .nil)) (.loc 3)) .no)) (.cons (.set (.v 12) (.bi "int" (.cons (.cmp .Eq (.bi "len" (.cons (.cmpr (.loc 11) (.v 11) (.rng (.cons (.bin .Add (.bin .Sub (.bi "len" (.cons (.loc 0) .nil)) (.loc 3)) (.con (.int 1))) .nil)) (.cmp .Eq (.sl (.loc 0) (.loc 11) (.bin .Add (.loc 11) (.loc 3))) (.loc 10))) .nil)) (.con (.int 1))) .nil))) (.cons (.ife (.cmp .NotEq (.bin .Sub (.ix (.loc 2) (.bin .Add (.loc 3) (.con (.int 1)))) (.ix (.loc 2) (.loc 3))) (.bin .Sub (.loc 9) (.loc 12))) (.cons (.ret (.con (.bool false))) .nil) .nil) .nil))))
      [.v (S w), .v (.bool gr), .v (TC w), .v (.int k), s4, s5, s6, .v (.tuple ((forkW w).map S)), s8, s9, s10, s11, s12] g =
    some (.nx [.v (S w), .v (.bool gr), .v (TC w), .v (.int k), s4, s5, s6, .v (.tuple ((forkW w).map S)), s8, .v (.int (((forkW w).filter fun u => decide (u.length = k)).map fun u => ((waysW w u).length : Int) - 1).sum), .v (S (endW w k)), s11, .v (.int (if (occ w k).length = 1 then 1 else 0))] g) := by
  have hfl : (forkW w).length ≤ 101 * 101 := by
    unfold forkW
    have h0 : ((allW w).filter fun u => decide ((waysW w u).length > 1)).length ≤ (allW w).length := List.length_filter_le ..
    have h1 := eoW_len_le (flatP w (w.length + 1))
    have h2 := flatP_len w (w.length + 1)
    have h3 : (w.length + 1) * (w.length + 1) ≤ 101 * 101 := Nat.mul_le_mul (by omega) (by omega)
    unfold allW at h0 ⊢
    omega
  have lenw : ∀ ρ : List Sl, ρ[0]? = some (.v (S w)) → ev (run fdsL natL (n + 4)) (.bi "len" (.cons (.loc 0) .nil)) ρ g = some (.int w.length, g) := fun ρ h => ev_bi (evs_one1 (d := S w) (by rw [ev, h])) (lenB_S (by omega))
  -- more
  refine execs_nx (exec_set (d := .int (((forkW w).filter fun u => decide (u.length = k)).map fun u => ((waysW w u).length : Int) - 1).sum) (g' := g) (ev_bi (evs_one1 (d := .list ((((forkW w).filter fun u => decide (u.length = k)).map fun u => ((waysW w u).length : Int) - 1).map PyData.int)) ?_) (sum_L _)) rfl) ?_
  · rw [List.map_map]
    refine ev_filter (inj := S) (f := fun u => PyData.int (((waysW w u).length : Int) - 1)) (p := fun u => decide (u.length = k)) (evIt_val (d := .tuple ((forkW w).map S)) (g' := g) rfl rfl) (by omega) rfl fun u hu => ⟨_, rfl, ?_, fun _ => ?_⟩
    · have hul : u.length ≤ 1000 := by
        unfold forkW at hu
        obtain ⟨j, h1, h2⟩ := (allW_mem w u).mp (List.mem_filter.mp hu).1
        have := pcs_mem h1 h2
        omega
      have e : decide (u.length = k) = decide ((u.length : Int) = (k : Int)) := decide_eq_decide.mpr (by omega)
      rw [e]
      exact ev_cmp (ev_bi (evs_one1 (d := S u) (g1 := g) rfl) (lenB_S (by omega))) (g2 := g) rfl rfl
    · have hul : u.length ≤ 1000 := by
        unfold forkW at hu
        obtain ⟨j, h1, h2⟩ := (allW_mem w u).mp (List.mem_filter.mp hu).1
        have := pcs_mem h1 h2
        omega
      have h4 : (waysW w u).length ≤ 4 := List.length_filter_le _ abcd
      exact ev_bin (ev_bi (evs_one1 (ev_call (evAs_d (d := S w) (g1 := g) rfl (evAs_d (d := S u) (g1 := g) rfl evAs_nil)) (r5 (n + 2) w u g (by omega) hul))) (lenB_S (by omega))) (y := .int 1) (g2 := g) rfl rfl
  -- end
  refine execs_nx (exec_set (d := S (endW w k)) (g' := g) (ev_sl (x := S w) (g1 := g) rfl (evO_some (i := ((w.length - k : Nat) : Int)) (g1 := g) rfl (ev_bin (lenw _ rfl) (y := .int k) (g2 := g) rfl ?_)) evO_no ?_) rfl) ?_
  · show some (PyData.int ((w.length : Int) - (k : Int))) = _
    rw [show (w.length : Int) - (k : Int) = ((w.length - k : Nat) : Int) by omega]
  · rw [slD_S (by omega), cutFrom]
    rfl
  -- less
  refine execs_nx (exec_set (d := .int (if (occ w k).length = 1 then 1 else 0)) (g' := g) (ev_bi (evs_one1 (d := .bool (decide ((occ w k).length = 1))) (ev_cmp (x := .int (occ w k).length) (ev_bi (evs_one1 (d := .list ((occ w k).map fun q => PyData.int ((q : Nat) : Int))) ?_) ?_) (y := .int 1) (g2 := g) rfl ?_)) ?_) rfl) ?_
  · unfold occ
    refine ev_filter (inj := fun q => PyData.int ((q : Nat) : Int)) (f := fun q => PyData.int ((q : Nat) : Int)) (p := fun q => decide (piece w q k = endW w k)) (xs := List.range (w.length - k + 1)) (evIt_rng (ds := [.int ((w.length - k + 1 : Nat) : Int)]) (evs_one1 (ev_bin (ev_bin (lenw _ rfl) (y := .int k) (g2 := g) rfl rfl) (y := .int 1) (g2 := g) rfl ?_)) (rng_1 (by omega))) (by rw [List.length_range]; omega) rfl fun q hq => ⟨_, rfl, ?_, fun _ => rfl⟩
    · show some (PyData.int ((w.length : Int) - (k : Int) + 1)) = _
      rw [show (w.length : Int) - (k : Int) + 1 = ((w.length - k + 1 : Nat) : Int) by omega]
    · have hq' : q + k ≤ w.length := by have := List.mem_range.mp hq; omega
      refine ev_cmp (ev_sl (x := S w) (g1 := g) rfl (evO_some (i := q) (g1 := g) rfl rfl) (evO_some (i := (q : Int) + (k : Int)) (g1 := g) rfl rfl) (by rw [slD_S (by omega), cut_nat hq'])) (y := S (endW w k)) (g2 := g) rfl ?_
      exact eqD_S _ _
  · show some (PyData.int ((occ w k).map fun q => PyData.int ((q : Nat) : Int)).length) = _
    rw [List.length_map]
  · show some (decide (((occ w k).length : Int) = 1)) = _
    congr 1
    exact decide_eq_decide.mpr (by omega)
  · show some (PyData.int (if decide ((occ w k).length = 1) = true then 1 else 0)) = _
    by_cases h : (occ w k).length = 1 <;> simp [h]
  -- the difference
  refine execs_nx (exec_if (q := false) (g1 := g) (ev_cmp (x := .int (((eoW (pcs w (k + 1))).length : Int) - ((eoW (pcs w k)).length : Int))) (y := .int (((eoW (pcs w (k + 1))).length : Int) - ((eoW (pcs w k)).length : Int))) (g1 := g) (g2 := g) ?_ ?_ (ne_int _)) rfl) rfl
  · refine ev_bin (ev_ix (x := TC w) (y := .int ((k + 1 : Nat) : Int)) (g1 := g) (g2 := g) rfl (ev_bin (x := .int k) (y := .int 1) (g1 := g) rfl rfl ?_) (ix_T (cnts_get (by omega)))) (ev_ix (x := TC w) (y := .int k) (g1 := g) (g2 := g) rfl rfl (ix_T (cnts_get (by omega)))) rfl
    rfl
  · rw [step_law hw hk]
    exact ev_bin (x := .int _) (y := .int _) (g1 := g) rfl rfl rfl
theorem rep1 {d : D} (h : okD d = true) (hd : d.depth ≤ 64) (hw : wt d ≤ 16000000) : ∃ z, biD "repr" [d] = some (.str z) := ⟨_, reprB_ok h hd hw⟩
theorem new_len (w : Wd) : (newW w).length = w.length := by unfold newW; simp
theorem r13 (n : Nat) {w : Wd} (gr : Bool) (g : G) (hw : AbW w) (hl : w.length ≤ 100) : run fdsL natL (n + 5) 13 [.d (S w), .d (.bool gr)] g = some (.bool true, g) := by
  have ok := hw.ok
  have c3 : ∀ ρ : List Sl, ρ[0]? = some (.v (S w)) → ev (run fdsL natL (n + 4)) (.call 3 (.cons (.loc 0) .nil) [0]) ρ g = some (TC w, g) := fun ρ h => ev_call (evAs_d (d := S w) (by rw [ev, h]) evAs_nil) (r3 (n + 1) w g ok (by omega))
  have c4 : ∀ ρ : List Sl, ρ[0]? = some (.v (S w)) → ev (run fdsL natL (n + 4)) (.call 4 (.cons (.loc 0) .nil) [0]) ρ g = some (TN w, g) := fun ρ h => ev_call (evAs_d (d := S w) (by rw [ev, h]) evAs_nil) (r4 n w g ok (by omega))
  obtain ⟨z3, hz3⟩ := rep3 (w := w) (by omega)
  obtain ⟨zn, hzn⟩ := rep1 (okT_new (w := w) (by omega)) (dep_T _) (wt_T (by rw [new_len]; omega))
  rw [run_succ (fd := f__law_is_right) rfl rfl]
  refine runB_at (ρ := [.v (S w), .v (.bool gr), .un, .un, .un, .un, .un, .un, .un, .un, .un, .un, .un]) rfl rfl ?_
  -- due
  refine execs_nx (exec_set (d := TC w) (g' := g) (ev_call (evAs_d (d := S w) (g1 := g) rfl evAs_nil) (r12 (n + 3) w g (by omega))) rfl) ?_
  -- the counts, three ways
  refine execs_nx (exec_if (q := false) (g1 := g) (ev_cmp (x := .str z3) (y := .str z3) (g1 := g) (g2 := g) (ev_bi (evs_one1 (d := .list [TC w, TC w, TC w]) (ev_lst (evs_cons (c3 _ rfl) (evs_cons (c3 _ rfl) (evs_cons (x := TC w) (g1 := g) ?_ evs_nil))) (by show 3 ≤ 1000000; decide))) hz3) (ev_bi (evs_one1 (d := .list [TC w, TC w, TC w]) (ev_lst (evs_cons (x := TC w) (g1 := g) rfl (evs_cons (x := TC w) (g1 := g) rfl (evs_cons (x := TC w) (g1 := g) rfl evs_nil))) (by show 3 ≤ 1000000; decide))) hz3) (ne_same _)) rfl) ?_
  · refine ev_call (evAs_d (d := S w.reverse) (g1 := g) (ev_rev (x := S w) rfl (revD_S (by omega))) evAs_nil) ?_
    have := r3 (n + 1) w.reverse g (rev_ab hw).ok (by rw [List.length_reverse]; omega)
    rw [cnts_rev] at this
    exact this
  -- totals, new
  obtain ⟨tot, new, e1, e2, e3⟩ : ∃ tot new : D, ev (run fdsL natL (n + 4)) (.ite (.not (.loc 1)) (.cmpr (.bi "sum" (.cons (.call 12 (.cons (.sl (.loc 0) .no (.loc 3)) .nil) [0]) .nil)) (.v 3) (.rng (.cons (.bin .Add (.bi "len" (.cons (.loc 0) .nil)) (.con (.int 1))) .nil)) .no) (.lst .nil)) [.v (S w), .v (.bool gr), .v (TC w), .un, .un, .un, .un, .un, .un, .un, .un, .un, .un] g = some (tot, g) ∧
      ev (run fdsL natL (n + 4)) (.bi "tuple" (.cons (.cmpr (.bin .Sub (.ix (.loc 4) (.bin .Add (.loc 3) (.con (.int 1)))) (.ix (.loc 4) (.loc 3))) (.v 3) (.rng (.cons (.bin .Sub (.bi "len" (.cons (.loc 4) .nil)) (.con (.int 1))) .nil)) .no) .nil)) [.v (S w), .v (.bool gr), .v (TC w), .un, .v tot, .un, .un, .un, .un, .un, .un, .un, .un] g = some (new, g) ∧ (gr = false → new = TN w) := by
    cases gr with
    | true =>
      refine ⟨.list [], .tuple [], ev_ite (q := false) (g1 := g) (ev_not (q := true) rfl) rfl, ?_, fun h => by cases h⟩
      refine ev_bi (evs_one1 (d := .list []) ?_) rfl
      exact ev_map (α := Nat) (xs := []) (inj := fun _ => .none) (f := fun _ => .none) (evIt_rng (ds := [.int (-1)]) rfl (rng_neg (by decide) (by decide))) (by decide) (fun x h => nomatch h)
    | false =>
      refine ⟨.list ((List.range (w.length + 1)).map fun j => PyData.int (sumW w j)), TN w, ev_ite (q := true) (g1 := g) (ev_not (q := false) rfl) ?_, ?_, fun _ => rfl⟩
      · show ev _ _ _ g = _
        refine ev_map (inj := fun (p : Nat) => PyData.int p) (f := fun j => PyData.int (sumW w j)) (evIt_rng (ds := [.int ((w.length + 1 : Nat) : Int)]) (evs_one1 (ev_bin (x := .int w.length) (y := .int 1) (g1 := g) (g2 := g) (ev_bi (evs_one1 (d := S w) rfl) (lenB_S (by omega))) rfl rfl)) (rng_1 (by omega))) (by rw [List.length_range]; omega) fun k hk => ⟨_, rfl, ?_⟩
        refine ev_bi (evs_one1 (ev_call (evAs_d (d := S (w.take k)) (g1 := g) (ev_sl (x := S w) (g1 := g) rfl evO_no (evO_some (i := k) (g1 := g) rfl rfl) (by rw [slD_S (by omega), cutTo])) evAs_nil) (r12 (n + 3) (w.take k) g (by rw [List.length_take]; omega)))) (sum_B _)
      · refine ev_bi (evs_one1 (d := .list ((newW w).map PyData.int)) ?_) rfl
        unfold newW
        rw [List.map_map]
        refine ev_map (xs := List.range w.length) (inj := fun (p : Nat) => PyData.int p) (f := fun i => PyData.int (sumW w (i + 1) - sumW w i)) (evIt_rng (ds := [.int (w.length : Int)]) (evs_one1 (ev_bin (x := .int ((w.length + 1 : Nat) : Int)) (y := .int 1) (g1 := g) (g2 := g) (ev_bi (evs_one1 (d := .list ((List.range (w.length + 1)).map fun j => PyData.int (sumW w j))) rfl) ?_) rfl ?_)) (rng_1 (by omega))) (by rw [List.length_range]; omega) fun k hk => ⟨_, rfl, ?_⟩
        · show some (PyData.int ((List.range (w.length + 1)).map fun j => PyData.int (sumW w j)).length) = _
          rw [List.length_map, List.length_range]
        · show some (PyData.int (((w.length + 1 : Nat) : Int) - 1)) = _
          rw [show ((w.length + 1 : Nat) : Int) - 1 = (w.length : Int) by omega]
        · have hk' := List.mem_range.mp hk
          exact ev_bin (ev_ix (x := .list ((List.range (w.length + 1)).map fun j => PyData.int (sumW w j))) (y := .int ((k + 1 : Nat) : Int)) (g1 := g) (g2 := g) rfl (ev_bin (x := .int k) (y := .int 1) (g1 := g) rfl rfl rfl) (ix_L (by omega))) (ev_ix (x := .list ((List.range (w.length + 1)).map fun j => PyData.int (sumW w j))) (y := .int k) (g1 := g) (g2 := g) rfl rfl (ix_L (by omega))) rfl
  refine execs_nx (exec_set e1 rfl) (execs_nx (exec_set e2 rfl) ?_)
  -- told
  refine execs_nx (exec_set (c4 _ rfl) rfl) ?_
  refine execs_nx (exec_if (q := false) (g1 := g) (ev_or0 (g1 := g) (ev_cmp (x := .str zn) (y := .str zn) (g1 := g) (g2 := g) (ev_bi (evs_one1 (c4 _ rfl)) hzn) (ev_bi (evs_one1 (d := TN w) rfl) hzn) (ne_same _)) (ev_cmp (x := .int (cnts w).sum) (y := .int (cnts w).sum) (g1 := g) (g2 := g) (ev_bin (x := .int (newW w).sum) (y := .int 1) (g1 := g) (ev_bi (evs_one1 (d := TN w) rfl) (sum_B _)) rfl ?_) (ev_bi (evs_one1 (d := TC w) rfl) (sum_B _)) (ne_int _))) rfl) ?_
  · show some (PyData.int ((newW w).sum + 1)) = _
    rw [new_sum]
  refine execs_nx (exec_if (q := false) (g1 := g) ?_ rfl) ?_
  · cases gr with
    | true => exact ev_and0 (ev_not (q := true) rfl)
    | false =>
      have e4 := e3 rfl
      subst e4
      exact ev_and1 (g1 := g) (ev_not (q := false) rfl) (ev_cmp (x := .str zn) (y := .str zn) (g1 := g) (g2 := g) (ev_bi (evs_one1 (d := TN w) rfl) hzn) (ev_bi (evs_one1 (d := TN w) rfl) hzn) (ne_same _))
  -- forked
  refine execs_nx (exec_set (d := .tuple ((forkW w).map S)) (g' := g) (ev_call (evAs_d (d := S w) (g1 := g) rfl evAs_nil) (r7 n w g ok hl)) rfl) ?_
  -- the loop
  obtain ⟨ρ', g', e5, ⟨m, s8, s9, s10, s12, s3, h1, h2, h3, h4⟩⟩ := forL_inv (f := fun x ρ g => (bindT (.v 3) x ρ).bind fun ρ => execs (run fdsL natL (n + 4)) (.cons (.set (.v 9) (.bi "sum" (.cons (.cmpr (.bin .Sub (.bi "len" (.cons (.call 5 (.cons (.loc 0) (.cons (.loc 8) .nil)) [0, 1]) .nil)) (.con (.int 1))) (.v 8) (.val (.loc 7)) (.cmp .Eq (.bi "len" (.cons (.loc 8) .nil)) (.loc 3))) .nil))) (.cons (.set (.v 10) (.sl (.loc 0) (.bin .Sub (.bi "len" (.cons (.loc 0) .nil)) (.loc 3)) .no)) (.cons (.set (.v 12) (.bi "int" (.cons (.cmp .Eq (.bi "len" (.cons (.cmpr (.loc 11) (.v 11) (.rng (.cons (.bin .Add (.bin .Sub (.bi "len" (.cons (.loc 0) .nil)) (.loc 3)) (.con (.int 1))) .nil)) (.cmp .Eq (.sl (.loc 0) (.loc 11) (.bin .Add (.loc 11) (.loc 3))) (.loc 10))) .nil)) (.con (.int 1))) .nil))) (.cons (.ife (.cmp .NotEq (.bin .Sub (.ix (.loc 2) (.bin .Add (.loc 3) (.con (.int 1)))) (.ix (.loc 2) (.loc 3))) (.bin .Sub (.loc 9) (.loc 12))) (.cons (.ret (.con (.bool false))) .nil) .nil) .nil)))) ρ g)
    (xs := (List.range w.length).map fun k => PyData.int ((k : Nat) : Int)) (ρ := [.v (S w), .v (.bool gr), .v (TC w), .un, .v tot, .v new, .v (TN w), .v (.tuple ((forkW w).map S)), .un, .un, .un, .un, .un]) (g := g)
    (fun r ρ g' => ∃ m s8 s9 s10 s12 s3, m + r.length = w.length ∧ r = (List.range' m r.length).map (fun k => PyData.int ((k : Nat) : Int)) ∧ ρ = [.v (S w), .v (.bool gr), .v (TC w), s3, .v tot, .v new, .v (TN w), .v (.tuple ((forkW w).map S)), s8, s9, s10, .un, s12] ∧ g' = g)
    ⟨0, .un, .un, .un, .un, .un, by simp, by simp [List.range_eq_range'], rfl, rfl⟩ (fun x r ρ g' ⟨m, s8, s9, s10, s12, s3, h1, h2, h3, h4⟩ => by
      subst h3 h4
      rw [List.length_cons, List.range'_succ, List.map_cons] at h2
      obtain ⟨e6, e7⟩ := List.cons.inj h2
      rw [List.length_cons] at h1
      have ht := turn13 (n := n) (g := g') (gr := gr) (s3 := s3) (s4 := .v tot) (s5 := .v new) (s6 := .v (TN w)) (s8 := s8) (s9 := s9) (s10 := s10) (s11 := .un) (s12 := s12) hw hl (show m < w.length by omega)
      rw [e6]
      exact ⟨_, g', ht, m + 1, s8, _, _, _, _, by omega, e7, rfl, rfl⟩)
  subst h3 h4
  exact execs_nx (exec_for (evIt_rng (ds := [.int (w.length : Int)]) (evs_one1 (ev_bi (evs_one1 (d := S w) rfl) (lenB_S (by omega)))) (rng_1 (by omega))) e5) (execs_rt (exec_ret rfl))
/-! ### the law -/
theorem one_kind {n : Nat} {t : Int} {r : Rl} {ρ : List Sl} (hρ : ρ[1]? = some .rill) (h : Good t r) (ht : t ≤ 1000000) :
    ∃ k r', ev (run fdsL natL n) (.bin .Add (.con (.int 1)) (.call 8 (.cons (.loc 1) (.cons (.con (.int 4)) .nil)) [0, 1])) ρ (some r) = some (.int ((k : Nat) : Int), some r') ∧ 1 ≤ k ∧ Good (t + 1) r' := by
  obtain ⟨v, r', e, v0, v1, g⟩ := run_draw (fds := fdsL) (n := n) nat8 h (by omega) (many := 4) (by decide) (by decide)
  refine ⟨1 + v.toNat, r', ev_bin (x := .int 1) (y := .int v) (g1 := some r) rfl (ev_call (evAs_rill hρ (evAs_d (d := .int 4) (g1 := some r) rfl evAs_nil)) e) ?_, by omega, g⟩
  show some (PyData.int (1 + v)) = _
  rw [show (1 : Int) + v = ((1 + v.toNat : Nat) : Int) by omega]
theorem law_val : ∀ ns : List Int, ns.length ≤ 63 → ∃ g, run PL.fds natL 8 14 [.scr ns] none = some (.bool true, g) := by
  intro ns _
  show ∃ g, run fdsL natL 8 14 [.scr ns] none = some (.bool true, g)
  rw [run_succ (fd := f_law) rfl rfl]
  obtain ⟨ρ', g', e5, ⟨r', s2, h1, h2, h3⟩⟩ := forL_inv (f := fun x ρ g => (bindT (.v 2) x ρ).bind fun ρ => execs (run fdsL natL 7) (.cons (.ife (.not (.call 13 (.cons (.call 11 (.cons (.loc 1) (.cons (.call 9 (.cons (.loc 1) (.cons (.lst (.cons (.con (.int 3)) (.cons (.con (.int 8)) (.cons (.con (.int 12)) (.cons (.con (.int 16)) .nil))))) .nil)) [0, 1]) (.cons (.bin .Add (.con (.int 1)) (.call 8 (.cons (.loc 1) (.cons (.con (.int 4)) .nil)) [0, 1])) .nil))) [0, 1, 2]) (.cons (.con (.bool false)) .nil)) [0, 1])) (.cons (.ret (.con (.bool false))) .nil) .nil) .nil) ρ g)
    (xs := [.int 0, .int 1, .int 2]) (ρ := [.scr ns, .rill, .un]) (g := some (rillOf ns))
    (fun l ρ g => ∃ r s2, g = some r ∧ ρ = [.scr ns, .rill, s2] ∧ Good (1000 * (3 - (l.length : Int))) r)
    ⟨rillOf ns, .un, rfl, rfl, by simpa using rillOf_good ns⟩ (fun x l ρ g ⟨r, s2, h1, h2, h3⟩ => by
      subst h1 h2
      rw [List.length_cons] at h3
      have hl3 : 1000 * (3 - ((l.length + 1 : Nat) : Int)) ≤ 3000 := by omega
      obtain ⟨d, r1, e1, hd, g1⟩ := r9L (n := 6) [.int 3, .int 8, .int 12, .int 16] h3 (by omega) (by simp) (by simp)
      obtain ⟨most, hm, rfl⟩ : ∃ most : Nat, most ≤ 100 ∧ d = .int most := by
        simp at hd
        rcases hd with rfl | rfl | rfl | rfl
        · exact ⟨3, by decide, rfl⟩
        · exact ⟨8, by decide, rfl⟩
        · exact ⟨12, by decide, rfl⟩
        · exact ⟨16, by decide, rfl⟩
      obtain ⟨k, r2, e2, hk, g2⟩ := one_kind (n := 7) (ρ := [.scr ns, .rill, .v x]) rfl g1 (by omega)
      obtain ⟨w, r3, e3, hw, hwl, g3⟩ := r11 (n := 4) g2 (by omega) hm hk
      refine ⟨[.scr ns, .rill, .v x], some r3, ?_, r3, .v x, rfl, rfl, g3.mono (by omega)⟩
      show execs _ _ [.scr ns, .rill, .v x] (some r) = _
      refine execs_nx (exec_if (q := false) (g1 := some r3) (ev_not (q := true) (ev_call (evAs_d (d := S w) (g1 := some r3) (ev_call (evAs_rill rfl (evAs_d (d := .int most) (g1 := some r1) (ev_call (evAs_rill rfl (evAs_d (d := .list [.int 3, .int 8, .int 12, .int 16]) (g1 := some r) (ev_lst (evs_cons (x := .int 3) (g1 := some r) rfl (evs_cons (x := .int 8) (g1 := some r) rfl (evs_cons (x := .int 12) (g1 := some r) rfl (evs_cons (x := .int 16) (g1 := some r) rfl evs_nil)))) (by simp)) evAs_nil)) e1) (evAs_d e2 evAs_nil))) e3) (evAs_d (d := .bool false) (g1 := some r3) rfl evAs_nil)) (r13 2 false (some r3) hw (by omega)))) rfl) rfl)
  subst h1 h2
  simp at h3
  obtain ⟨v, r1, e6, v0, v1, g1⟩ := run_draw (fds := fdsL) (n := 7) nat8 h3 (by omega) (many := 8) (by decide) (by decide)
  have e7 : ev (run fdsL natL 7) (.cmp .Eq (.call 8 (.cons (.loc 1) (.cons (.con (.int 8)) .nil)) [0, 1]) (.con (.int 0))) [.scr ns, .rill, s2] (some r') = some (.bool (decide (v = 0)), some r1) :=
    ev_cmp (ev_call (evAs_rill rfl (evAs_d (d := .int 8) (g1 := some r') rfl evAs_nil)) e6) (y := .int 0) (g2 := some r1) rfl rfl
  have hfor : exec (run fdsL natL 7) (.for (.v 2) (.rng (.cons (.con (.int 3)) .nil)) (.cons (.ife (.not (.call 13 (.cons (.call 11 (.cons (.loc 1) (.cons (.call 9 (.cons (.loc 1) (.cons (.lst (.cons (.con (.int 3)) (.cons (.con (.int 8)) (.cons (.con (.int 12)) (.cons (.con (.int 16)) .nil))))) .nil)) [0, 1]) (.cons (.bin .Add (.con (.int 1)) (.call 8 (.cons (.loc 1) (.cons (.con (.int 4)) .nil)) [0, 1])) .nil))) [0, 1, 2]) (.cons (.con (.bool false)) .nil)) [0, 1])) (.cons (.ret (.con (.bool false))) .nil) .nil) .nil)) [.scr ns, .rill, .un] (some (rillOf ns)) = some (.nx [.scr ns, .rill, s2] (some r')) :=
    exec_for (evIt_rng (ds := [.int 3]) rfl rfl) e5
  by_cases hv : v = 0
  · obtain ⟨k, r2, e8, hk, g2⟩ := one_kind (n := 7) (ρ := [.scr ns, .rill, s2]) rfl g1 (by omega)
    obtain ⟨w, r3, e9, hw, hwl, g3⟩ := r11 (n := 4) (most := 40) g2 (by omega) (by decide) hk
    refine ⟨some r3, runB_at (ρ := [.scr ns, .un, .un]) rfl rfl (execs_nx (ρ' := [.scr ns, .rill, .un]) (g' := some (rillOf ns)) rfl (execs_nx hfor (execs_rt (exec_if (q := true) (g1 := some r1) (by rw [← show decide (v = 0) = true from decide_eq_true hv]; exact e7) ?_))))⟩
    rw [if_pos rfl]
    exact execs_rt (exec_ret (ev_call (evAs_d (d := S w) (g1 := some r3) (ev_call (evAs_rill rfl (evAs_d (d := .int 40) (g1 := some r1) rfl (evAs_d e8 evAs_nil))) e9) (evAs_d (d := .bool true) (g1 := some r3) rfl evAs_nil)) (r13 2 true (some r3) hw (by omega))))
  · refine ⟨some r1, runB_at (ρ := [.scr ns, .un, .un]) rfl rfl (execs_nx (ρ' := [.scr ns, .rill, .un]) (g' := some (rillOf ns)) rfl (execs_nx hfor (execs_nx (ρ' := [.scr ns, .rill, s2]) (g' := some r1) (exec_if (q := false) (g1 := some r1) (by rw [← show decide (v = 0) = false from decide_eq_false hv]; exact e7) rfl) (execs_rt (exec_ret (ev_call (evAs_d (d := S []) (g1 := some r1) rfl (evAs_d (d := .bool false) (g1 := some r1) rfl evAs_nil)) (r13 2 false (some r1) (fun _ h => nomatch h) (by decide))))))))⟩
end PV
open PySem PySem.W PyProof.Rows
set_option maxRecDepth 100000 in
set_option maxHeartbeats 0 in
theorem PySem.Challenge.cw_wordstems_k57_whole_piece_counts_holds : PySem.Challenge.rw_wordstems_k57_whole_piece_counts.Holds := by
  w_on; o_law; k_head; (case hw => w_witness2)
  k_fill
  refine PV.walkP (l := PySem.Challenge.rw_wordstems_k57_whole_piece_counts) (n := 63) (b := 1) (m := 8) (iL := 14) (P := PV.PL) (nat := PV.natL) (fdL := PV.f_law) (x := "script") rfl (by decide) rfl ⟨rfl, by decide, by decide⟩ (fun w h Y => PySem.W.kIn_of Y) rfl rfl rfl rfl ?F PV.law_val
  case F =>
    intro w mg h KX G base KB GB
    refine' PV.mdl KX G ?D_each_once ?D_pieces_of ?D_is_piece ?D_piece_counts ?D_new_pieces ?D_ways_on ?D_all_pieces ?D_forked_pieces ?D__law_draw ?D__law_one ?D__law_letters ?D__law_word ?D__law_counted ?D__law_is_right ?D_law ?D_mk ?G_0 ?Z_0 ?Z_1 ?Z_2 ?Z_3 ?Z_4 ?Z_5 ?Z_6 ?Z_7 ?Z_8 ?Z_9
    case D_each_once => (refine' PV.def_at ?a ?l ?c ?k; (case a => k_is); (case l => k_is); (case c => k_is); (case k => k_is))
    case D_pieces_of => (refine' PV.def_at ?a ?l ?c ?k; (case a => k_is); (case l => k_is); (case c => k_is); (case k => k_is))
    case D_is_piece => (refine' PV.def_at ?a ?l ?c ?k; (case a => k_is); (case l => k_is); (case c => k_is); (case k => k_is))
    case D_piece_counts => (refine' PV.def_at ?a ?l ?c ?k; (case a => k_is); (case l => k_is); (case c => k_is); (case k => k_is))
    case D_new_pieces => (refine' PV.def_at ?a ?l ?c ?k; (case a => k_is); (case l => k_is); (case c => k_is); (case k => k_is))
    case D_ways_on => (refine' PV.def_at ?a ?l ?c ?k; (case a => k_is); (case l => k_is); (case c => k_is); (case k => k_is))
    case D_all_pieces => (refine' PV.def_at ?a ?l ?c ?k; (case a => k_is); (case l => k_is); (case c => k_is); (case k => k_is))
    case D_forked_pieces => (refine' PV.def_at ?a ?l ?c ?k; (case a => k_is); (case l => k_is); (case c => k_is); (case k => k_is))
    case D__law_draw => (refine' PV.def_at ?a ?l ?c ?k; (case a => k_is); (case l => k_is); (case c => k_is); (case k => k_is))
    case D__law_one => (refine' PV.def_at ?a ?l ?c ?k; (case a => k_is); (case l => k_is); (case c => k_is); (case k => k_is))
    case D__law_letters => (refine' PV.def_at ?a ?l ?c ?k; (case a => k_is); (case l => k_is); (case c => k_is); (case k => k_is))
    case D__law_word => (refine' PV.def_at ?a ?l ?c ?k; (case a => k_is); (case l => k_is); (case c => k_is); (case k => k_is))
    case D__law_counted => (refine' PV.def_at ?a ?l ?c ?k; (case a => k_is); (case l => k_is); (case c => k_is); (case k => k_is))
    case D__law_is_right => (refine' PV.def_at ?a ?l ?c ?k; (case a => k_is); (case l => k_is); (case c => k_is); (case k => k_is))
    case D_law => (refine' PV.def_at ?a ?l ?c ?k; (case a => k_is); (case l => k_is); (case c => k_is); (case k => k_is))
    case D_mk => (refine' PV.def_at ?a ?l ?c ?k; (case a => k_is); (case l => k_is); (case c => k_is); (case k => k_is))
    case G_0 => k_is
    case Z_0 => k_is
    case Z_1 => k_is
    case Z_2 => k_is
    case Z_3 => k_is
    case Z_4 => k_is
    case Z_5 => k_is
    case Z_6 => k_is
    case Z_7 => k_is
    case Z_8 => k_is
    case Z_9 => k_is
