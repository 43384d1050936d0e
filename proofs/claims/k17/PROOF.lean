import PyProof.Rows.All
import Wide.All
import OpenK.AllK
import Wide.FinOn
import HandS.ForMost
import HandS.ForExc
import HandS.ExcInit
import HandS.SetKeys
import HandS.TupAny
import HandS.WideBits
import HandS.Style
import HandS.IsInst
import KE.KEqNest
import HandS.Text
import HandS.Deep
import HandS.Defaults
import HandS.HeadEnd
import HandS.Iter
import HandS.TryMany
import KE.GoesMore
import KE.GoesNew
import KE.GoesEnumKw
import HandS.WordsDict
import HandS.TupLen
import HandS.SortInts
import HandS.Small
import HandS.FStr
import HandS.RaiseMore
import PyProof.InstNe
import PyProof.ReprRoads
import HandS.OwnEq
import OpenK.KOps
import HandS.DictComp
import HandS.MakeKwOnly
import HandS.Ends
import HandS.HeadHook2
import HandS.Words
import KE.KUnpackStar
import HandS.Dict
import HandS.ListItems
import HandS.Conv
import PyProof.EqKinds
import PyProof.P3In
import HandS.DictEq
import HandS.ExcField
import HandS.ExcOwn
import HandS.ExcIs
import HandS.TryOnly
import KE.KExcInit
import KE.KOwnIn
import KE.KExcIs
import PyProof.Rows.StrIntSpec
import PyProof.Rows.StrDigits
import KE.KWhileD
import HandS.Codes
import HandS.SetFor
import PyProof.Rows.SetFrom
import HandS.SetBool
import PyProof.Rows.StrCase
import PySem.Challenge.RW_progressbounds_k17_whole_graph_texts_spo
import HandS.Head0
import HandS.Head1
import HandS.Head2
import HandS.HeadHook1
set_option Elab.async false
set_option linter.all false
set_option maxRecDepth 100000
set_option maxHeartbeats 2000000
set_option autoImplicit false
section
/-! TL1: data trees, cells, what represents them, the lifted judgements. -/
namespace TL
open PySem PySem.Spec L2

inductive D where
  | non | bl (b : Bool) | int (i : Int) | str (x : Str) | ty (n : String) | ref (a : Addr)
  | lst (xs : List D) | tup (xs : List D) | dK (kvs : List (Key × D)) | dT (kvs : List (List Key × D)) | ins (C : Addr) (fs : List (Str × D))
  /-- a list that is read alone (the script, a list of the top) -/
  | scr (xs : List D)
  /-- a tuple of the top -/
  | kt (xs : List D)
  /-- a set of keys, in some order -/
  | sK (xs : List Key)
  /-- a caught exception at a: its class, its own dict's address, its fields -/
  | exc (a : Addr) (cls : Value) (d : Option Addr) (fs : List (Str × D))
  /-- anything else, by what is true of it at the addresses l -/
  | any (l : List Addr) (p : Hp → V → Prop)

/-- the written part, the program, the world -/
structure Bd where
  K : PySem.W.Frag
  P : Program
  w : World
  /-- what no tree stands on (a comprehension's list under way) -/
  F : Addr → Prop
def Bd.hide (B : Bd) (F : Addr → Prop) : Bd := ⟨B.K, B.P, B.w, F⟩

/-- a mutable object's content -/
inductive Cl where
  | lst (xs : List D) | dK (kvs : List (Key × D)) | dT (kvs : List (List Key × D)) | ins (C : Addr) (fs : List (Str × D)) | sK (xs : List Key)
  /-- a dict that a loop walks -/
  | dKl (kvs : List (Key × D)) | dTl (kvs : List (List Key × D))

abbrev GH := Addr → Option Cl
def gup (G : GH) (p : Addr) (c : Cl) : GH := fun a => if a = p then some c else G a
def gdel (G : GH) (p : Addr) : GH := fun a => if a = p then none else G a
theorem gup_same {G : GH} {p : Addr} {c : Cl} : gup G p c p = some c := if_pos rfl
theorem gup_ne {G : GH} {p a : Addr} {c : Cl} (h : a ≠ p) : gup G p c a = G a := if_neg h
theorem gdel_same {G : GH} {p : Addr} : gdel G p p = none := if_pos rfl
theorem gdel_ne {G : GH} {p a : Addr} (h : a ≠ p) : gdel G p a = G a := if_neg h
theorem gup_gup {G : GH} {p : Addr} {c c' : Cl} : gup (gup G p c) p c' = gup G p c' := by
  funext a; unfold gup; split <;> rfl
theorem gdel_gup {G : GH} {p : Addr} {c : Cl} (h : G p = none) : gdel (gup G p c) p = G := by
  funext a; unfold gdel gup; split
  · rename_i e; rw [e, h]
  · rfl
theorem gup_comm {G : GH} {p q : Addr} {c d : Cl} (h : p ≠ q) : gup (gup G p c) q d = gup (gup G q d) p c := by
  funext a; unfold gup; split
  · rename_i e
    by_cases f : a = p
    · exact absurd (f.symm.trans e) h
    · rw [if_neg f]
  · rfl
theorem gup_id {G : GH} {p : Addr} {c : Cl} (h : G p = some c) : gup G p c = G := by
  funext a; unfold gup; split
  · rename_i e; rw [e, h]
  · rfl

def Of (B : Bd) (G : GH) (a : Addr) : Prop := G a = none ∧ ¬ B.F a
def inK (xs : List Key) (k : Key) : Bool := xs.any fun j => decide (j = k)
section
variable (B : Bd) (G : GH) (H : Hp)
/-- at a stands a list that nobody changes any more -/
def FzL (a : Addr) (vs : List V) : Prop :=
  (Rd H a (.lst vs) ∧ Of B G a) ∨
    ∃ (o : Obj) (its : Array Value) (n : Nat), B.K.lookup a = some o ∧ o.cls = .type "list" ∧ o.dict = none ∧ o.data = .seq its n ∧ its.size ≤ sizeLine ∧ Vals vs its.toList
def KT (a : Addr) (xs : List V) : Prop := ∃ (o : Obj) (its : Array Value) (n : Nat), B.K.lookup a = some o ∧ o.cls = .type "tuple" ∧ o.data = .seq its n ∧ its.size ≤ sizeLine ∧ Vals xs its.toList
mutual
def Rp : D → V → Prop
  | .non, v => v = .non
  | .bl b, v => v = .bl b
  | .int i, v => v = .int i
  | .str x, v => v = .str x
  | .ty n, v => v = .ty n
  | .ref a, v => v = .ref a
  | .lst xs, v => ∃ a vs, v = .ref a ∧ (H a = some (.lst vs) ∧ Of B G a) ∧ RpL xs vs
  | .tup xs, v => ∃ a vs, v = .ref a ∧ H a = some (.tup vs) ∧ RpL xs vs
  | .kt xs, v => ∃ a vs, v = .ref a ∧ KT B a vs ∧ RpL xs vs
  | .dK kds, v => ∃ a o kvs, v = .ref a ∧ (H a = some (.frz o (.dK kvs)) ∧ Of B G a) ∧ RpK kds kvs
  | .dT kds, v => ∃ a o kvs, v = .ref a ∧ (H a = some (.frz o (.dT kvs)) ∧ Of B G a) ∧ RpT kds kvs
  | .ins C fds, v => ∃ a dx fvs, v = .ref a ∧ (H a = some (.ins C dx fvs) ∧ Of B G a) ∧ RpF fds fvs
  | .scr xs, v => ∃ a vs, v = .ref a ∧ FzL B G H a vs ∧ RpL xs vs
  | .sK xs, v => ∃ a, v = .ref a ∧ H a = some (SetK B.P B.w a (inK xs) xs.length) ∧ Of B G a
  | .exc a _ none fs, v => v = .ref a ∧ fs = []
  | .exc a _ (some d) fs, v => v = .ref a ∧ ∃ fvs, H d = some (.xd fvs) ∧ Of B G d ∧ RpF fs fvs
  | .any l p, v => p H v ∧ (∀ a ∈ l, Of B G a ∧ ∃ o, H a = some o) ∧ ∀ H', (∀ a ∈ l, ∀ o, H a = some o → H' a = some o) → p H' v
def RpL : List D → List V → Prop
  | [], vs => vs = []
  | d :: ds, vs => ∃ v r, vs = v :: r ∧ Rp d v ∧ RpL ds r
def RpK : List (Key × D) → List (Key × V) → Prop
  | [], vs => vs = []
  | (k, d) :: ds, vs => ∃ v r, vs = (k, v) :: r ∧ Rp d v ∧ RpK ds r
def RpT : List (List Key × D) → List (List Key × V) → Prop
  | [], vs => vs = []
  | (k, d) :: ds, vs => ∃ v r, vs = (k, v) :: r ∧ Rp d v ∧ RpT ds r
def RpF : List (Str × D) → List (Str × V) → Prop
  | [], vs => vs = []
  | (k, d) :: ds, vs => ∃ v r, vs = (k, v) :: r ∧ Rp d v ∧ RpF ds r
end
/-- what a cell's address bears -/
def RpC (a : Addr) : Cl → Prop
  | .lst xs => ∃ vs, H a = some (.lst vs) ∧ RpL B G H xs vs
  | .dK kds => ∃ kvs, H a = some (.dK kvs) ∧ RpK B G H kds kvs
  | .dT kds => ∃ kvs, H a = some (.dT kvs) ∧ RpT B G H kds kvs
  | .ins C fds => ∃ dx fvs, H a = some (.ins C dx fvs) ∧ RpF B G H fds fvs
  | .sK xs => H a = some (SetK B.P B.w a (inK xs) xs.length)
  | .dKl kds => ∃ o kvs, H a = some (.frz o (.dK kvs)) ∧ RpK B G H kds kvs
  | .dTl kds => ∃ o kvs, H a = some (.frz o (.dT kvs)) ∧ RpT B G H kds kvs
structure Wd : Prop where
  cl : ∀ a c, G a = some c → RpC B G H a c
  hd : ∀ a, B.F a → G a = none ∧ ∃ o, H a = some o
end

/-- from (G, H) to (G', H'): what is no cell stands; a new cell was not there -/
structure Stp (G : GH) (H : Hp) (G' : GH) (H' : Hp) : Prop where
  keep : ∀ a o, H a = some o → G a = none → H' a = some o
  frz : ∀ a o u, H a = some (.frz o u) → H' a = some (.frz o u)
  new : ∀ a, G' a ≠ none → G a ≠ none ∨ H a = none
theorem Stp.refl {G : GH} {H : Hp} : Stp G H G H := ⟨fun _ _ h _ => h, fun _ _ _ h => h, fun _ h => .inl h⟩
theorem Rd.some {H : Hp} {a : Addr} {o : HO} (h : Rd H a o) : ∃ u, H a = some u := h.elim (fun h => ⟨_, h⟩) fun ⟨_, h⟩ => ⟨_, h⟩
theorem Stp.still {G G' : GH} {H H' : Hp} (s : Stp G H G' H') {a : Addr} {o : HO} (h : H a = some o) (g : G a = none) : G' a = none := by
  cases e : G' a with
  | none => rfl
  | some c =>
    rcases s.new a (by rw [e]; simp) with h1 | h1
    · exact absurd g h1
    · rw [h] at h1; cases h1
theorem Stp.trans {G G1 G2 : GH} {H H1 H2 : Hp} (a : Stp G H G1 H1) (b : Stp G1 H1 G2 H2) : Stp G H G2 H2 :=
  ⟨fun x o h g => b.keep x o (a.keep x o h g) (a.still h g), fun x o u h => b.frz x o u (a.frz x o u h), fun x h => by
    rcases b.new x h with h1 | h1
    · exact a.new x h1
    · cases e : H x with
      | none => exact .inr rfl
      | some o =>
        cases g : G x with
        | none => rw [a.keep x o e g] at h1; cases h1
        | some c => exact .inl (by simp)⟩
theorem Stp.fresh {G : GH} {H : Hp} {p : Addr} {o : HO} (h : H p = none) : Stp G H G (upd H p o) :=
  ⟨fun a u e _ => by rw [upd_ne (ne_of_none e h)]; exact e, fun a o u e => by rw [upd_ne (ne_of_none e h)]; exact e, fun a e => .inl e⟩
theorem Stp.cell {G : GH} {H : Hp} {p : Addr} {o : HO} {c : Cl} (h : H p = none) : Stp G H (gup G p c) (upd H p o) :=
  ⟨fun a u e _ => by rw [upd_ne (ne_of_none e h)]; exact e, fun a o u e => by rw [upd_ne (ne_of_none e h)]; exact e, fun a e => by
    by_cases z : a = p
    · rw [z]; exact .inr h
    · rw [gup_ne z] at e; exact .inl e⟩
theorem nf_of {H : Hp} {p : Addr} {u : HO} (h : H p = some u) (n : ∀ o v, u ≠ .frz o v := by exact fun _ _ => nofun) : ∀ o v, H p ≠ some (.frz o v) := fun o v e => by
  rw [h] at e; cases e; exact n o v rfl
theorem Stp.put {G : GH} {H : Hp} {p : Addr} {o : HO} {c c' : Cl} (h : G p = some c) (nf : ∀ o u, H p ≠ some (.frz o u)) : Stp G H (gup G p c') (upd H p o) :=
  ⟨fun a u e g => by
    have z : a ≠ p := fun z => by rw [z, h] at g; cases g
    rw [upd_ne z]; exact e, fun a o u e => by
    have z : a ≠ p := fun z => nf o u (by rw [← z]; exact e)
    rw [upd_ne z]; exact e, fun a e => by
    by_cases z : a = p
    · rw [z, h]; exact .inl (by simp)
    · rw [gup_ne z] at e; exact .inl e⟩
theorem Stp.del {G : GH} {H : Hp} {p : Addr} : Stp G H (gdel G p) H :=
  ⟨fun a u e _ => e, fun _ _ _ e => e, fun a e => by
    by_cases z : a = p
    · rw [z, gdel_same] at e; exact absurd rfl e
    · rw [gdel_ne z] at e; exact .inl e⟩

section
variable {B : Bd} {G G' : GH} {H H' : Hp}
theorem Of.step (s : Stp G H G' H') {a : Addr} {u : HO} (g : Of B G a) (h : H a = some u) : Of B G' a := ⟨s.still h g.1, g.2⟩
theorem Stp.rd (s : Stp G H G' H') {a : Addr} {u : HO} (h : Rd H a u) (g : G a = none) : Rd H' a u ∧ G' a = none := by
  rcases h with h | ⟨o, h⟩
  · exact ⟨.inl (s.keep a _ h g), s.still h g⟩
  · exact ⟨.inr ⟨o, s.keep a _ h g⟩, s.still h g⟩
theorem Stp.rdO (s : Stp G H G' H') {a : Addr} {u : HO} (h : Rd H a u) (g : Of B G a) : Rd H' a u ∧ Of B G' a := ⟨(s.rd h g.1).1, (s.rd h g.1).2, g.2⟩
theorem FzL.step (s : Stp G H G' H') {a : Addr} {vs : List V} (h : FzL B G H a vs) : FzL B G' H' a vs := by
  rcases h with ⟨h, g⟩ | h
  · exact .inl (s.rdO h g)
  · exact .inr h
theorem FzL.sq {a : Addr} {vs : List V} (h : FzL B G H a vs) : SqL B.K H a vs := by
  rcases h with ⟨h, g⟩ | h
  · exact .inl h
  · exact .inr h
end
/-- tuples stay (they are no cells) -/
structure Wt (G : GH) (H : Hp) : Prop where
  nt : ∀ a vs, Rd H a (.tup vs) → G a = none
theorem Wd.nt {B : Bd} {G : GH} {H : Hp} (w : Wd B G H) {a : Addr} {vs : List V} (h : Rd H a (.tup vs)) : G a = none := by
  cases e : G a with
  | none => rfl
  | some c =>
    have x := w.cl a c e
    exfalso
    cases c with
    | lst xs =>
      obtain ⟨ws, h1, _⟩ := x
      rcases h with h | ⟨o, h⟩ <;> (rw [h1] at h; cases h)
    | dK xs =>
      obtain ⟨ws, h1, _⟩ := x
      rcases h with h | ⟨o, h⟩ <;> (rw [h1] at h; cases h)
    | dT xs =>
      obtain ⟨ws, h1, _⟩ := x
      rcases h with h | ⟨o, h⟩ <;> (rw [h1] at h; cases h)
    | ins C xs =>
      obtain ⟨dx, ws, h1, _⟩ := x
      rcases h with h | ⟨o, h⟩ <;> (rw [h1] at h; cases h)
    | sK xs =>
      have h1 : H a = some _ := x
      rcases h with h | ⟨o, h⟩ <;> (rw [h1] at h; cases h)
    | dKl xs =>
      obtain ⟨o', ws, h1, _⟩ := x
      rcases h with h | ⟨o, h⟩ <;> (rw [h1] at h; cases h)
    | dTl xs =>
      obtain ⟨o', ws, h1, _⟩ := x
      rcases h with h | ⟨o, h⟩ <;> (rw [h1] at h; cases h)
section
variable {B : Bd} {G G' : GH} {H H' : Hp}
theorem sqT_step (w : Wd B G H) (s : Stp G H G' H') {a : Addr} {vs : List V} (h : SqT B.K H a vs) : SqT B.K H' a vs := by
  rcases h with h | h
  · exact .inl (s.rd h (w.nt h)).1
  · exact .inr h
/-- what stands passes over -/
structure Tr (B : Bd) (F' : Addr → Prop) (G : GH) (H : Hp) (G' : GH) (H' : Hp) : Prop where
  keep : ∀ a o, H a = some o → Of B G a → H' a = some o ∧ Of (B.hide F') G' a
  tup : ∀ a vs, H a = some (.tup vs) → H' a = some (.tup vs)
theorem Tr.fzl {F' : Addr → Prop} (t : Tr B F' G H G' H') {a : Addr} {vs : List V} (h : FzL B G H a vs) : FzL (B.hide F') G' H' a vs := by
  rcases h with ⟨h | ⟨o, h⟩, g⟩ | h
  · exact .inl ⟨.inl (t.keep a _ h g).1, (t.keep a _ h g).2⟩
  · exact .inl ⟨.inr ⟨o, (t.keep a _ h g).1⟩, (t.keep a _ h g).2⟩
  · exact .inr h
theorem Stp.tr (w : Wd B G H) (s : Stp G H G' H') : Tr B B.F G H G' H' :=
  ⟨fun a o h g => ⟨s.keep a o h g.1, g.step s h⟩, fun a vs h => s.keep a _ h (w.nt (.inl h))⟩
section
variable {F' : Addr → Prop}
mutual
theorem Rp.tr (t : Tr B F' G H G' H') : ∀ {d : D} {v : V}, Rp B G H d v → Rp (B.hide F') G' H' d v
  | .non, v, h => by simpa [Rp] using h
  | .bl b, v, h => by simpa [Rp] using h
  | .int i, v, h => by simpa [Rp] using h
  | .str x, v, h => by simpa [Rp] using h
  | .ty n, v, h => by simpa [Rp] using h
  | .ref a, v, h => by simpa [Rp] using h
  | .lst xs, v, h => by
    unfold Rp at h ⊢
    obtain ⟨a, vs, e, f, r⟩ := h
    exact ⟨a, vs, e, t.keep _ _ f.1 f.2, RpL.tr t r⟩
  | .tup xs, v, h => by
    unfold Rp at h ⊢
    obtain ⟨a, vs, e, f, r⟩ := h
    exact ⟨a, vs, e, t.tup _ _ f, RpL.tr t r⟩
  | .kt xs, v, h => by
    unfold Rp at h ⊢
    obtain ⟨a, vs, e, f, r⟩ := h
    exact ⟨a, vs, e, f, RpL.tr t r⟩
  | .dK xs, v, h => by
    unfold Rp at h ⊢
    obtain ⟨a, o, vs, e, f, r⟩ := h
    exact ⟨a, o, vs, e, t.keep _ _ f.1 f.2, RpK.tr t r⟩
  | .dT xs, v, h => by
    unfold Rp at h ⊢
    obtain ⟨a, o, vs, e, f, r⟩ := h
    exact ⟨a, o, vs, e, t.keep _ _ f.1 f.2, RpT.tr t r⟩
  | .ins C xs, v, h => by
    unfold Rp at h ⊢
    obtain ⟨a, dx, vs, e, f, r⟩ := h
    exact ⟨a, dx, vs, e, t.keep _ _ f.1 f.2, RpF.tr t r⟩
  | .scr xs, v, h => by
    unfold Rp at h ⊢
    obtain ⟨a, vs, e, f, r⟩ := h
    exact ⟨a, vs, e, t.fzl f, RpL.tr t r⟩
  | .sK xs, v, h => by
    unfold Rp at h ⊢
    obtain ⟨a, e, f, g⟩ := h
    exact ⟨a, e, t.keep _ _ f g⟩
  | .exc a c none fs, v, h => by
    unfold Rp at h ⊢
    exact h
  | .exc a c (some d) fs, v, h => by
    unfold Rp at h ⊢
    obtain ⟨e, fvs, f, g, r⟩ := h
    exact ⟨e, fvs, (t.keep _ _ f g).1, (t.keep _ _ f g).2, RpF.tr t r⟩
  | .any l p, v, h => by
    unfold Rp at h ⊢
    obtain ⟨e, f, g⟩ := h
    have k : ∀ a ∈ l, ∀ o, H a = some o → H' a = some o := fun a ha o q => (t.keep a o q (f a ha).1).1
    refine ⟨g H' k, fun a ha => ?_, fun H2 k2 => g H2 fun a ha o q => k2 a ha o (k a ha o q)⟩
    obtain ⟨f1, o, f2⟩ := f a ha
    exact ⟨(t.keep a o f2 f1).2, o, k a ha o f2⟩
theorem RpL.tr (t : Tr B F' G H G' H') : ∀ {ds : List D} {vs : List V}, RpL B G H ds vs → RpL (B.hide F') G' H' ds vs
  | [], vs, h => by simpa [RpL] using h
  | d :: ds, vs, h => by
    unfold RpL at h ⊢
    obtain ⟨v, r, e, f, q⟩ := h
    exact ⟨v, r, e, Rp.tr t f, RpL.tr t q⟩
theorem RpK.tr (t : Tr B F' G H G' H') : ∀ {ds : List (Key × D)} {vs : List (Key × V)}, RpK B G H ds vs → RpK (B.hide F') G' H' ds vs
  | [], vs, h => by simpa [RpK] using h
  | (k, d) :: ds, vs, h => by
    unfold RpK at h ⊢
    obtain ⟨v, r, e, f, q⟩ := h
    exact ⟨v, r, e, Rp.tr t f, RpK.tr t q⟩
theorem RpT.tr (t : Tr B F' G H G' H') : ∀ {ds : List (List Key × D)} {vs : List (List Key × V)}, RpT B G H ds vs → RpT (B.hide F') G' H' ds vs
  | [], vs, h => by simpa [RpT] using h
  | (k, d) :: ds, vs, h => by
    unfold RpT at h ⊢
    obtain ⟨v, r, e, f, q⟩ := h
    exact ⟨v, r, e, Rp.tr t f, RpT.tr t q⟩
theorem RpF.tr (t : Tr B F' G H G' H') : ∀ {ds : List (Str × D)} {vs : List (Str × V)}, RpF B G H ds vs → RpF (B.hide F') G' H' ds vs
  | [], vs, h => by simpa [RpF] using h
  | (k, d) :: ds, vs, h => by
    unfold RpF at h ⊢
    obtain ⟨v, r, e, f, q⟩ := h
    exact ⟨v, r, e, Rp.tr t f, RpF.tr t q⟩
end
end
theorem Rp.step (w : Wd B G H) (s : Stp G H G' H') {d : D} {v : V} (h : Rp B G H d v) : Rp B G' H' d v := Rp.tr (s.tr w) h
theorem RpL.step (w : Wd B G H) (s : Stp G H G' H') {ds : List D} {vs : List V} (h : RpL B G H ds vs) : RpL B G' H' ds vs := RpL.tr (s.tr w) h
theorem RpK.step (w : Wd B G H) (s : Stp G H G' H') {ds : List (Key × D)} {vs : List (Key × V)} (h : RpK B G H ds vs) : RpK B G' H' ds vs := RpK.tr (s.tr w) h
theorem RpT.step (w : Wd B G H) (s : Stp G H G' H') {ds : List (List Key × D)} {vs : List (List Key × V)} (h : RpT B G H ds vs) : RpT B G' H' ds vs := RpT.tr (s.tr w) h
theorem RpF.step (w : Wd B G H) (s : Stp G H G' H') {ds : List (Str × D)} {vs : List (Str × V)} (h : RpF B G H ds vs) : RpF B G' H' ds vs := RpF.tr (s.tr w) h
theorem RpL.length : ∀ {ds : List D} {vs : List V}, RpL B G H ds vs → vs.length = ds.length
  | [], vs, h => by unfold RpL at h; rw [h]; rfl
  | d :: ds, vs, h => by
    unfold RpL at h
    obtain ⟨v, r, rfl, _, q⟩ := h
    simp [RpL.length q]
theorem RpL.get : ∀ {ds : List D} {vs : List V} {i : Nat} {d : D}, RpL B G H ds vs → ds[i]? = some d → ∃ v, vs[i]? = some v ∧ Rp B G H d v
  | [], vs, i, d, h, e => by simp at e
  | x :: ds, vs, 0, d, h, e => by
    unfold RpL at h
    obtain ⟨v, r, rfl, f, q⟩ := h
    simp at e; subst e
    exact ⟨v, rfl, f⟩
  | x :: ds, vs, i + 1, d, h, e => by
    unfold RpL at h
    obtain ⟨v, r, rfl, f, q⟩ := h
    obtain ⟨u, h1, h2⟩ := RpL.get (i := i) (d := d) q (by simpa using e)
    exact ⟨u, by simpa using h1, h2⟩
theorem RpL.nil : RpL B G H [] [] := by unfold RpL; rfl
theorem RpL.cons {d : D} {v : V} {ds : List D} {vs : List V} (h : Rp B G H d v) (r : RpL B G H ds vs) : RpL B G H (d :: ds) (v :: vs) := by
  unfold RpL; exact ⟨v, vs, rfl, h, r⟩
theorem RpL.uncons {d : D} {ds : List D} {vs : List V} (h : RpL B G H (d :: ds) vs) : ∃ v r, vs = v :: r ∧ Rp B G H d v ∧ RpL B G H ds r := by
  unfold RpL at h; exact h
theorem RpL.append : ∀ {ds es : List D} {vs us : List V}, RpL B G H ds vs → RpL B G H es us → RpL B G H (ds ++ es) (vs ++ us)
  | [], es, vs, us, h, h' => by unfold RpL at h; rw [h]; exact h'
  | d :: ds, es, vs, us, h, h' => by
    obtain ⟨v, r, rfl, f, q⟩ := h.uncons
    exact RpL.cons f (RpL.append q h')
theorem RpL.one {d : D} {v : V} (h : Rp B G H d v) : RpL B G H [d] [v] := RpL.cons h RpL.nil

/-! ### the world behind a step -/
theorem RpC.tr {F' : Addr → Prop} (t : Tr B F' G H G' H') {a : Addr} (k : ∀ u, H a = some u → H' a = some u) : ∀ {c : Cl}, RpC B G H a c → RpC (B.hide F') G' H' a c
  | .lst _, ⟨vs, h1, r⟩ => ⟨vs, k _ h1, RpL.tr t r⟩
  | .dK _, ⟨vs, h1, r⟩ => ⟨vs, k _ h1, RpK.tr t r⟩
  | .dT _, ⟨vs, h1, r⟩ => ⟨vs, k _ h1, RpT.tr t r⟩
  | .ins _ _, ⟨dx, vs, h1, r⟩ => ⟨dx, vs, k _ h1, RpF.tr t r⟩
  | .sK _, h => k _ h
  | .dKl _, ⟨o, vs, h1, r⟩ => ⟨o, vs, k _ h1, RpK.tr t r⟩
  | .dTl _, ⟨o, vs, h1, r⟩ => ⟨o, vs, k _ h1, RpT.tr t r⟩
theorem RpC.step (w : Wd B G H) (s : Stp G H G' H') {a : Addr} (k : ∀ u, H a = some u → H' a = some u) {c : Cl} (h : RpC B G H a c) : RpC B G' H' a c := RpC.tr (s.tr w) k h
theorem RpC.some {a : Addr} : ∀ {c : Cl}, RpC B G H a c → ∃ o, H a = some o
  | .lst _, ⟨_, h1, _⟩ => ⟨_, h1⟩
  | .dK _, ⟨_, h1, _⟩ => ⟨_, h1⟩
  | .dT _, ⟨_, h1, _⟩ => ⟨_, h1⟩
  | .ins _ _, ⟨_, _, h1, _⟩ => ⟨_, h1⟩
  | .sK _, h => ⟨_, h⟩
  | .dKl _, ⟨_, _, h1, _⟩ => ⟨_, h1⟩
  | .dTl _, ⟨_, _, h1, _⟩ => ⟨_, h1⟩
theorem Wd.fresh (w : Wd B G H) {p : Addr} {o : HO} (h : H p = none) : Wd B G (upd H p o) := by
  have np : ∀ a u, H a = some u → upd H p o a = some u := fun a u q => by rw [upd_ne (ne_of_none q h)]; exact q
  refine ⟨fun a c e => (w.cl a c e).step w (Stp.fresh h) (np a), fun a f => ⟨(w.hd a f).1, ?_⟩⟩
  obtain ⟨u, q⟩ := (w.hd a f).2
  exact ⟨u, np a u q⟩
/-- cells change at p alone -/
theorem Wd.at_ {p : Addr} {c : Cl} (w : Wd B G H) (s : Stp G H (gup G p c) H') (k : ∀ a u, a ≠ p → H a = some u → H' a = some u) (n : RpC B (gup G p c) H' p c) (nf : ¬ B.F p) : Wd B (gup G p c) H' := by
  refine ⟨fun a c' e => ?_, fun a f => ?_⟩
  · by_cases z : a = p
    · subst z; rw [gup_same] at e; cases e; exact n
    · rw [gup_ne z] at e
      exact (w.cl a c' e).step w s fun u => k a u z
  · have z : a ≠ p := fun z => nf (z ▸ f)
    rw [gup_ne z]
    obtain ⟨g, u, q⟩ := w.hd a f
    exact ⟨g, u, k a u z q⟩
theorem Wd.del (w : Wd B G H) {p : Addr} : Wd B (gdel G p) H := by
  refine ⟨fun a c e => ?_, fun a f => ?_⟩
  · by_cases z : a = p
    · subst z; rw [gdel_same] at e; cases e
    · rw [gdel_ne z] at e
      exact (w.cl a c e).step w Stp.del fun _ h => h
  · refine ⟨?_, (w.hd a f).2⟩
    by_cases z : a = p
    · subst z; exact gdel_same
    · rw [gdel_ne z]; exact (w.hd a f).1
theorem Wd.none_of (w : Wd B G H) {p : Addr} (h : H p = none) : G p = none := by
  cases e : G p with
  | none => rfl
  | some c =>
    obtain ⟨o, q⟩ := (w.cl p c e).some
    rw [h] at q; cases q
theorem Wd.of_none (w : Wd B G H) {p : Addr} (h : H p = none) : Of B G p := ⟨w.none_of h, fun f => by
  obtain ⟨_, o, q⟩ := w.hd p f
  rw [h] at q; cases q⟩
theorem Wd.nf (w : Wd B G H) {p : Addr} {c : Cl} (h : G p = some c) : ¬ B.F p := fun f => by
  rw [(w.hd p f).1] at h; cases h
theorem Wd.of_del (w : Wd B G H) {p : Addr} {c : Cl} (h : G p = some c) : Of B (gdel G p) p := ⟨gdel_same, w.nf h⟩
/-- a new cell -/
theorem Wd.cell (w : Wd B G H) {p : Addr} {o : HO} {c : Cl} (h : H p = none) (n : RpC B (gup G p c) (upd H p o) p c) : Wd B (gup G p c) (upd H p o) :=
  w.at_ (Stp.cell h) (fun a u z e => by rw [upd_ne z]; exact e) n (w.of_none h).2
/-- a cell written -/
theorem Wd.put (w : Wd B G H) {p : Addr} {o : HO} {c c' : Cl} (h : G p = some c') (nf : ∀ o u, H p ≠ some (.frz o u)) (n : RpC B (gup G p c) (upd H p o) p c) : Wd B (gup G p c) (upd H p o) :=
  w.at_ (Stp.put h nf) (fun a u z e => by rw [upd_ne z]; exact e) n (w.nf h)

/-! ### hiding -/
def Bd.plus (B : Bd) (D : Addr) : Bd := B.hide fun a => B.F a ∨ a = D
/-- D is new: a list that trees may not stand on -/
theorem Tr.hide {D : Addr} {o : HO} (h : H D = none) : Tr B (B.plus D).F G H G (upd H D o) :=
  ⟨fun a u e g => ⟨by rw [upd_ne (ne_of_none e h)]; exact e, g.1, fun f => f.elim g.2 (ne_of_none e h)⟩, fun a vs e => by rw [upd_ne (ne_of_none e h)]; exact e⟩
theorem Wd.hide (w : Wd B G H) {D : Addr} {o : HO} (h : H D = none) : Wd (B.plus D) G (upd H D o) := by
  have k : ∀ a u, H a = some u → upd H D o a = some u := fun a u e => by rw [upd_ne (ne_of_none e h)]; exact e
  refine ⟨fun a c e => RpC.tr (Tr.hide h) (k a) (w.cl a c e), fun a f => ?_⟩
  rcases f with f | rfl
  · obtain ⟨g, u, q⟩ := w.hd a f
    exact ⟨g, u, k a u q⟩
  · exact ⟨w.none_of h, o, upd_same⟩
/-- D changes -/
theorem Tr.turnO {D : Addr} {o u : HO} (hf : B.F D) (h : H D = some u) (nt : ∀ xs, u ≠ .tup xs) : Tr B B.F G H G (upd H D o) :=
  ⟨fun a u e g => ⟨by rw [upd_ne (fun z : a = D => g.2 (by rw [z]; exact hf))]; exact e, g⟩, fun a vs e => by
    rw [upd_ne fun z => ?_]
    · exact e
    · rw [z, h] at e; cases e; exact nt _ rfl⟩
theorem Wd.turnO (w : Wd B G H) {D : Addr} {o u : HO} (hf : B.F D) (h : H D = some u) (nt : ∀ xs, u ≠ .tup xs) : Wd B G (upd H D o) := by
  have hn : G D = none := (w.hd D hf).1
  refine ⟨fun a c e => RpC.tr (Tr.turnO hf h nt) (fun u q => ?_) (w.cl a c e), fun a f => ⟨(w.hd a f).1, ?_⟩⟩
  · rw [upd_ne fun z => by rw [z, hn] at e; cases e]; exact q
  · by_cases z : a = D
    · subst z; exact ⟨o, upd_same⟩
    · rw [upd_ne z]; exact (w.hd a f).2
theorem Tr.turn {D : Addr} {o : HO} {xs : List V} (hf : B.F D) (h : H D = some (.lst xs)) : Tr B B.F G H G (upd H D o) := Tr.turnO hf h fun _ => nofun
theorem Wd.turn (w : Wd B G H) {D : Addr} {o : HO} {xs : List V} (hf : B.F D) (h : H D = some (.lst xs)) : Wd B G (upd H D o) := w.turnO hf h fun _ => nofun
/-- D shows -/
theorem Tr.show {D : Addr} : Tr (B.plus D) B.F G H G H := ⟨fun a u e g => ⟨e, g.1, fun f => g.2 (.inl f)⟩, fun a vs e => e⟩
theorem Wd.show {D : Addr} (w : Wd (B.plus D) G H) : Wd B G H := ⟨fun a c e => RpC.tr (Tr.show (B := B) (D := D)) (fun _ q => q) (w.cl a c e), fun a f => w.hd a (.inl f)⟩
end
end TL
end
section
/-! TL2: the lifted judgements; names, constants, operators, tests, small statements. -/
namespace TL
open PySem PySem.Spec L2

abbrev Sl := List (Option D)
abbrev KD := D → GH → Prop
/-- an exception: its class, its fields -/
abbrev KX := Value → List (Str × D) → GH → Prop
abbrev KS := Value → List (Str × D) → Sl → GH → Prop
abbrev E1 := Sl → GH → KD → KX → Prop
abbrev T1 := Sl → GH → (Bool → GH → Prop) → KX → Prop
abbrev A1 := Sl → GH → (List D → GH → Prop) → KX → Prop
structure En where
  nx : Sl → GH → Prop
  rt : KD
  bk : Sl → GH → Prop := fun _ _ => False
  ct : Sl → GH → Prop := fun _ _ => False
abbrev S1 := En → KS → Sl → GH → Prop

section
variable (B : Bd)
def RpS (G : GH) (H : Hp) (σ : St) (τ : Sl) : Prop := σ.length = τ.length ∧ ∀ (i : Nat) (d : D), τ[i]? = some (some d) → ∃ v, σ[i]? = some (some v) ∧ Rp B G H d v
def RpX (G : GH) (H : Hp) : Option Addr → List (Str × D) → Prop
  | none, fs => fs = []
  | some a, fs => Of B G a ∧ ∃ fvs, H a = some (.xd fvs) ∧ RpF B G H fs fvs
variable (W : WX)
/-- where a reading stands: slots, cells, what is wanted of the value and of an exception -/
structure Pt (σ : St) (H : Hp) (Q : VK) (τ : Sl) (G : GH) (QT : KD) (ET : KX) : Prop where
  sl : RpS B G H σ τ
  wd : Wd B G H
  ok : ∀ v d G' H', Rp B G' H' d v → Wd B G' H' → Stp G H G' H' → QT d G' → Q v H'
  ex : ∀ c d fs G' H', RpX B G' H' d fs → Wd B G' H' → Stp G H G' H' → ET c fs G' → W c d σ H'
def LE (t : E1) : TE := fun σ H Q => ∃ F τ G QT ET, Pt (B.hide F) W σ H Q τ G QT ET ∧ t τ G QT ET
structure PtT (σ : St) (H : Hp) (Q : Bool → Hp → Prop) (τ : Sl) (G : GH) (QT : Bool → GH → Prop) (ET : KX) : Prop where
  sl : RpS B G H σ τ
  wd : Wd B G H
  ok : ∀ b G' H', Wd B G' H' → Stp G H G' H' → QT b G' → Q b H'
  ex : ∀ c d fs G' H', RpX B G' H' d fs → Wd B G' H' → Stp G H G' H' → ET c fs G' → W c d σ H'
def LT (t : T1) : TT := fun σ H Q => ∃ F τ G QT ET, PtT (B.hide F) W σ H Q τ G QT ET ∧ t τ G QT ET
structure PtA (σ : St) (H : Hp) (Q : List V → Hp → Prop) (τ : Sl) (G : GH) (QT : List D → GH → Prop) (ET : KX) : Prop where
  sl : RpS B G H σ τ
  wd : Wd B G H
  ok : ∀ vs ds G' H', RpL B G' H' ds vs → Wd B G' H' → Stp G H G' H' → QT ds G' → Q vs H'
  ex : ∀ c d fs G' H', RpX B G' H' d fs → Wd B G' H' → Stp G H G' H' → ET c fs G' → W c d σ H'
def LA (t : A1) : TA := fun σ H Q => ∃ F τ G QT ET, PtA (B.hide F) W σ H Q τ G QT ET ∧ t τ G QT ET
structure PtS (D' : Ends) (σ : St) (H : Hp) (DT : En) (KT : KS) (τ : Sl) (G : GH) : Prop where
  sl : RpS B G H σ τ
  wd : Wd B G H
  nx : ∀ σ' τ' G' H', RpS B G' H' σ' τ' → Wd B G' H' → Stp G H G' H' → DT.nx τ' G' → D'.nx σ' H'
  rt : ∀ v d G' H', Rp B G' H' d v → Wd B G' H' → Stp G H G' H' → DT.rt d G' → D'.rt v H'
  bk : ∀ σ' τ' G' H', RpS B G' H' σ' τ' → Wd B G' H' → Stp G H G' H' → DT.bk τ' G' → D'.bk σ' H'
  ct : ∀ σ' τ' G' H', RpS B G' H' σ' τ' → Wd B G' H' → Stp G H G' H' → DT.ct τ' G' → D'.ct σ' H'
  ex : ∀ c d fs σ' τ' G' H', RpS B G' H' σ' τ' → RpX B G' H' d fs → Wd B G' H' → Stp G H G' H' → KT c fs τ' G' → W c d σ' H'
def LS (t : S1) : TS := fun D' σ H => ∃ F τ G DT KT, PtS (B.hide F) W D' σ H DT KT τ G ∧ t DT KT τ G
end
def bd (X : Cx) : Bd := ⟨X.K, X.prog, X.w, fun _ => False⟩
def QE (X : Cx) (W : WX) (e : Expr) (t : E1) : Prop := PE X e (LE (bd X) W t)
def QT (X : Cx) (W : WX) (e : Expr) (t : T1) : Prop := PT X e (LT (bd X) W t)
def QW (X : Cx) (W : WX) (e : Expr) (t : T1) : Prop := PW X e (LT (bd X) W t)
def QA (X : Cx) (W : WX) (es : List Expr) (t : A1) : Prop := PA X es (LA (bd X) W t)
def QS (X : Cx) (W : WX) (s : Stmt) (t : S1) : Prop := PS X s (LS (bd X) W t)
def QSs (X : Cx) (W : WX) (s : List Stmt) (t : S1) : Prop := PSs X s (LS (bd X) W t)

section
variable {X : Cx} {e : Expr} {t t' : TE}
theorem PE.imp (h : PE X e t) (i : ∀ σ H Q, t' σ H Q → t σ H Q) : PE X e t' := ⟨fun pins s σ H Q I hw => h.run pins s σ H Q I (i _ _ _ hw)⟩
theorem PT.imp {t t' : TT} (h : PT X e t) (i : ∀ σ H Q, t' σ H Q → t σ H Q) : PT X e t' := ⟨fun pins s σ H Q I hw => h.run pins s σ H Q I (i _ _ _ hw)⟩
theorem PW.imp {t t' : TT} (h : PW X e t) (i : ∀ σ H Q, t' σ H Q → t σ H Q) : PW X e t' := ⟨fun wh pins s σ H Q I hw => h.run wh pins s σ H Q I (i _ _ _ hw)⟩
theorem PA.imp {es : List Expr} {t t' : TA} (h : PA X es t) (i : ∀ σ H Q, t' σ H Q → t σ H Q) : PA X es t' := ⟨fun pos pins s σ H Q I hw => h.run pos pins s σ H Q I (i _ _ _ hw)⟩
theorem PS.imp {st : Stmt} {t t' : TS} (h : PS X st t) (i : ∀ D σ H, t' D σ H → t D σ H) : PS X st t' := ⟨fun pins s σ H D I hw => h.run pins s σ H D I (i _ _ _ hw)⟩
theorem PSs.imp {st : List Stmt} {t t' : TS} (h : PSs X st t) (i : ∀ D σ H, t' D σ H → t D σ H) : PSs X st t' := ⟨fun pins s σ H D I hw => h.run pins s σ H D I (i _ _ _ hw)⟩
end

section
variable {B : Bd} {W : WX} {σ : St} {H : Hp} {G G' : GH} {H' : Hp} {τ : Sl}
theorem RpS.step (w : Wd B G H) (s : Stp G H G' H') (h : RpS B G H σ τ) : RpS B G' H' σ τ := ⟨h.1, fun i d e => by
  obtain ⟨v, h1, h2⟩ := h.2 i d e
  exact ⟨v, h1, h2.step w s⟩⟩
theorem RpS.set (h : RpS B G H σ τ) {i : Nat} {d : D} {v : V} (r : Rp B G H d v) : RpS B G H (σ.set i (some v)) (τ.set i (some d)) := ⟨by simp [h.1], fun j e he => by
  by_cases z : j = i
  · subst z
    have hl : j < τ.length := by
      have := List.getElem?_eq_some_iff.mp he
      obtain ⟨q, _⟩ := this
      simpa using q
    rw [List.getElem?_set_self hl] at he
    cases he
    exact ⟨v, by rw [List.getElem?_set_self (by rw [h.1]; exact hl)], r⟩
  · rw [List.getElem?_set_ne (Ne.symm z)] at he ⊢
    exact h.2 j e he⟩
theorem RpS.clear (h : RpS B G H σ τ) {i : Nat} : RpS B G H (σ.set i none) (τ.set i none) := ⟨by simp [h.1], fun j e he => by
  by_cases z : j = i
  · subst z
    have hl : j < τ.length := by
      have := List.getElem?_eq_some_iff.mp he
      obtain ⟨q, _⟩ := this
      simpa using q
    rw [List.getElem?_set_self hl] at he
    cases he
  · rw [List.getElem?_set_ne (Ne.symm z)] at he ⊢
    exact h.2 j e he⟩
/-- a slot forgotten at the upper level -/
theorem RpS.forget (h : RpS B G H σ τ) {i : Nat} : RpS B G H σ (τ.set i none) := ⟨by simp [h.1], fun j e he => by
  by_cases z : j = i
  · subst z
    have hl : j < τ.length := by
      have := List.getElem?_eq_some_iff.mp he
      obtain ⟨q, _⟩ := this
      simpa using q
    rw [List.getElem?_set_self hl] at he
    cases he
  · rw [List.getElem?_set_ne (Ne.symm z)] at he
    exact h.2 j e he⟩
/-- the slot as another tree -/
theorem RpS.as_ (h : RpS B G H σ τ) {i : Nat} {d : D} {v : V} (e : σ[i]? = some (some v)) (r : Rp B G H d v) : RpS B G H σ (τ.set i (some d)) := ⟨by simp [h.1], fun j x he => by
  by_cases z : j = i
  · subst z
    have hl : j < τ.length := by
      have := List.getElem?_eq_some_iff.mp he
      obtain ⟨q, _⟩ := this
      simpa using q
    rw [List.getElem?_set_self hl] at he
    cases he
    exact ⟨v, e, r⟩
  · rw [List.getElem?_set_ne (Ne.symm z)] at he
    exact h.2 j x he⟩

variable {Q : VK} {QT' : KD} {ET : KX}
theorem Pt.next (p : Pt B W σ H Q τ G QT' ET) (w : Wd B G' H') (s : Stp G H G' H') : Pt B W σ H' Q τ G' QT' ET :=
  ⟨p.sl.step p.wd s, w, fun v d G2 H2 r w2 s2 q => p.ok v d G2 H2 r w2 (s.trans s2) q, fun c d fs G2 H2 r w2 s2 q => p.ex c d fs G2 H2 r w2 (s.trans s2) q⟩
/-- an expression, then a continuation -/
theorem LE.bind {ta : E1} {k : D → Sl → GH → KD → KX → Prop} {QH : VK} {F : Addr → Prop} {PT : Pt (B.hide F) W σ H Q τ G QT' ET} (h : ta τ G (fun d G1 => k d τ G1 QT' ET) ET)
    (f : ∀ v d G1 H1, Pt (B.hide F) W σ H1 Q τ G1 QT' ET → Rp (B.hide F) G1 H1 d v → Stp G H G1 H1 → k d τ G1 QT' ET → QH v H1) : LE B W ta σ H QH :=
  ⟨F, τ, G, _, ET, ⟨PT.sl, PT.wd, fun v d G1 H1 r w s q => f v d G1 H1 (PT.next w s) r s q, PT.ex⟩, h⟩
end

/-! ### combinators -/
def eVar (i : Nat) : E1 := fun τ G Q _ => match τ[i]? with
  | some (some d) => Q d G
  | _ => False
def eC (d : D) : E1 := fun _ G Q _ => Q d G
abbrev R2T := D → D → GH → KD → KX → Prop
abbrev R1T := D → GH → KD → KX → Prop
def eOp (r : R2T) (ta tb : E1) : E1 := fun τ G Q E => ta τ G (fun x G1 => tb τ G1 (fun y G2 => r x y G2 Q E) E) E
def eUn (r : R1T) (ta : E1) : E1 := fun τ G Q E => ta τ G (fun x G1 => r x G1 Q E) E
/-- a flat value -/
def flat : D → Bool
  | .non | .bl _ | .int _ | .str _ | .ty _ | .ref _ => true
  | _ => false

section
variable {X : Cx} {W : WX} {pos : Pos}
theorem qe_var {i : Nat} {x : Str} (h : PE X (.Name x pos) (tVar i)) : QE X W (.Name x pos) (eVar i) := PE.imp h fun σ H Q ⟨F, τ, G, QT', ET, p, t⟩ => by
  unfold eVar at t
  cases e : τ[i]? with
  | none => rw [e] at t; exact t.elim
  | some o =>
    rw [e] at t
    cases o with
    | none => exact t.elim
    | some d =>
      obtain ⟨v, h1, h2⟩ := p.sl.2 i d e
      exact ⟨v, h1, p.ok v d G H h2 p.wd Stp.refl t⟩
theorem qe_c {e : Expr} {v : V} {d : D} (h : PE X e (tC v)) (r : ∀ B G H, Rp B G H d v := by intro B G H; simp [Rp]) : QE X W e (eC d) := PE.imp h fun σ H Q ⟨F, τ, G, QT', ET, p, t⟩ => p.ok v d G H (r _ _ _) p.wd Stp.refl t
theorem qe_int {i j} : QE X W (.Constant (.int i) j pos) (eC (.int i)) := qe_c pe_int
theorem qe_bl {b j} : QE X W (.Constant (.bool b) j pos) (eC (.bl b)) := qe_c pe_bl
theorem qe_non {j} : QE X W (.Constant .none j pos) (eC .non) := qe_c pe_non
theorem qe_str {x j} : QE X W (.Constant (.str x) j pos) (eC (.str x)) := qe_c pe_str
theorem qe_glob {x : Str} {a : Addr} (hg : Gl X x) (hm : X.mg x = some (.ref a)) (hd : (x == ("__debug__" : Str)) = false := by decide) : QE X W (.Name x pos) (eC (.ref a)) := qe_c (v := .ref a) (pe_glob hg hm rfl hd)
theorem qe_globI {x : Str} {i : Int} {t : Tok} (hg : Gl X x) (hm : X.mg x = some (.int i t)) (hd : (x == ("__debug__" : Str)) = false := by decide) : QE X W (.Name x pos) (eC (.int i)) := qe_c (v := .int i) (pe_glob hg hm ⟨t, rfl⟩ hd)
theorem qe_globS {x : Str} {z : Str} {t : Tok} (hg : Gl X x) (hm : X.mg x = some (.str z t)) (hd : (x == ("__debug__" : Str)) = false := by decide) : QE X W (.Name x pos) (eC (.str z)) := qe_c (v := .str z) (pe_glob hg hm ⟨t, rfl⟩ hd)

/-- a two-place operation at both levels -/
def Sim2 (B : Bd) (r : R2T) (rH : R2) : Prop := ∀ (F : Addr → Prop) (W : WX) (σ : St) (H : Hp) (Q : VK) (τ : Sl) (G : GH) (QT' : KD) (ET : KX) (x y : D) (v u : V), Pt (B.hide F) W σ H Q τ G QT' ET → Rp (B.hide F) G H x v → Rp (B.hide F) G H y u → r x y G QT' ET → rH v u H Q
def Sim1 (B : Bd) (r : R1T) (rH : V → Hp → VK → Prop) : Prop := ∀ (F : Addr → Prop) (W : WX) (σ : St) (H : Hp) (Q : VK) (τ : Sl) (G : GH) (QT' : KD) (ET : KX) (x : D) (v : V), Pt (B.hide F) W σ H Q τ G QT' ET → Rp (B.hide F) G H x v → r x G QT' ET → rH v H Q
theorem le_op {B : Bd} {r : R2T} {rH : R2} {ta tb : E1} {σ : St} {H : Hp} {Q : VK} (s : Sim2 B r rH) (h : LE B W (eOp r ta tb) σ H Q) : tOp rH (LE B W ta) (LE B W tb) σ H Q := by
  obtain ⟨F, τ, G, QT', ET, p, t⟩ := h
  refine LE.bind (PT := p) (k := fun d τ G1 Q E => tb τ G1 (fun y G2 => r d y G2 Q E) E) t fun v d G1 H1 p1 r1 s1 q1 => ?_
  refine LE.bind (PT := p1) (k := fun y τ G2 Q E => r d y G2 Q E) q1 fun u y G2 H2 p2 r2 s2 q2 => ?_
  exact s F W σ H2 Q τ G2 QT' ET d y v u p2 (r1.step p1.wd s2) r2 q2
theorem le_un {B : Bd} {r : R1T} {rH : V → Hp → VK → Prop} {ta : E1} {σ : St} {H : Hp} {Q : VK} (s : Sim1 B r rH) (h : LE B W (eUn r ta) σ H Q) : tUn rH (LE B W ta) σ H Q := by
  obtain ⟨F, τ, G, QT', ET, p, t⟩ := h
  refine LE.bind (PT := p) (k := fun d τ G1 Q E => r d G1 Q E) t fun v d G1 H1 p1 r1 s1 q1 => ?_
  exact s F W σ H1 Q τ G1 QT' ET d v p1 r1 q1
theorem qe_op {op : Operator} {a b : Expr} {ta tb : E1} {r : R2T} {rH : R2} (s : Sim2 (bd X) r rH) (ho : OpR X (binaryOp op) rH) (ha : QE X W a ta) (hb : QE X W b tb) : QE X W (.BinOp a op b pos) (eOp r ta tb) :=
  PE.imp (pe_op ho ha hb) fun _ _ _ h => le_op s h
theorem qe_un {op : UnaryOp} {a : Expr} {ta : E1} {r : R1T} {rH : V → Hp → VK → Prop} (s : Sim1 (bd X) r rH) (ho : UnR X (unaryOp op) rH) (ha : QE X W a ta) : QE X W (.UnaryOp op a pos) (eUn r ta) :=
  PE.imp (pe_un ho ha) fun _ _ _ h => le_un s h
theorem qe_cmp {op : CmpOp} {a b : Expr} {ta tb : E1} {r : R2T} {rH : R2} (s : Sim2 (bd X) r rH) (ho : OpR X (compareOp op) rH) (ha : QE X W a ta) (hb : QE X W b tb) (hm : behindInMarks op b = false := by first | exact nomark _ | rfl) : QE X W (.Compare a [op] [b] pos) (eOp r ta tb) :=
  PE.imp (pe_cmpR ho ha hb hm) fun _ _ _ h => le_op s h
/-- a value that is a bool, as a test -/
def tBl (t : E1) : T1 := fun τ G Q E => t τ G (fun d G1 => match d with
  | .bl b => Q b G1
  | _ => False) E
theorem Rp.bl_inv {B : Bd} {G : GH} {H : Hp} {b : Bool} {v : V} (h : Rp B G H (.bl b) v) : v = .bl b := by simpa [Rp] using h
theorem Rp.int_inv {B : Bd} {G : GH} {H : Hp} {b : Int} {v : V} (h : Rp B G H (.int b) v) : v = .int b := by simpa [Rp] using h
theorem Rp.str_inv {B : Bd} {G : GH} {H : Hp} {b : Str} {v : V} (h : Rp B G H (.str b) v) : v = .str b := by simpa [Rp] using h
theorem Rp.non_inv {B : Bd} {G : GH} {H : Hp} {v : V} (h : Rp B G H .non v) : v = .non := by simpa [Rp] using h
theorem Rp.ref_inv {B : Bd} {G : GH} {H : Hp} {a : Addr} {v : V} (h : Rp B G H (.ref a) v) : v = .ref a := by simpa [Rp] using h
theorem rp_bl {B : Bd} {G : GH} {H : Hp} {b : Bool} : Rp B G H (.bl b) (.bl b) := by simp [Rp]
theorem rp_int {B : Bd} {G : GH} {H : Hp} {b : Int} : Rp B G H (.int b) (.int b) := by simp [Rp]
theorem rp_str {B : Bd} {G : GH} {H : Hp} {b : Str} : Rp B G H (.str b) (.str b) := by simp [Rp]
theorem rp_non {B : Bd} {G : GH} {H : Hp} : Rp B G H .non .non := by simp [Rp]
theorem rp_ref {B : Bd} {G : GH} {H : Hp} {a : Addr} : Rp B G H (.ref a) (.ref a) := by simp [Rp]
theorem PtT.next {B : Bd} {σ : St} {H H' : Hp} {Q : Bool → Hp → Prop} {τ : Sl} {G G' : GH} {QT' : Bool → GH → Prop} {ET : KX} (p : PtT B W σ H Q τ G QT' ET) (w : Wd B G' H') (s : Stp G H G' H') : PtT B W σ H' Q τ G' QT' ET :=
  ⟨p.sl.step p.wd s, w, fun v G2 H2 w2 s2 q => p.ok v G2 H2 w2 (s.trans s2) q, fun c d fs G2 H2 r w2 s2 q => p.ex c d fs G2 H2 r w2 (s.trans s2) q⟩
theorem lt_bl {B : Bd} {t : E1} {σ : St} {H : Hp} {Q : Bool → Hp → Prop} (h : LT B W (tBl t) σ H Q) : LE B W t σ H (fun x H' => ∃ k, x = .bl k ∧ Q k H') := by
  obtain ⟨F, τ, G, QT', ET, p, t⟩ := h
  refine ⟨F, τ, G, _, ET, ⟨p.sl, p.wd, fun v d G1 H1 r w s q => ?_, p.ex⟩, t⟩
  cases d with
  | bl b => exact ⟨b, r.bl_inv, p.ok b G1 H1 w s q⟩
  | _ => exact q.elim
theorem qt_cmp {op : CmpOp} {a b : Expr} {ta tb : E1} {r : R2T} {rH : R2} (s : Sim2 (bd X) r rH) (ho : OpR X (compareOp op) rH) (ha : QE X W a ta) (hb : QE X W b tb) (hm : behindInMarks op b = false := by first | exact nomark _ | rfl) : QT X W (.Compare a [op] [b] pos) (tBl (eOp r ta tb)) :=
  PT.imp (pt_cmpR ho ha hb hm) fun _ _ _ h => by
    obtain ⟨F, τ, G, QT', ET, p, t⟩ := h
    exact le_op s (lt_bl ⟨F, τ, G, QT', ET, p, t⟩)
theorem qt_val {e : Expr} {t : E1} (h : QE X W e t) (he : ∀ whole, isTrue e X.env whole = (do let v ← whole; standAt e.pos; holding [v] (truthy v)) := by intro _; rfl) : QT X W e (tBl t) :=
  PT.imp (pt_val h he) fun _ _ _ h => lt_bl h

/-! and, or, not -/
def tAnd' (t u : T1) : T1 := fun τ G Q E => t τ G (fun c G1 => if c = true then u τ G1 Q E else Q false G1) E
def tOr' (t u : T1) : T1 := fun τ G Q E => t τ G (fun c G1 => if c = true then Q true G1 else u τ G1 Q E) E
def tNot' (t : T1) : T1 := fun τ G Q E => t τ G (fun c G1 => Q (!c) G1) E
theorem lt_and {B : Bd} {t u : T1} {σ : St} {H : Hp} {Q : Bool → Hp → Prop} (h : LT B W (tAnd' t u) σ H Q) : tAnd (LT B W t) (LT B W u) σ H Q := by
  obtain ⟨F, τ, G, QT', ET, p, t⟩ := h
  refine ⟨F, τ, G, _, ET, ⟨p.sl, p.wd, fun c G1 H1 w s q => ?_, p.ex⟩, t⟩
  cases c with
  | true => exact ⟨F, τ, G1, QT', ET, p.next w s, q⟩
  | false => exact p.ok false G1 H1 w s q
theorem lt_or {B : Bd} {t u : T1} {σ : St} {H : Hp} {Q : Bool → Hp → Prop} (h : LT B W (tOr' t u) σ H Q) : tOr (LT B W t) (LT B W u) σ H Q := by
  obtain ⟨F, τ, G, QT', ET, p, t⟩ := h
  refine ⟨F, τ, G, _, ET, ⟨p.sl, p.wd, fun c G1 H1 w s q => ?_, p.ex⟩, t⟩
  cases c with
  | false => exact ⟨F, τ, G1, QT', ET, p.next w s, q⟩
  | true => exact p.ok true G1 H1 w s q
theorem qw_and1 {a : Expr} {t : T1} (h : QT X W a t) : QW X W (.BoolOp .And [a] pos) t := pw_and1 h
theorem qw_or1 {a : Expr} {t : T1} (h : QT X W a t) : QW X W (.BoolOp .Or [a] pos) t := pw_or1 h
theorem qw_and {a b : Expr} {r : List Expr} {t u : T1} (h : QT X W a t) (g : QW X W (.BoolOp .And (b :: r) pos) u) : QW X W (.BoolOp .And (a :: b :: r) pos) (tAnd' t u) := PW.imp (pw_and h g) fun _ _ _ h => lt_and h
theorem qw_or {a b : Expr} {r : List Expr} {t u : T1} (h : QT X W a t) (g : QW X W (.BoolOp .Or (b :: r) pos) u) : QW X W (.BoolOp .Or (a :: b :: r) pos) (tOr' t u) := PW.imp (pw_or h g) fun _ _ _ h => lt_or h
theorem QW.qt {e : Expr} {t : T1} (h : QW X W e t) : QT X W e t := PW.pt h
theorem qt_not {a : Expr} {t : T1} (h : QT X W a t) : QT X W (.UnaryOp .Not a pos) (tNot' t) := PT.imp (pt_not h) fun σ H Q h => by
  obtain ⟨F, τ, G, QT', ET, p, t⟩ := h
  exact ⟨F, τ, G, _, ET, ⟨p.sl, p.wd, fun c G1 H1 w s q => p.ok _ G1 H1 w s q, p.ex⟩, t⟩
def eAnd (t u : E1) : E1 := fun τ G Q E => t τ G (fun d G1 => match d with
  | .bl true => u τ G1 Q E
  | .bl false => Q (.bl false) G1
  | _ => False) E
def eOr (t u : E1) : E1 := fun τ G Q E => t τ G (fun d G1 => match d with
  | .bl true => Q (.bl true) G1
  | .bl false => u τ G1 Q E
  | _ => False) E
def eNot (t : E1) : E1 := fun τ G Q E => t τ G (fun d G1 => match d with
  | .bl b => Q (.bl (!b)) G1
  | _ => False) E
theorem qe_one {op} {a : Expr} {t : E1} (h : QE X W a t) : QE X W (.BoolOp op [a] pos) t := pe_one h
theorem qe_and {a b : Expr} {r : List Expr} {t u : E1} (h : QE X W a t) (g : QE X W (.BoolOp .And (b :: r) pos) u) : QE X W (.BoolOp .And (a :: b :: r) pos) (eAnd t u) := PE.imp (pe_and h g) fun σ H Q h => by
  obtain ⟨F, τ, G, QT', ET, p, t⟩ := h
  refine LE.bind (PT := p) (k := fun d τ G1 Q E => match d with
  | .bl true => u τ G1 Q E
  | .bl false => Q (.bl false) G1
  | _ => False) t fun v d G1 H1 p1 r1 s1 q1 => ?_
  cases d with
  | bl b =>
    refine ⟨b, r1.bl_inv, ?_⟩
    cases b with
    | true => exact ⟨F, τ, G1, QT', ET, p1, q1⟩
    | false => exact p1.ok _ _ G1 H1 rp_bl p1.wd Stp.refl q1
  | _ => exact q1.elim
theorem qe_or {a b : Expr} {r : List Expr} {t u : E1} (h : QE X W a t) (g : QE X W (.BoolOp .Or (b :: r) pos) u) : QE X W (.BoolOp .Or (a :: b :: r) pos) (eOr t u) := PE.imp (pe_or h g) fun σ H Q h => by
  obtain ⟨F, τ, G, QT', ET, p, t⟩ := h
  refine LE.bind (PT := p) (k := fun d τ G1 Q E => match d with
  | .bl true => Q (.bl true) G1
  | .bl false => u τ G1 Q E
  | _ => False) t fun v d G1 H1 p1 r1 s1 q1 => ?_
  cases d with
  | bl b =>
    refine ⟨b, r1.bl_inv, ?_⟩
    cases b with
    | true => exact p1.ok _ _ G1 H1 rp_bl p1.wd Stp.refl q1
    | false => exact ⟨F, τ, G1, QT', ET, p1, q1⟩
  | _ => exact q1.elim
theorem qe_not {a : Expr} {t : E1} (h : QE X W a t) : QE X W (.UnaryOp .Not a pos) (eNot t) := PE.imp (pe_not h) fun σ H Q h => by
  obtain ⟨F, τ, G, QT', ET, p, t⟩ := h
  refine LE.bind (PT := p) (k := fun d τ G1 Q E => match d with
  | .bl b => Q (.bl (!b)) G1
  | _ => False) t fun v d G1 H1 p1 r1 s1 q1 => ?_
  cases d with
  | bl b => exact ⟨b, r1.bl_inv, p1.ok _ _ G1 H1 rp_bl p1.wd Stp.refl q1⟩
  | _ => exact q1.elim
def eIf (c : T1) (t u : E1) : E1 := fun τ G Q E => c τ G (fun b G1 => if b = true then t τ G1 Q E else u τ G1 Q E) E
theorem qe_if {c a b : Expr} {tc : T1} {t u : E1} (hc : QT X W c tc) (ha : QE X W a t) (hb : QE X W b u) : QE X W (.IfExp c a b pos) (eIf tc t u) := PE.imp (pe_ifExp hc ha hb) fun σ H Q h => by
  obtain ⟨F, τ, G, QT', ET, p, t⟩ := h
  refine ⟨F, τ, G, _, ET, ⟨p.sl, p.wd, fun c G1 H1 w s q => ?_, p.ex⟩, t⟩
  cases c with
  | true => exact ⟨F, τ, G1, QT', ET, p.next w s, q⟩
  | false => exact ⟨F, τ, G1, QT', ET, p.next w s, q⟩

/-! arguments -/
def aNil : A1 := fun _ G Q _ => Q [] G
def aCons (te : E1) (tr : A1) : A1 := fun τ G Q E => te τ G (fun x G1 => tr τ G1 (fun xs G2 => Q (x :: xs) G2) E) E
theorem qa_nil : QA X W [] aNil := PA.imp pa_nil fun σ H Q ⟨F, τ, G, QT', ET, p, t⟩ => p.ok [] [] G H RpL.nil p.wd Stp.refl t
theorem qa_cons {e : Expr} {es : List Expr} {te : E1} {tr : A1} (he : QE X W e te) (hr : QA X W es tr) (hs : starEach (e :: es) X.env = (false, eval e X.env) :: starEach es X.env := by rfl) : QA X W (e :: es) (aCons te tr) :=
  PA.imp (pa_cons he hr hs) fun σ H Q ⟨F, τ, G, QT', ET, p, t⟩ => by
    refine ⟨F, τ, G, _, ET, ⟨p.sl, p.wd, fun v d G1 H1 r w s q => ?_, p.ex⟩, t⟩
    refine ⟨F, τ, G1, _, ET, ⟨p.sl.step p.wd s, w, fun vs ds G2 H2 r2 w2 s2 q2 => p.ok (v :: vs) (d :: ds) G2 H2 (RpL.cons (r.step w s2) r2) w2 (s.trans s2) q2, fun c d fs G2 H2 r2 w2 s2 q2 => p.ex c d fs G2 H2 r2 w2 (s.trans s2) q2⟩, q⟩

/-! displays -/
def eTup (t : A1) : E1 := fun τ G Q E => t τ G (fun xs G1 => xs.length ≤ sizeLine ∧ Q (.tup xs) G1) E
/-- a list that nobody changes | a cell -/
def eLst (t : A1) : E1 := fun τ G Q E => t τ G (fun xs G1 => xs.length ≤ sizeLine ∧ Q (.lst xs) G1) E
def eLstC (t : A1) : E1 := fun τ G Q E => t τ G (fun xs G1 => xs.length ≤ sizeLine ∧ ∀ p, G1 p = none → Q (.ref p) (gup G1 p (.lst xs))) E
theorem rp_lstN {B : Bd} {G : GH} {H : Hp} {p : Addr} {xs : List D} {vs : List V} (w : Wd B G H) (hp : H p = none) (r : RpL B G H xs vs) : Rp B G (upd H p (.lst vs)) (.lst xs) (.ref p) := by
  unfold Rp
  exact ⟨p, vs, rfl, ⟨upd_same, w.of_none hp⟩, r.step w (Stp.fresh hp)⟩
theorem rp_tupN {B : Bd} {G : GH} {H : Hp} {p : Addr} {xs : List D} {vs : List V} (w : Wd B G H) (hp : H p = none) (r : RpL B G H xs vs) : Rp B G (upd H p (.tup vs)) (.tup xs) (.ref p) := by
  unfold Rp
  exact ⟨p, vs, rfl, upd_same, r.step w (Stp.fresh hp)⟩
theorem Pt.lstN {B : Bd} {σ : St} {H : Hp} {Q : VK} {τ : Sl} {G : GH} {QT' : KD} {ET : KX} {p : Addr} {xs : List D} {vs : List V} (P : Pt B W σ H Q τ G QT' ET) (hp : H p = none) (r : RpL B G H xs vs) (q : QT' (.lst xs) G) : Q (.ref p) (upd H p (.lst vs)) :=
  P.ok _ _ G _ (rp_lstN P.wd hp r) (P.wd.fresh hp) (Stp.fresh hp) q
theorem Pt.lstC {B : Bd} {σ : St} {H : Hp} {Q : VK} {τ : Sl} {G : GH} {QT' : KD} {ET : KX} {p : Addr} {xs : List D} {vs : List V} (P : Pt B W σ H Q τ G QT' ET) (hp : H p = none) (r : RpL B G H xs vs) (q : ∀ p, G p = none → QT' (.ref p) (gup G p (.lst xs))) : Q (.ref p) (upd H p (.lst vs)) :=
  P.ok _ _ (gup G p (.lst xs)) _ rp_ref (P.wd.cell hp ⟨vs, upd_same, r.step P.wd (Stp.cell hp)⟩) (Stp.cell hp) (q p (P.wd.none_of hp))
theorem PtA.pt {B : Bd} {σ : St} {H H1 : Hp} {Q : VK} {τ : Sl} {G G1 : GH} {QT' : KD} {ET : KX} (p : Pt B W σ H Q τ G QT' ET) (w : Wd B G1 H1) (s : Stp G H G1 H1) : Pt B W σ H1 Q τ G1 QT' ET := p.next w s
/-- arguments, then a continuation -/
theorem LA.bind {F : Addr → Prop} {B : Bd} {σ : St} {H : Hp} {Q : VK} {τ : Sl} {G : GH} {QT' : KD} {ET : KX} {ta : A1} {k : List D → GH → KD → KX → Prop} {QH : List V → Hp → Prop} {P : Pt (B.hide F) W σ H Q τ G QT' ET} (h : ta τ G (fun d G1 => k d G1 QT' ET) ET)
    (f : ∀ vs ds G1 H1, Pt (B.hide F) W σ H1 Q τ G1 QT' ET → RpL (B.hide F) G1 H1 ds vs → Stp G H G1 H1 → k ds G1 QT' ET → QH vs H1) : LA B W ta σ H QH :=
  ⟨F, τ, G, _, ET, ⟨P.sl, P.wd, fun v d G1 H1 r w s q => f v d G1 H1 (P.next w s) r s q, P.ex⟩, h⟩
theorem qe_tup {es : List Expr} {x1} {t : A1} (h : QA X W es t) : QE X W (.Tuple es x1 pos) (eTup t) := PE.imp (pe_tup h) fun σ H Q ⟨F, τ, G, QT', ET, p, t⟩ => by
  refine LA.bind (P := p) (k := fun xs G1 Q E => xs.length ≤ sizeLine ∧ Q (.tup xs) G1) t fun vs ds G1 H1 p1 r s q => ?_
  exact ⟨by rw [r.length]; exact q.1, fun a ha => p1.ok _ _ G1 _ (rp_tupN p1.wd ha r) (p1.wd.fresh ha) (Stp.fresh ha) q.2⟩
theorem qe_lst {es : List Expr} {t : A1} (h : QA X W es t) : QE X W (.List es pos) (eLst t) := PE.imp (pe_lst h) fun σ H Q ⟨F, τ, G, QT', ET, p, t⟩ => by
  refine LA.bind (P := p) (k := fun xs G1 Q E => xs.length ≤ sizeLine ∧ Q (.lst xs) G1) t fun vs ds G1 H1 p1 r s q => ?_
  exact ⟨by rw [r.length]; exact q.1, fun a ha => p1.lstN ha r q.2⟩
theorem qe_lstC {es : List Expr} {t : A1} (h : QA X W es t) : QE X W (.List es pos) (eLstC t) := PE.imp (pe_lst h) fun σ H Q ⟨F, τ, G, QT', ET, p, t⟩ => by
  refine LA.bind (P := p) (k := fun xs G1 Q E => xs.length ≤ sizeLine ∧ ∀ p, G1 p = none → Q (.ref p) (gup G1 p (.lst xs))) t fun vs ds G1 H1 p1 r s q => ?_
  exact ⟨by rw [r.length]; exact q.1, fun a ha => p1.lstC ha r q.2⟩

/-! ### statements -/
def sNext : S1 := fun D _ τ G => D.nx τ G
def sSeq (t u : S1) : S1 := fun D E τ G => t { D with nx := u D E } E τ G
section
variable {B : Bd} {D' : Ends} {σ : St} {H H1 : Hp} {DT : En} {KT : KS} {τ τ1 : Sl} {G G1 : GH} {σ1 : St}
theorem PtS.next (p : PtS B W D' σ H DT KT τ G) (r : RpS B G1 H1 σ1 τ1) (w : Wd B G1 H1) (s : Stp G H G1 H1) : PtS B W D' σ1 H1 DT KT τ1 G1 :=
  ⟨r, w, fun σ' τ' G' H' r w s' q => p.nx σ' τ' G' H' r w (s.trans s') q, fun v d G' H' r w s' q => p.rt v d G' H' r w (s.trans s') q, fun σ' τ' G' H' r w s' q => p.bk σ' τ' G' H' r w (s.trans s') q, fun σ' τ' G' H' r w s' q => p.ct σ' τ' G' H' r w (s.trans s') q,
    fun c d fs σ' τ' G' H' r rx w s' q => p.ex c d fs σ' τ' G' H' r rx w (s.trans s') q⟩
/-- an expression within a statement -/
theorem LE.inS {F : Addr → Prop} {ta : E1} {k : D → Sl → GH → Prop} {QH : VK} (P : PtS (B.hide F) W D' σ H DT KT τ G) (h : ta τ G (fun d G1 => k d τ G1) (fun c f g => KT c f τ g))
    (f : ∀ v d G1 H1, PtS (B.hide F) W D' σ H1 DT KT τ G1 → Rp (B.hide F) G1 H1 d v → Stp G H G1 H1 → k d τ G1 → QH v H1) : LE B W ta σ H QH :=
  ⟨F, τ, G, _, _, ⟨P.sl, P.wd, fun v d G1 H1 r w s q => f v d G1 H1 (P.next (P.sl.step P.wd s) w s) r s q, fun c d fs G' H' r w s q => P.ex c d fs σ τ G' H' (P.sl.step P.wd s) r w s q⟩, h⟩
theorem LT.inS {F : Addr → Prop} {ta : T1} {k : Bool → Sl → GH → Prop} {QH : Bool → Hp → Prop} (P : PtS (B.hide F) W D' σ H DT KT τ G) (h : ta τ G (fun d G1 => k d τ G1) (fun c f g => KT c f τ g))
    (f : ∀ b G1 H1, PtS (B.hide F) W D' σ H1 DT KT τ G1 → Stp G H G1 H1 → k b τ G1 → QH b H1) : LT B W ta σ H QH :=
  ⟨F, τ, G, _, _, ⟨P.sl, P.wd, fun b G1 H1 w s q => f b G1 H1 (P.next (P.sl.step P.wd s) w s) s q, fun c d fs G' H' r w s q => P.ex c d fs σ τ G' H' (P.sl.step P.wd s) r w s q⟩, h⟩
theorem LA.inS {F : Addr → Prop} {ta : A1} {k : List D → Sl → GH → Prop} {QH : List V → Hp → Prop} (P : PtS (B.hide F) W D' σ H DT KT τ G) (h : ta τ G (fun d G1 => k d τ G1) (fun c f g => KT c f τ g))
    (f : ∀ vs ds G1 H1, PtS (B.hide F) W D' σ H1 DT KT τ G1 → RpL (B.hide F) G1 H1 ds vs → Stp G H G1 H1 → k ds τ G1 → QH vs H1) : LA B W ta σ H QH :=
  ⟨F, τ, G, _, _, ⟨P.sl, P.wd, fun v d G1 H1 r w s q => f v d G1 H1 (P.next (P.sl.step P.wd s) w s) r s q, fun c d fs G' H' r w s q => P.ex c d fs σ τ G' H' (P.sl.step P.wd s) r w s q⟩, h⟩
end
theorem qss_nil : QSs X W [] sNext := PSs.imp pss_nil fun D' σ H ⟨F, τ, G, DT, KT, p, t⟩ => p.nx σ τ G H p.sl p.wd Stp.refl t
theorem qss_cons {s : Stmt} {r : List Stmt} {t u : S1} (h : QS X W s t) (g : QSs X W r u) : QSs X W (s :: r) (sSeq t u) := PSs.imp (pss_cons h g) fun D' σ H ⟨F, τ, G, DT, KT, p, q⟩ =>
  ⟨F, τ, G, { DT with nx := u DT KT }, KT, ⟨p.sl, p.wd, fun σ' τ' G' H' r w s' q => ⟨F, τ', G', DT, KT, p.next r w s', q⟩, p.rt, p.bk, p.ct, p.ex⟩, q⟩
theorem qss_one {s : Stmt} {t : S1} (h : QS X W s t) : QSs X W [s] t := pss_one h
def sBreak : S1 := fun D _ τ G => D.bk τ G
def sCont : S1 := fun D _ τ G => D.ct τ G
theorem qs_pass : QS X W (.Pass pos) sNext := PS.imp ps_pass fun D' σ H ⟨F, τ, G, DT, KT, p, t⟩ => p.nx σ τ G H p.sl p.wd Stp.refl t
theorem qs_break : QS X W (.Break pos) sBreak := PS.imp ps_break fun D' σ H ⟨F, τ, G, DT, KT, p, t⟩ => p.bk σ τ G H p.sl p.wd Stp.refl t
theorem qs_continue : QS X W (.Continue pos) sCont := PS.imp ps_continue fun D' σ H ⟨F, τ, G, DT, KT, p, t⟩ => p.ct σ τ G H p.sl p.wd Stp.refl t
theorem qs_doc {x j pos'} : QS X W (.Expr (.Constant (.str x) j pos) pos') sNext := PS.imp ps_doc fun D' σ H ⟨F, τ, G, DT, KT, p, t⟩ => p.nx σ τ G H p.sl p.wd Stp.refl t
def sExpr (te : E1) : S1 := fun D E τ G => te τ G (fun _ G1 => D.nx τ G1) (fun c f g => E c f τ g)
theorem qs_expr {e : Expr} {te : E1} (h : QE X W e te) (hs : swapsWith e none pos.line X.env = pure false := by rfl) : QS X W (.Expr e pos) (sExpr te) := PS.imp (ps_expr h hs) fun D' σ H ⟨F, τ, G, DT, KT, p, t⟩ =>
  LE.inS p (k := fun _ τ G1 => DT.nx τ G1) t fun v d G1 H1 p1 r s q => p1.nx σ τ G1 H1 p1.sl p1.wd Stp.refl q
def sRet (te : E1) : S1 := fun D E τ G => te τ G D.rt (fun c f g => E c f τ g)
theorem qs_ret {e : Expr} {te : E1} (h : QE X W e te) : QS X W (.Return (some e) pos) (sRet te) := PS.imp (ps_ret h) fun D' σ H ⟨F, τ, G, DT, KT, p, t⟩ =>
  LE.inS p (k := fun d τ G1 => DT.rt d G1) t fun v d G1 H1 p1 r s q => p1.rt v d G1 H1 r p1.wd Stp.refl q
def sRetN : S1 := fun D _ _ G => D.rt .non G
theorem qs_retN : QS X W (.Return none pos) sRetN := PS.imp ps_retN fun D' σ H ⟨F, τ, G, DT, KT, p, t⟩ => p.rt .non .non G H rp_non p.wd Stp.refl t
def sIf (c : T1) (t u : S1) : S1 := fun D E τ G => c τ G (fun b G1 => if b = true then t D E τ G1 else u D E τ G1) (fun c f g => E c f τ g)
theorem qs_if {c : Expr} {a b : List Stmt} {tc : T1} {t u : S1} (hc : QT X W c tc) (ha : QSs X W a t) (hb : QSs X W b u) : QS X W (.If c a b pos) (sIf tc t u) := PS.imp (ps_if hc ha hb) fun D' σ H ⟨F, τ, G, DT, KT, p, q⟩ =>
  LT.inS p (k := fun b τ G1 => if b = true then t DT KT τ G1 else u DT KT τ G1) q fun b G1 H1 p1 s q => by
    cases b with
    | true => exact ⟨F, τ, G1, DT, KT, p1, q⟩
    | false => exact ⟨F, τ, G1, DT, KT, p1, q⟩
def sNever : S1 := fun _ _ _ _ => False
theorem qs_never {st : Stmt} : QS X W st sNever := PS.imp ps_never fun _ _ _ ⟨_, _, _, _, _, _, t⟩ => t.elim
theorem qss_never {st : List Stmt} : QSs X W st sNever := PSs.imp pss_never fun _ _ _ ⟨_, _, _, _, _, _, t⟩ => t.elim
/-- slot i := e -/
def sSet (i : Nat) (te : E1) : S1 := fun D E τ G => te τ G (fun d G1 => D.nx (τ.set i (some d)) G1) (fun c f g => E c f τ g)
theorem qs_set {i : Nat} {x : Str} {e : Expr} {te : E1} {pos' : Pos} (hN : X.N.Nodup) (hi : X.N[i]? = some x) (hx : Loc X.env.scope x) (he : QE X W e te) (hs : swapsWith e (some (.Name x pos')) pos.line X.env = pure false := by rfl)
    (hf : X.fn x = true ∨ X.env.scope.names.lookup x = some .local := by first | exact .inl rfl | exact .inr rfl | assumption) : QS X W (.Assign [.Name x pos'] e pos) (sSet i te) :=
  PS.imp (ps_set hN hi hx he hs hf) fun D' σ H ⟨F, τ, G, DT, KT, p, t⟩ =>
    LE.inS p (k := fun d τ G1 => DT.nx (τ.set i (some d)) G1) t fun v d G1 H1 p1 r s q => p1.nx _ _ G1 H1 (p1.sl.set r) p1.wd Stp.refl q
end
end TL
end
section
/-! TL3: views of lists and dicts, arithmetic, comparisons, equality of data. -/
namespace TL
open PySem PySem.Spec L2

/-! ### dicts as lists of pairs -/
section
variable {κ : Type} [DecidableEq κ]
def getK (kvs : List (κ × D)) (k : κ) : Option D := (kvs.find? fun kv => decide (kv.1 = k)).map (·.2)
def putD (kvs : List (κ × D)) (k : κ) (v : D) : List (κ × D) :=
  if (kvs.any fun kv => decide (kv.1 = k)) = true then kvs.map (fun kv => if kv.1 = k then (kv.1, v) else kv) else kvs ++ [(k, v)]
def dropD (kvs : List (κ × D)) (k : κ) : List (κ × D) := kvs.filter fun kv => decide (kv.1 ≠ k)
variable {B : Bd} {G : GH} {H : Hp}
def RpG (B : Bd) (G : GH) (H : Hp) : List (κ × D) → List (κ × V) → Prop := Paired fun p q => p.1 = q.1 ∧ Rp B G H p.2 q.2
theorem RpG.k : ∀ {ds : List (Key × D)} {vs : List (Key × V)}, RpK B G H ds vs ↔ RpG B G H ds vs
  | [], vs => by
    unfold RpK
    exact ⟨fun e => by rw [e]; exact .nil, fun h => by cases h; rfl⟩
  | (k, d) :: ds, vs => by
    unfold RpK
    constructor
    · rintro ⟨v, r, rfl, h, q⟩
      exact .cons ⟨rfl, h⟩ (RpG.k.mp q)
    · intro h
      cases h with
      | @cons _ q _ us h t =>
        obtain ⟨k', v⟩ := q
        obtain ⟨e, h⟩ := h
        cases e
        exact ⟨v, us, rfl, h, RpG.k.mpr t⟩
theorem RpG.t : ∀ {ds : List (List Key × D)} {vs : List (List Key × V)}, RpT B G H ds vs ↔ RpG B G H ds vs
  | [], vs => by
    unfold RpT
    exact ⟨fun e => by rw [e]; exact .nil, fun h => by cases h; rfl⟩
  | (k, d) :: ds, vs => by
    unfold RpT
    constructor
    · rintro ⟨v, r, rfl, h, q⟩
      exact .cons ⟨rfl, h⟩ (RpG.t.mp q)
    · intro h
      cases h with
      | @cons _ q _ us h t =>
        obtain ⟨k', v⟩ := q
        obtain ⟨e, h⟩ := h
        cases e
        exact ⟨v, us, rfl, h, RpG.t.mpr t⟩
theorem RpG.f : ∀ {ds : List (Str × D)} {vs : List (Str × V)}, RpF B G H ds vs ↔ RpG B G H ds vs
  | [], vs => by
    unfold RpF
    exact ⟨fun e => by rw [e]; exact .nil, fun h => by cases h; rfl⟩
  | (k, d) :: ds, vs => by
    unfold RpF
    constructor
    · rintro ⟨v, r, rfl, h, q⟩
      exact .cons ⟨rfl, h⟩ (RpG.f.mp q)
    · intro h
      cases h with
      | @cons _ q _ us h t =>
        obtain ⟨k', v⟩ := q
        obtain ⟨e, h⟩ := h
        cases e
        exact ⟨v, us, rfl, h, RpG.f.mpr t⟩
theorem RpG.length {ds : List (κ × D)} {vs : List (κ × V)} (h : RpG B G H ds vs) : vs.length = ds.length := (Paired.length h).symm
theorem RpG.some {ds : List (κ × D)} {vs : List (κ × V)} (h : RpG B G H ds vs) {k : κ} {d : D} (e : getK ds k = Option.some d) : ∃ v, valV vs k = Option.some v ∧ Rp B G H d v := by
  unfold RpG at h
  induction h with
  | nil => exact nomatch e
  | @cons p q ps qs h t ih =>
    unfold getK at e
    rw [List.find?_cons] at e
    by_cases z : p.1 = k
    · rw [decide_eq_true z] at e
      simp at e
      exact ⟨q.2, valV_pos (h.1.symm.trans z), e ▸ h.2⟩
    · rw [decide_eq_false z] at e
      obtain ⟨v, h1, h2⟩ := ih e
      exact ⟨v, (valV_neg fun y => z (h.1.trans y)).trans h1, h2⟩
theorem RpG.none {ds : List (κ × D)} {vs : List (κ × V)} (h : RpG B G H ds vs) {k : κ} (e : getK ds k = Option.none) : valV vs k = Option.none := by
  unfold RpG at h
  induction h with
  | nil => rfl
  | @cons p q ps qs h t ih =>
    unfold getK at e
    rw [List.find?_cons] at e
    by_cases z : p.1 = k
    · rw [decide_eq_true z] at e
      simp at e
    · rw [decide_eq_false z] at e
      exact (valV_neg fun y => z (h.1.trans y)).trans (ih e)
theorem RpG.opt {ds : List (κ × D)} {vs : List (κ × V)} (h : RpG B G H ds vs) (k : κ) : (valV vs k).isSome = (getK ds k).isSome := by
  cases e : getK ds k with
  | none => rw [h.none e]; rfl
  | some d =>
    obtain ⟨v, h1, _⟩ := h.some e
    rw [h1]; rfl
theorem RpG.any {ds : List (κ × D)} {vs : List (κ × V)} (h : RpG B G H ds vs) (k : κ) : (vs.any fun kv => decide (kv.1 = k)) = ds.any fun kv => decide (kv.1 = k) := by
  unfold RpG at h
  induction h with
  | nil => rfl
  | @cons p q ps qs h t ih => rw [List.any_cons, List.any_cons, ih, h.1]
theorem RpG.repl {ds : List (κ × D)} {vs : List (κ × V)} (h : RpG B G H ds vs) (k : κ) {d : D} {v : V} (r : Rp B G H d v) :
    RpG B G H (ds.map fun kv => if kv.1 = k then (kv.1, d) else kv) (vs.map fun kv => if kv.1 = k then (kv.1, v) else kv) := by
  unfold RpG at h ⊢
  induction h with
  | nil => exact .nil
  | @cons p q ps qs h t ih =>
    rw [List.map_cons, List.map_cons]
    refine .cons ?_ ih
    by_cases z : p.1 = k
    · rw [if_pos z, if_pos (h.1.symm.trans z)]; exact ⟨h.1, r⟩
    · rw [if_neg z, if_neg fun y => z (h.1.trans y)]; exact h
theorem RpG.snoc {ds : List (κ × D)} {vs : List (κ × V)} (h : RpG B G H ds vs) (k : κ) {d : D} {v : V} (r : Rp B G H d v) : RpG B G H (ds ++ [(k, d)]) (vs ++ [(k, v)]) := by
  unfold RpG at h ⊢
  induction h with
  | nil => exact .cons ⟨rfl, r⟩ .nil
  | cons h t ih => exact .cons h ih
theorem RpG.put {ds : List (κ × D)} {vs : List (κ × V)} (h : RpG B G H ds vs) (k : κ) {d : D} {v : V} (r : Rp B G H d v) : RpG B G H (putD ds k d) (putK vs k v) := by
  unfold putD putK
  rw [h.any k]
  by_cases e : (ds.any fun kv => decide (kv.1 = k)) = true
  · rw [if_pos e, if_pos e]; exact h.repl k r
  · rw [if_neg e, if_neg e]; exact h.snoc k r
theorem RpG.drop {ds : List (κ × D)} {vs : List (κ × V)} (h : RpG B G H ds vs) (k : κ) : RpG B G H (dropD ds k) (dropK vs k) := by
  unfold RpG at h ⊢
  unfold dropD dropK
  induction h with
  | nil => exact .nil
  | @cons p q ps qs h t ih =>
    rw [List.filter_cons, List.filter_cons]
    have e : decide (q.1 ≠ k) = decide (p.1 ≠ k) := by rw [h.1]
    rw [e]
    cases decide (p.1 ≠ k) with
    | true => exact .cons h ih
    | false => exact ih
theorem RpG.mono {G' : GH} {H' : Hp} {ds : List (κ × D)} {vs : List (κ × V)} (h : RpG B G H ds vs) (w : Wd B G H) (s : Stp G H G' H') : RpG B G' H' ds vs := by
  unfold RpG at h ⊢
  induction h with
  | nil => exact .nil
  | cons h t ih => exact .cons ⟨h.1, h.2.step w s⟩ ih
/-- laws of look-ups -/
theorem getK_nil {k : κ} : getK ([] : List (κ × D)) k = Option.none := rfl
theorem getK_cons {p : κ × D} {r : List (κ × D)} {k : κ} : getK (p :: r) k = if p.1 = k then Option.some p.2 else getK r k := by
  unfold getK
  rw [List.find?_cons]
  by_cases z : p.1 = k
  · rw [decide_eq_true z, if_pos z]; rfl
  · rw [decide_eq_false z, if_neg z]
theorem getK_any (k : κ) : ∀ kvs : List (κ × D), (kvs.any fun kv => decide (kv.1 = k)) = (getK kvs k).isSome
  | [] => rfl
  | p :: r => by
    rw [List.any_cons, getK_cons, getK_any k r]
    by_cases z : p.1 = k
    · rw [decide_eq_true z, if_pos z]; rfl
    · rw [decide_eq_false z, if_neg z]; rfl
theorem getK_map (k j : κ) (y : D) : ∀ kvs : List (κ × D), getK (kvs.map fun kv => if kv.1 = k then (kv.1, y) else kv) j = (getK kvs j).map fun x => if j = k then y else x
  | [] => rfl
  | p :: r => by
    rw [List.map_cons, getK_cons, getK_cons, getK_map k j y r]
    by_cases z : p.1 = k
    · rw [if_pos z]
      by_cases q : p.1 = j
      · rw [if_pos q, if_pos q, Option.map_some, if_pos (q.symm.trans z)]
      · rw [if_neg q, if_neg q]
    · rw [if_neg z]
      by_cases q : p.1 = j
      · rw [if_pos q, if_pos q, Option.map_some, if_neg fun e => z (q.trans e)]
      · rw [if_neg q, if_neg q]
theorem getK_snoc (k j : κ) (y : D) : ∀ kvs : List (κ × D), getK (kvs ++ [(k, y)]) j = (getK kvs j).or (if k = j then Option.some y else Option.none)
  | [] => by rw [List.nil_append, getK_cons]; simp [getK_nil]
  | p :: r => by
    rw [List.cons_append, getK_cons, getK_cons, getK_snoc k j y r]
    by_cases q : p.1 = j
    · rw [if_pos q, if_pos q]; simp
    · rw [if_neg q, if_neg q]
theorem getK_put (kvs : List (κ × D)) (k j : κ) (y : D) : getK (putD kvs k y) j = if j = k then Option.some y else getK kvs j := by
  unfold putD
  by_cases a : (kvs.any fun kv => decide (kv.1 = k)) = true
  · rw [if_pos a, getK_map]
    rw [getK_any] at a
    by_cases e : j = k
    · subst e
      rw [if_pos rfl]
      cases q : getK kvs j with
      | none => rw [q] at a; simp at a
      | some v => simp
    · rw [if_neg e]
      cases getK kvs j <;> simp [e]
  · rw [if_neg a, getK_snoc]
    rw [getK_any] at a
    by_cases e : j = k
    · subst e
      rw [if_pos rfl]
      cases q : getK kvs j with
      | none => simp
      | some v => rw [q] at a; simp at a
    · rw [if_neg e]
      cases getK kvs j with
      | none => simp [Ne.symm e]
      | some v => simp
theorem putD_new {kvs : List (κ × D)} {k : κ} (v : D) (h : getK kvs k = Option.none) : putD kvs k v = kvs ++ [(k, v)] := by
  unfold putD
  rw [getK_any, h]
  exact if_neg (by decide)
theorem length_putD (kvs : List (κ × D)) (k : κ) (v : D) : (putD kvs k v).length ≤ kvs.length + 1 := by
  unfold putD
  split
  · simp
  · simp
end

/-! ### what a value is read as -/
def vL (G : GH) : D → Option (List D)
  | .lst xs => some xs
  | .ref p => (match G p with
    | some (.lst xs) => some xs
    | _ => none)
  | _ => none
def vK (G : GH) : D → Option (List (Key × D))
  | .dK xs => some xs
  | .ref p => (match G p with
    | some (.dK xs) | some (.dKl xs) => some xs
    | _ => none)
  | _ => none
def vT (G : GH) : D → Option (List (List Key × D))
  | .dT xs => some xs
  | .ref p => (match G p with
    | some (.dT xs) | some (.dTl xs) => some xs
    | _ => none)
  | _ => none
def vI (G : GH) : D → Option (Addr × List (Str × D))
  | .ins C xs => some (C, xs)
  | .ref p => (match G p with
    | some (.ins C xs) => some (C, xs)
    | _ => none)
  | _ => none
def vS (G : GH) : D → Option (List Key)
  | .sK xs => some xs
  | .ref p => (match G p with
    | some (.sK xs) => some xs
    | _ => none)
  | _ => none
/-- a list or a tuple, to be read -/
def vQ (G : GH) : D → Option (List D)
  | .lst xs | .tup xs | .scr xs | .kt xs => some xs
  | .ref p => (match G p with
    | some (.lst xs) => some xs
    | _ => none)
  | _ => none
section
variable {B : Bd} {G : GH} {H : Hp} {d : D} {v : V}
theorem vL_ok (w : Wd B G H) (r : Rp B G H d v) {xs : List D} (e : vL G d = some xs) : ∃ a vs, v = .ref a ∧ H a = some (.lst vs) ∧ RpL B G H xs vs := by
  cases d with
  | lst ys =>
    cases e
    unfold Rp at r
    obtain ⟨a, vs, e, f, q⟩ := r
    exact ⟨a, vs, e, f.1, q⟩
  | ref p =>
    unfold vL at e
    dsimp only at e
    have := r.ref_inv
    cases g : G p with
    | none => rw [g] at e; cases e
    | some c =>
      rw [g] at e
      cases c with
      | lst ys =>
        cases e
        obtain ⟨vs, h1, h2⟩ := w.cl p _ g
        exact ⟨p, vs, this, h1, h2⟩
      | _ => cases e
  | _ => cases e
theorem vK_ok (w : Wd B G H) (r : Rp B G H d v) {xs : List (Key × D)} (e : vK G d = some xs) : ∃ a vs, v = .ref a ∧ Rd H a (.dK vs) ∧ RpG B G H xs vs := by
  cases d with
  | dK ys =>
    cases e
    unfold Rp at r
    obtain ⟨a, o, vs, e, f, q⟩ := r
    exact ⟨a, vs, e, .inr ⟨o, f.1⟩, RpG.k.mp q⟩
  | ref p =>
    unfold vK at e
    dsimp only at e
    have := r.ref_inv
    cases g : G p with
    | none => rw [g] at e; cases e
    | some c =>
      rw [g] at e
      cases c with
      | dK ys =>
        cases e
        obtain ⟨vs, h1, h2⟩ := w.cl p _ g
        exact ⟨p, vs, this, .inl h1, RpG.k.mp h2⟩
      | dKl ys =>
        cases e
        obtain ⟨o, vs, h1, h2⟩ := w.cl p _ g
        exact ⟨p, vs, this, .inr ⟨o, h1⟩, RpG.k.mp h2⟩
      | _ => cases e
  | _ => cases e
theorem vT_ok (w : Wd B G H) (r : Rp B G H d v) {xs : List (List Key × D)} (e : vT G d = some xs) : ∃ a vs, v = .ref a ∧ Rd H a (.dT vs) ∧ RpG B G H xs vs := by
  cases d with
  | dT ys =>
    cases e
    unfold Rp at r
    obtain ⟨a, o, vs, e, f, q⟩ := r
    exact ⟨a, vs, e, .inr ⟨o, f.1⟩, RpG.t.mp q⟩
  | ref p =>
    unfold vT at e
    dsimp only at e
    have := r.ref_inv
    cases g : G p with
    | none => rw [g] at e; cases e
    | some c =>
      rw [g] at e
      cases c with
      | dT ys =>
        cases e
        obtain ⟨vs, h1, h2⟩ := w.cl p _ g
        exact ⟨p, vs, this, .inl h1, RpG.t.mp h2⟩
      | dTl ys =>
        cases e
        obtain ⟨o, vs, h1, h2⟩ := w.cl p _ g
        exact ⟨p, vs, this, .inr ⟨o, h1⟩, RpG.t.mp h2⟩
      | _ => cases e
  | _ => cases e
theorem vI_ok (w : Wd B G H) (r : Rp B G H d v) {C : Addr} {xs : List (Str × D)} (e : vI G d = some (C, xs)) : ∃ a dx vs, v = .ref a ∧ H a = some (.ins C dx vs) ∧ RpG B G H xs vs := by
  cases d with
  | ins C' ys =>
    cases e
    unfold Rp at r
    obtain ⟨a, dx, vs, e, f, q⟩ := r
    exact ⟨a, dx, vs, e, f.1, RpG.f.mp q⟩
  | ref p =>
    unfold vI at e
    dsimp only at e
    have := r.ref_inv
    cases g : G p with
    | none => rw [g] at e; cases e
    | some c =>
      rw [g] at e
      cases c with
      | ins C' ys =>
        cases e
        obtain ⟨dx, vs, h1, h2⟩ := w.cl p _ g
        exact ⟨p, dx, vs, this, h1, RpG.f.mp h2⟩
      | _ => cases e
  | _ => cases e
theorem vS_ok (w : Wd B G H) (r : Rp B G H d v) {xs : List Key} (e : vS G d = some xs) : ∃ a, v = .ref a ∧ H a = some (SetK B.P B.w a (inK xs) xs.length) := by
  cases d with
  | sK ys =>
    cases e
    unfold Rp at r
    obtain ⟨a, e, f, q⟩ := r
    exact ⟨a, e, f⟩
  | ref p =>
    unfold vS at e
    dsimp only at e
    have := r.ref_inv
    cases g : G p with
    | none => rw [g] at e; cases e
    | some c =>
      rw [g] at e
      cases c with
      | sK ys =>
        cases e
        exact ⟨p, this, w.cl p _ g⟩
      | _ => cases e
  | _ => cases e
theorem vQ_ok (w : Wd B G H) (r : Rp B G H d v) {xs : List D} (e : vQ G d = some xs) : ∃ a vs, v = .ref a ∧ (SqL B.K H a vs ∨ SqT B.K H a vs) ∧ RpL B G H xs vs := by
  cases d with
  | lst ys =>
    cases e
    unfold Rp at r
    obtain ⟨a, vs, e, f, q⟩ := r
    exact ⟨a, vs, e, .inl (SqL.of f.1), q⟩
  | tup ys =>
    cases e
    unfold Rp at r
    obtain ⟨a, vs, e, f, q⟩ := r
    exact ⟨a, vs, e, .inr (SqT.of f), q⟩
  | kt ys =>
    cases e
    unfold Rp at r
    obtain ⟨a, vs, e, f, q⟩ := r
    exact ⟨a, vs, e, .inr (.inr f), q⟩
  | scr ys =>
    cases e
    unfold Rp at r
    obtain ⟨a, vs, e, f, q⟩ := r
    exact ⟨a, vs, e, .inl f.sq, q⟩
  | ref p =>
    unfold vQ at e
    dsimp only at e
    have := r.ref_inv
    cases g : G p with
    | none => rw [g] at e; cases e
    | some c =>
      rw [g] at e
      cases c with
      | lst ys =>
        cases e
        obtain ⟨vs, h1, h2⟩ := w.cl p _ g
        exact ⟨p, vs, this, .inl (SqL.of h1), h2⟩
      | _ => cases e
  | _ => cases e
end

/-! ### arithmetic -/
def rAddT : R2T := fun x y G Q _ => match x, y with
  | .int i, .int j => Q (.int (i + j)) G
  | .str a, .str b => a.length + b.length ≤ sizeLine ∧ Q (.str (a ++ b)) G
  | .tup xs, .tup ys => xs.length + ys.length ≤ sizeLine ∧ Q (.tup (xs ++ ys)) G
  | x, y => match vL G x, vL G y with
    | some xs, some ys => xs.length + ys.length ≤ sizeLine ∧ Q (.lst (xs ++ ys)) G
    | _, _ => False
def rAddV (K : PySem.W.Frag) : R2 := fun x y H Q => rI0 (fun i j => .int (i + j)) x y H Q ∨ ((∃ i j, x = .str i ∧ y = .str j ∧ i.length + j.length ≤ sizeLine ∧ Q (.str (i ++ j)) H) ∨ (rCatA K x y H Q ∨ rCat x y H Q))
theorem op_addV {X : Cx} : OpR X (binaryOp .Add) (rAddV X.K) := .or op_add (.or op_add_str (.or op_catA op_cat))
end TL
end
section
/-! TL3b: the simulations of operators. -/
namespace TL
open PySem PySem.Spec L2
section
variable {B : Bd} {W : WX} {σ : L2.St} {H : Hp} {Q : VK} {τ : Sl} {G : GH} {QT' : KD} {ET : KX}
theorem Pt.val (p : Pt B W σ H Q τ G QT' ET) {d : D} {v : V} (r : Rp B G H d v) (q : QT' d G) : Q v H := p.ok v d G H r p.wd Stp.refl q
theorem Pt.int (p : Pt B W σ H Q τ G QT' ET) {i : Int} (q : QT' (.int i) G) : Q (.int i) H := p.val rp_int q
theorem Pt.bl (p : Pt B W σ H Q τ G QT' ET) {i : Bool} (q : QT' (.bl i) G) : Q (.bl i) H := p.val rp_bl q
theorem Pt.str (p : Pt B W σ H Q τ G QT' ET) {i : Str} (q : QT' (.str i) G) : Q (.str i) H := p.val rp_str q
theorem Pt.non (p : Pt B W σ H Q τ G QT' ET) (q : QT' .non G) : Q .non H := p.val rp_non q
theorem Pt.tupN (P : Pt B W σ H Q τ G QT' ET) {p : Addr} {xs : List D} {vs : List V} (hp : H p = none) (r : RpL B G H xs vs) (q : QT' (.tup xs) G) : Q (.ref p) (upd H p (.tup vs)) :=
  P.ok _ _ G _ (rp_tupN P.wd hp r) (P.wd.fresh hp) (Stp.fresh hp) q
theorem rp_tup {p : Addr} {xs : List D} {vs : List V} (h : H p = some (.tup vs)) (r : RpL B G H xs vs) : Rp B G H (.tup xs) (.ref p) := by
  unfold Rp; exact ⟨p, vs, rfl, h, r⟩
theorem Rp.tup_inv {xs : List D} {v : V} (h : Rp B G H (.tup xs) v) : ∃ a vs, v = .ref a ∧ H a = some (.tup vs) ∧ RpL B G H xs vs := by unfold Rp at h; exact h
theorem Rp.kt_inv {xs : List D} {v : V} (h : Rp B G H (.kt xs) v) : ∃ a vs, v = .ref a ∧ KT B a vs ∧ RpL B G H xs vs := by unfold Rp at h; exact h
theorem Rp.lst_inv {xs : List D} {v : V} (h : Rp B G H (.lst xs) v) : ∃ a vs, v = .ref a ∧ (H a = some (.lst vs) ∧ Of B G a) ∧ RpL B G H xs vs := by unfold Rp at h; exact h
theorem RpL.nil_inv {vs : List V} (h : RpL B G H [] vs) : vs = [] := by unfold RpL at h; exact h
theorem RpL.nil_of {xs : List D} (h : RpL B G H xs []) : xs = [] := by
  have := h.length
  cases xs with
  | nil => rfl
  | cons a r => simp at this
end

theorem sim_add {B : Bd} : Sim2 B rAddT (rAddV B.K) := by
  intro F W σ H Q τ G QT' ET x y v u p rx ry h
  unfold rAddT at h
  split at h
  · exact .inl ⟨_, _, rx.int_inv, ry.int_inv, p.int h⟩
  · exact .inr (.inl ⟨_, _, rx.str_inv, ry.str_inv, h.1, p.str h.2⟩)
  · obtain ⟨a, vs, rfl, ha, ra⟩ := rx.tup_inv
    obtain ⟨b, us, rfl, hb, rb⟩ := ry.tup_inv
    refine .inr (.inr (.inl ⟨a, b, vs, us, rfl, rfl, SqT.of ha, SqT.of hb, by rw [ra.length, rb.length]; exact h.1, fun e => ?_, fun _ e => ?_, fun _ _ t ht => p.tupN ht (ra.append rb) h.2⟩))
    · subst e
      have := ra.nil_of
      subst this
      exact p.val (rp_tup hb rb) h.2
    · subst e
      have := rb.nil_of
      subst this
      exact p.val (rp_tup ha ra) (by simpa using h.2)
  · split at h
    · rename_i xs ys e1 e2
      obtain ⟨a, vs, rfl, ha, ra⟩ := vL_ok p.wd rx e1
      obtain ⟨b, us, rfl, hb, rb⟩ := vL_ok p.wd ry e2
      exact .inr (.inr (.inr ⟨a, b, vs, us, rfl, rfl, ha, hb, by rw [ra.length, rb.length]; exact h.1, fun t ht => p.lstN ht (ra.append rb) h.2⟩))
    · exact h.elim
/-- ints alone -/
def rInt (f : Int → Int → D) (C : Int → Int → Prop) : R2T := fun x y G Q _ => match x, y with
  | .int i, .int j => C i j ∧ Q (f i j) G
  | _, _ => False
theorem sim_int {B : Bd} {f : Int → Int → Int} {C C' : Int → Int → Prop} (hc : ∀ i j, C i j → C' i j) : Sim2 B (rInt (fun i j => .int (f i j)) C) (rI C' fun i j => .int (f i j)) := by
  intro F W σ H Q τ G QT' ET x y v u p rx ry h
  unfold rInt at h
  split at h
  · exact ⟨_, _, rx.int_inv, ry.int_inv, hc _ _ h.1, p.int h.2⟩
  · exact h.elim
theorem sim_int0 {B : Bd} {f : Int → Int → Int} {C : Int → Int → Prop} : Sim2 B (rInt (fun i j => .int (f i j)) C) (rI0 fun i j => .int (f i j)) := by
  intro F W σ H Q τ G QT' ET x y v u p rx ry h
  unfold rInt at h
  split at h
  · exact ⟨_, _, rx.int_inv, ry.int_inv, p.int h.2⟩
  · exact h.elim
def CT : Int → Int → Prop := fun _ _ => True
def rSubT : R2T := rInt (fun i j => .int (i - j)) CT
def CMulT (i j : Int) : Prop := i.natAbs.log2 + j.natAbs.log2 < 1000000
def CDivT (i j : Int) : Prop := 0 < j ∧ j.natAbs.log2 < 9000
def rDivT : R2T := rInt (fun i j => .int (i / j)) CDivT
def rModT : R2T := rInt (fun i j => .int (i % j)) fun _ j => 0 < j
def rPowT : R2T := rInt (fun i j => .int (i ^ j.toNat)) fun i j => 0 ≤ j ∧ j ≤ 1000000 ∧ i.natAbs < 2 ^ 64
theorem sim_sub {B : Bd} : Sim2 B rSubT (rI0 fun i j => .int (i - j)) := sim_int0
theorem sim_div {B : Bd} : Sim2 B rDivT (rI CDivW fun i j => .int (i / j)) := sim_int fun _ _ h => h
theorem sim_mod {B : Bd} : Sim2 B rModT (rI (fun _ j => 0 < j) fun i j => .int (i % j)) := sim_int fun _ _ h => h
theorem sim_pow {B : Bd} : Sim2 B rPowT (rI CPow fun i j => .int (i ^ j.toNat)) := sim_int fun _ _ h => h
/-- ints; a list times an int -/
def rMulT : R2T := fun x y G Q _ => match x, y with
  | .int i, .int j => CMulT i j ∧ Q (.int (i * j)) G
  | .lst xs, .int k => -(2 ^ 63) ≤ k ∧ k < 2 ^ 63 ∧ xs.length * k.toNat ≤ sizeLine ∧ Q (.lst (List.replicate k.toNat xs).flatten) G
  | _, _ => False
theorem RpL.rep {B : Bd} {G : GH} {H : Hp} {xs : List D} {vs : List V} (r : RpL B G H xs vs) : ∀ k : Nat, RpL B G H (List.replicate k xs).flatten (List.replicate k vs).flatten
  | 0 => RpL.nil
  | k + 1 => by
    rw [List.replicate_succ, List.replicate_succ, List.flatten_cons, List.flatten_cons]
    exact r.append (RpL.rep r k)
theorem sim_mul {B : Bd} : Sim2 B rMulT (fun x y H Q => rI CMulW (fun i j => .int (i * j)) x y H Q ∨ rRep x y H Q) := by
  intro F W σ H Q τ G QT' ET x y v u p rx ry h
  unfold rMulT at h
  split at h
  · exact .inl ⟨_, _, rx.int_inv, ry.int_inv, h.1, p.int h.2⟩
  · obtain ⟨a, vs, rfl, ha, ra⟩ := rx.lst_inv
    exact .inr ⟨a, _, vs, rfl, ry.int_inv, ha.1, h.1, h.2.1, by rw [ra.length]; exact h.2.2.1, fun t ht => p.lstN ht (ra.rep _) h.2.2.2⟩
  · exact h.elim
theorem op_mulV {X : Cx} : OpR X (binaryOp .Mult) (fun x y H Q => rI CMulW (fun i j => .int (i * j)) x y H Q ∨ rRep x y H Q) := .or op_mulW op_rep
def rNegT : R1T := fun x G Q _ => match x with
  | .int i => Q (.int (-i)) G
  | _ => False
theorem sim_neg {B : Bd} : Sim1 B rNegT (rU fun i => .int (-i)) := by
  intro F W σ H Q τ G QT' ET x v p rx h
  unfold rNegT at h
  split at h
  · exact ⟨_, rx.int_inv, p.int h⟩
  · exact h.elim
section
variable {X : Cx} {W : WX} {pos : Pos} {a b : Expr} {ta tb : E1}
def eAdd (ta tb : E1) : E1 := eOp rAddT ta tb
def eSub (ta tb : E1) : E1 := eOp rSubT ta tb
def eMul (ta tb : E1) : E1 := eOp rMulT ta tb
def eDiv (ta tb : E1) : E1 := eOp rDivT ta tb
def eMod (ta tb : E1) : E1 := eOp rModT ta tb
def ePow (ta tb : E1) : E1 := eOp rPowT ta tb
def eNeg (ta : E1) : E1 := eUn rNegT ta
theorem qe_add (ha : QE X W a ta) (hb : QE X W b tb) : QE X W (.BinOp a .Add b pos) (eAdd ta tb) := qe_op sim_add op_addV ha hb
theorem qe_sub (ha : QE X W a ta) (hb : QE X W b tb) : QE X W (.BinOp a .Sub b pos) (eSub ta tb) := qe_op sim_sub op_sub ha hb
theorem qe_mul (ha : QE X W a ta) (hb : QE X W b tb) : QE X W (.BinOp a .Mult b pos) (eMul ta tb) := qe_op sim_mul op_mulV ha hb
theorem qe_div (ha : QE X W a ta) (hb : QE X W b tb) : QE X W (.BinOp a .FloorDiv b pos) (eDiv ta tb) := qe_op sim_div op_fdivW ha hb
theorem qe_mod (ha : QE X W a ta) (hb : QE X W b tb) : QE X W (.BinOp a .Mod b pos) (eMod ta tb) := qe_op sim_mod op_mod ha hb
theorem qe_pow (ha : QE X W a ta) (hb : QE X W b tb) : QE X W (.BinOp a .Pow b pos) (ePow ta tb) := qe_op sim_pow op_pow ha hb
theorem qe_neg (ha : QE X W a ta) : QE X W (.UnaryOp .USub a pos) (eNeg ta) := qe_un sim_neg un_neg ha
end

/-! ### order of ints and texts -/
def rCmpT (f : Int → Int → Bool) (g : Str → Str → Bool) : R2T := fun x y G Q _ => match x, y with
  | .int i, .int j => Q (.bl (f i j)) G
  | .str i, .str j => Q (.bl (g i j)) G
  | _, _ => False
def rCmpV (f : Int → Int → Bool) (g : Str → Str → Bool) : R2 := fun x y H Q => rI0 (fun i j => .bl (f i j)) x y H Q ∨ (∃ i j, x = .str i ∧ y = .str j ∧ Q (.bl (g i j)) H)
theorem sim_cmp {B : Bd} {f : Int → Int → Bool} {g : Str → Str → Bool} : Sim2 B (rCmpT f g) (rCmpV f g) := by
  intro F W σ H Q τ G QT' ET x y v u p rx ry h
  unfold rCmpT at h
  split at h
  · exact .inl ⟨_, _, rx.int_inv, ry.int_inv, p.bl h⟩
  · exact .inr ⟨_, _, rx.str_inv, ry.str_inv, p.bl h⟩
  · exact h.elim
def strLt (i j : Str) : Bool := decide (i.cps.toList < j.cps.toList)
def strLe (i j : Str) : Bool := !decide (j.cps.toList < i.cps.toList)
abbrev rLtT : R2T := rCmpT (fun i j => decide (i < j)) strLt
abbrev rLeT : R2T := rCmpT (fun i j => decide (i ≤ j)) strLe
abbrev rGtT : R2T := rCmpT (fun i j => decide (j < i)) fun i j => strLt j i
abbrev rGeT : R2T := rCmpT (fun i j => decide (j ≤ i)) fun i j => strLe j i
theorem op_ltV {X : Cx} : OpR X (compareOp .Lt) (rCmpV (fun i j => decide (i < j)) strLt) := .or op_lt op_lt_str
end TL
end
section
/-! TL3c: comparisons, equality of data, membership. -/
namespace TL
open PySem PySem.Spec L2

theorem op_leV {X : Cx} : OpR X (compareOp .LtE) (rCmpV (fun i j => decide (i ≤ j)) strLe) := .or op_le op_le_str
theorem op_gtV {X : Cx} : OpR X (compareOp .Gt) (rCmpV (fun i j => decide (j < i)) fun i j => strLt j i) := .or op_gt op_gt_str
theorem op_geV {X : Cx} : OpR X (compareOp .GtE) (rCmpV (fun i j => decide (j ≤ i)) fun i j => strLe j i) := .or op_ge op_ge_str

/-! ### data -/
def kPy : Key → PyData
  | .inl i => .int i
  | .inr x => .str x
mutual
def toPy : D → PyData
  | .non => .none
  | .bl b => .bool b
  | .int i => .int i
  | .str x => .str x
  | .lst xs => .list (toPyL xs)
  | .tup xs => .tuple (toPyL xs)
  | .dK kvs => .dict (toPyK kvs)
  | .dT kvs => .dict (toPyT kvs)
  | .kt xs => .tuple (toPyL xs)
  | .ty _ | .ref _ | .ins _ _ | .scr _ | .sK _ | .exc _ _ _ _ | .any _ _ => .none
def toPyL : List D → List PyData
  | [] => []
  | d :: r => toPy d :: toPyL r
def toPyK : List (Key × D) → List (PyData × PyData)
  | [] => []
  | (k, d) :: r => (kPy k, toPy d) :: toPyK r
def toPyT : List (List Key × D) → List (PyData × PyData)
  | [] => []
  | (k, d) :: r => (.tuple (k.map kPy), toPy d) :: toPyT r
end
theorem toPyL_map : ∀ xs : List D, toPyL xs = xs.map toPy
  | [] => rfl
  | d :: r => by rw [toPyL, toPyL_map r]; rfl
mutual
/-- data without dicts, nested at most n deep -/
def Pl : D → Nat → Prop
  | .non, _ | .bl _, _ | .int _, _ => True
  | .str x, _ => PyData.strOk x = true
  | .lst xs, n | .tup xs, n | .kt xs, n => match n with
    | 0 => False
    | m + 1 => PlL xs m
  | .dK _, _ | .dT _, _ | .ty _, _ | .ref _, _ | .ins _ _, _ | .scr _, _ | .sK _, _ | .exc _ _ _ _, _ | .any _ _, _ => False
def PlL : List D → Nat → Prop
  | [], _ => True
  | d :: r, n => Pl d n ∧ PlL r n
end
theorem plL_iff {n : Nat} : ∀ {xs : List D}, PlL xs n ↔ ∀ x ∈ xs, Pl x n
  | [] => by simp [PlL]
  | d :: r => by
    rw [PlL, plL_iff (xs := r)]
    simp
mutual
theorem pl_mono {n m : Nat} (h : n ≤ m) : ∀ {d : D}, Pl d n → Pl d m
  | .non, _ | .bl _, _ | .int _, _ => by simp [Pl]
  | .str x, p => by
    simp only [Pl] at p ⊢
    exact p
  | .lst xs, p => by
    cases n with
    | zero => simp [Pl] at p
    | succ n =>
      cases m with
      | zero => omega
      | succ m =>
        simp only [Pl] at p ⊢
        exact plL_mono (by omega) p
  | .tup xs, p => by
    cases n with
    | zero => simp [Pl] at p
    | succ n =>
      cases m with
      | zero => omega
      | succ m =>
        simp only [Pl] at p ⊢
        exact plL_mono (by omega) p
  | .kt xs, p => by
    cases n with
    | zero => simp [Pl] at p
    | succ n =>
      cases m with
      | zero => omega
      | succ m =>
        simp only [Pl] at p ⊢
        exact plL_mono (by omega) p
  | .dK _, p | .dT _, p | .ty _, p | .ref _, p | .ins _ _, p | .scr _, p | .sK _, p | .exc _ _ _ _, p | .any _ _, p => by simp [Pl] at p
theorem plL_mono {n m : Nat} (h : n ≤ m) : ∀ {ds : List D}, PlL ds n → PlL ds m
  | [], _ => by simp [PlL]
  | d :: r, p => by
    simp only [PlL] at p ⊢
    exact ⟨pl_mono h p.1, plL_mono h p.2⟩
end
mutual
theorem pl_lay {n : Nat} : ∀ {d : D}, Pl d n → (toPy d).canLay0 = true ∧ (toPy d).depth ≤ n
  | .non, _ | .bl _, _ | .int _, _ => by simp [toPy, PyData.canLay0, PyData.depth]
  | .str x, p => by
    simp only [Pl] at p
    simp [toPy, PyData.canLay0, PyData.depth, p]
  | .lst xs, p => by
    cases n with
    | zero => simp [Pl] at p
    | succ n =>
      simp only [Pl] at p
      have := plL_lay p
      simp only [toPy, PyData.canLay0, PyData.depth]
      exact ⟨this.1, by omega⟩
  | .tup xs, p => by
    cases n with
    | zero => simp [Pl] at p
    | succ n =>
      simp only [Pl] at p
      have := plL_lay p
      simp only [toPy, PyData.canLay0, PyData.depth]
      exact ⟨this.1, by omega⟩
  | .kt xs, p => by
    cases n with
    | zero => simp [Pl] at p
    | succ n =>
      simp only [Pl] at p
      have := plL_lay p
      simp only [toPy, PyData.canLay0, PyData.depth]
      exact ⟨this.1, by omega⟩
  | .dK _, p | .dT _, p | .ty _, p | .ref _, p | .ins _ _, p | .scr _, p | .sK _, p | .exc _ _ _ _, p | .any _ _, p => by simp [Pl] at p
theorem plL_lay {n : Nat} : ∀ {ds : List D}, PlL ds n → PyData.canLayAll0 (toPyL ds) = true ∧ PyData.depthAll (toPyL ds) ≤ n
  | [], _ => by simp [toPyL, PyData.canLayAll0, PyData.depthAll]
  | d :: r, p => by
    simp only [PlL] at p
    have h1 := pl_lay p.1
    have h2 := plL_lay p.2
    simp only [toPyL, PyData.canLayAll0, PyData.depthAll, h1.1, h2.1, Bool.and_self]
    exact ⟨trivial, by omega⟩
end
theorem pl_shaped {d : D} {n : Nat} (h : Pl d n) (hn : n ≤ 60) : SeqAt.shaped (toPy d) = true := by
  have := pl_lay h
  unfold SeqAt.shaped
  rw [this.1]
  have : decide ((toPy d).depth ≤ 64) = true := decide_eq_true (by omega)
  rw [this]; rfl
section
variable {B : Bd} {G : GH} {H : Hp}
mutual
theorem rp_dp {n : Nat} : ∀ {d : D} {v : V}, Rp B G H d v → Pl d n → Dp B.K H v (toPy d)
  | .non, v, h, _ => by rw [h.non_inv]; exact .non
  | .bl b, v, h, _ => by rw [h.bl_inv]; exact .bl b
  | .int b, v, h, _ => by rw [h.int_inv]; exact .int b
  | .str b, v, h, _ => by rw [h.str_inv]; exact .str b
  | .lst xs, v, h, p => by
    cases n with
    | zero => simp [Pl] at p
    | succ n =>
      simp only [Pl] at p
      obtain ⟨a, vs, rfl, f, r⟩ := h.lst_inv
      exact .lst (SqL.of f.1) (rpL_dp r p)
  | .tup xs, v, h, p => by
    cases n with
    | zero => simp [Pl] at p
    | succ n =>
      simp only [Pl] at p
      obtain ⟨a, vs, rfl, f, r⟩ := h.tup_inv
      exact .tup (SqT.of f) (rpL_dp r p)
  | .kt xs, v, h, p => by
    cases n with
    | zero => simp [Pl] at p
    | succ n =>
      simp only [Pl] at p
      obtain ⟨a, vs, rfl, f, r⟩ := h.kt_inv
      exact .tup (.inr f) (rpL_dp r p)
  | .dK _, _, _, p | .dT _, _, _, p | .ty _, _, _, p | .ref _, _, _, p | .ins _ _, _, _, p | .scr _, _, _, p | .sK _, _, _, p | .exc _ _ _ _, _, _, p | .any _ _, _, _, p => by simp [Pl] at p
theorem rpL_dp {n : Nat} : ∀ {ds : List D} {vs : List V}, RpL B G H ds vs → PlL ds n → DpAll B.K H vs (toPyL ds)
  | [], vs, h, _ => by rw [h.nil_inv]; exact .nil
  | d :: r, vs, h, p => by
    simp only [PlL] at p
    obtain ⟨v, q, rfl, f, g⟩ := h.uncons
    exact .cons (rp_dp f p.1) (rpL_dp g p.2)
end
end
/-- a cell's content as data, one level -/
def vD (G : GH) : D → D
  | .ref p => (match G p with
    | some (.lst xs) => .lst xs
    | some (.dK xs) => .dK xs
    | _ => .ref p)
  | d => d
theorem vD_dp {B : Bd} {G : GH} {H : Hp} {d : D} {v : V} {n : Nat} (w : Wd B G H) (r : Rp B G H d v) (p : Pl (vD G d) n) : Dp B.K H v (toPy (vD G d)) := by
  cases d with
  | ref a =>
    unfold vD at p ⊢
    dsimp only at p ⊢
    cases g : G a with
    | none => rw [g] at p; simp [Pl] at p
    | some c =>
      rw [g] at p
      cases c with
      | lst xs =>
        dsimp only at p ⊢
        obtain ⟨vs, h1, h2⟩ := w.cl a _ g
        cases n with
        | zero => simp [Pl] at p
        | succ n =>
          simp only [Pl] at p
          rw [r.ref_inv]
          exact .lst (SqL.of h1) (rpL_dp h2 p)
      | _ => simp [Pl] at p
  | _ => exact rp_dp r p
abbrev eqD (d e : D) : Bool := PyData.eqv (toPy d) (toPy e)
/-- two dicts by keys of one kind -/
def eqKV (ks ls : List (Key × D)) : Bool := ks.length == ls.length && ks.all fun p => match getK ls p.1 with
  | some e => eqD p.2 e
  | none => false
/-- values of a dict that is compared -/
def PlK (ks : List (Key × D)) (n : Nat) : Prop := ∀ p ∈ ks, Pl p.2 n
def isKD : D → Bool
  | .dK _ => true
  | _ => false
def rEqT (neg : Bool) : R2T := fun x y G Q _ => match vD G x, vD G y with
  | .dK ks, .dK ls => PlK ks 50 ∧ PlK ls 50 ∧ Q (.bl (neg != eqKV ks ls)) G
  | .str s, .str t => Q (.bl (neg != decide (s = t))) G
  | d, e => Pl d 60 ∧ Pl e 60 ∧ Q (.bl (neg != eqD d e)) G

/-- dicts compared, by values -/
inductive HitsD (K : PySem.W.Frag) (H : Hp) (ls : List (Key × V)) : List (Key × V) → Bool → Prop
  | nil : HitsD K H ls [] true
  | miss {k : Key} {v : V} {r : List (Key × V)} : valV ls k = none → HitsD K H ls ((k, v) :: r) false
  | hit {k : Key} {v y : V} {r : List (Key × V)} {d e : PyData} {b : Bool} : valV ls k = some y → Dp K H v d → Dp K H y e → SeqAt.shaped d = true → SeqAt.shaped e = true → HitsD K H ls r b → HitsD K H ls ((k, v) :: r) (PyData.eqv d e && b)
def rEqKV (K : PySem.W.Frag) (neg : Bool) : R2 := fun x y H Q => ∃ a b ks ls r, x = .ref a ∧ y = .ref b ∧ Rd H a (.dK ks) ∧ Rd H b (.dK ls) ∧ (ks.length = ls.length → HitsD K H ls ks r) ∧ Q (.bl (neg != (ks.length == ls.length && r))) H
theorem hits_of {X : Cx} {pins : List (Addr × Obj)} {σ : L2.St} {H : Hp} {s : Shared} {A : Around} (I : Inv X pins σ H s) (hu : A.units + 66 < cLine) {ls : List (Key × V)} {vb : List (Key × Value)} (rb : KV ls vb) :
    ∀ {ks : List (Key × V)} {r : Bool}, HitsD X.K H ls ks r → ∀ {va : List (Key × Value)}, KV ks va → PySem.W.KeqHits A.in1 s vb va r := by
  intro ks r h
  induction h with
  | nil =>
    intro va ra
    cases ra
    exact .nil
  | @miss k v r hm =>
    intro va ra
    cases ra with
    | @cons _ q _ us h t =>
      obtain ⟨k', v'⟩ := q
      obtain ⟨e, _⟩ := h
      cases e
      refine .miss ?_
      have := rb.val k
      rw [hm] at this
      cases e : valueAt vb k with
      | none => rfl
      | some u => rw [e] at this; exact this.elim
  | @hit k v y r d e b hm d1 d2 s1 s2 hr ih =>
    intro va ra
    cases ra with
    | @cons _ q _ us h t =>
      obtain ⟨k', v'⟩ := q
      obtain ⟨e, rv⟩ := h
      cases e
      have := rb.val k
      rw [hm] at this
      cases e : valueAt vb k with
      | none => rw [e] at this; exact this.elim
      | some u =>
        rw [e] at this
        obtain ⟨as, r1⟩ := Dp.reads I _ _ _ d1 rv
        obtain ⟨bs, r2⟩ := Dp.reads I _ _ _ d2 this
        exact .hit e (PySem.W.keq_at r1 r2 s1 s2 (by show A.units + 1 + 64 < cLine; omega)) (ih t)
theorem rd_dictOf {X : Cx} {pins : List (Addr × Obj)} {σ : L2.St} {H : Hp} {s : Shared} (I : Inv X pins σ H s) {a : Addr} {ks : List (Key × V)} (h : Rd H a (.dK ks)) : (a == sysModules) = false ∧ ∃ vs, KV ks vs ∧ s.heap.DictOf (mixKind X.prog X.w) a vs ∧ ks.length ≤ sizeLine := by
  obtain ⟨z, y, vs, r, q⟩ := h.ok I.hok
  exact ⟨y, vs, r, q, z⟩
theorem op_eqKV {X : Cx} (hu : X.A.units + 66 < cLine) : OpR X (compareOp .Eq) (rEqKV X.K false) := by
  intro pins s σ H x y v u Q I rx ry h
  obtain ⟨a, b, ks, ls, r, rfl, rfl, ha, hb, hh, q⟩ := h
  cases rx
  cases ry
  obtain ⟨na, va, ra, da, _⟩ := rd_dictOf I ha
  obtain ⟨nb, vb, rb, db, _⟩ := rd_dictOf I hb
  refine PySem.W.keq_eq na nb da db (by omega) (fun e => hits_of I hu rb (hh (by rw [ra.length, rb.length]; exact e)) ra) ⟨.bl _, H, I, rfl, ?_⟩
  rw [← ra.length, ← rb.length]
  simpa using q
theorem op_neKV {X : Cx} (hu : X.A.units + 66 < cLine) : OpR X (compareOp .NotEq) (rEqKV X.K true) := by
  intro pins s σ H x y v u Q I rx ry h
  obtain ⟨a, b, ks, ls, r, rfl, rfl, ha, hb, hh, q⟩ := h
  cases rx
  cases ry
  obtain ⟨na, va, ra, da, _⟩ := rd_dictOf I ha
  obtain ⟨nb, vb, rb, db, _⟩ := rd_dictOf I hb
  refine PySem.W.keq_ne na nb da db (by omega) (fun e => hits_of I hu rb (hh (by rw [ra.length, rb.length]; exact e)) ra) ⟨.bl _, H, I, rfl, ?_⟩
  rw [← ra.length, ← rb.length]
  simpa using q
theorem hitsD_of {B : Bd} {G : GH} {H : Hp} {ls : List (Key × D)} {us : List (Key × V)} (rl : RpG B G H ls us) (pl : PlK ls 50) : ∀ {ks : List (Key × D)} {vs : List (Key × V)}, RpG B G H ks vs → PlK ks 50 →
    HitsD B.K H us vs (ks.all fun p => match getK ls p.1 with | some e => eqD p.2 e | none => false) := by
  intro ks vs h
  unfold RpG at h
  induction h with
  | nil => intro _; exact .nil
  | @cons p q ps qs h t ih =>
    intro pk
    obtain ⟨k, d⟩ := p
    obtain ⟨k', v⟩ := q
    obtain ⟨e, r⟩ := h
    dsimp only at e r
    subst e
    rw [List.all_cons]
    have ih' := ih fun z hz => pk z (List.mem_cons_of_mem _ hz)
    cases g : getK ls k with
    | none =>
      rw [Bool.false_and]
      exact .miss (rl.none g)
    | some e =>
      obtain ⟨y, h1, h2⟩ := rl.some g
      have me : (k, e) ∈ ls := by
        unfold getK at g
        obtain ⟨z, hz, e2⟩ := Option.map_eq_some_iff.mp g
        have hm := List.mem_of_find?_eq_some hz
        have hk := List.find?_some hz
        have : z.1 = k := by simpa using hk
        obtain ⟨z1, z2⟩ := z
        dsimp only at this e2
        subst this e2
        exact hm
      exact .hit h1 (rp_dp r (pk _ (List.mem_cons_self ..))) (rp_dp h2 (pl _ me)) (pl_shaped (pk _ (List.mem_cons_self ..)) (by omega)) (pl_shaped (pl _ me) (by omega)) ih'
theorem vD_dK {B : Bd} {G : GH} {H : Hp} {d : D} {v : V} {ks : List (Key × D)} (w : Wd B G H) (r : Rp B G H d v) (e : vD G d = .dK ks) : ∃ a vs, v = .ref a ∧ Rd H a (.dK vs) ∧ RpG B G H ks vs := by
  refine vK_ok w r ?_
  cases d with
  | dK ys => unfold vD at e; cases e; rfl
  | ref p =>
    unfold vD at e
    dsimp only at e
    unfold vK
    dsimp only
    cases g : G p with
    | none => rw [g] at e; cases e
    | some c =>
      rw [g] at e
      cases c with
      | dK ys => cases e; rfl
      | lst _ => cases e
      | _ => cases e
  | _ => unfold vD at e; cases e
theorem vD_str {B : Bd} {G : GH} {H : Hp} {d : D} {v : V} {s : Str} (r : Rp B G H d v) (e : vD G d = .str s) : v = .str s := by
  cases d with
  | str x => unfold vD at e; cases e; exact r.str_inv
  | ref p =>
    unfold vD at e
    dsimp only at e
    cases g : G p with
    | none => rw [g] at e; cases e
    | some c =>
      rw [g] at e
      cases c <;> cases e
  | _ => unfold vD at e; cases e
def rEqSV (neg : Bool) : R2 := fun x y H Q => ∃ s t, x = .str s ∧ y = .str t ∧ Q (.bl (neg != decide (s = t))) H
theorem dec_strV {s t : Str} : decide (V.str s = V.str t) = decide (s = t) := by
  rw [Bool.eq_iff_iff]
  simp
theorem sim_eq {B : Bd} (neg : Bool) : Sim2 B (rEqT neg) (fun x y H Q => rEqSV neg x y H Q ∨ rEqKV B.K neg x y H Q ∨ ∃ d e, Dp B.K H x d ∧ Dp B.K H y e ∧ SeqAt.shaped d = true ∧ SeqAt.shaped e = true ∧ Q (.bl (neg != PyData.eqv d e)) H) := by
  intro F W σ H Q τ G QT' ET x y v u p rx ry h
  unfold rEqT at h
  split at h
  · rename_i ks ls e1 e2
    obtain ⟨a, vs, rfl, ha, ra⟩ := vD_dK p.wd rx e1
    obtain ⟨b, us, rfl, hb, rb⟩ := vD_dK p.wd ry e2
    refine .inr (.inl ⟨a, b, vs, us, _, rfl, rfl, ha, hb, fun _ => hitsD_of rb h.2.1 ra h.1, ?_⟩)
    rw [ra.length, rb.length]
    exact p.bl h.2.2
  · rename_i s t e1 e2
    exact .inl ⟨s, t, vD_str rx e1, vD_str ry e2, p.bl h⟩
  · refine .inr (.inr ?_)
    exact ⟨_, _, vD_dp (B := B.hide F) p.wd rx h.1, vD_dp (B := B.hide F) p.wd ry h.2.1, pl_shaped h.1 (by omega), pl_shaped h.2.1 (by omega), p.bl h.2.2⟩
theorem op_eqAll {X : Cx} (hu : X.A.units + 66 < cLine) : OpR X (compareOp .Eq) (fun x y H Q => rEqSV false x y H Q ∨ rEqKV X.K false x y H Q ∨ ∃ d e, Dp X.K H x d ∧ Dp X.K H y e ∧ SeqAt.shaped d = true ∧ SeqAt.shaped e = true ∧ Q (.bl (false != PyData.eqv d e)) H) :=
  .or (fun pins s σ H x y v u Q I rx ry ⟨a, b, h1, h2, h3⟩ => op_eq pins s σ H x y v u Q I rx ry ⟨by rw [h1, h2]; rfl, by rw [h1, h2, dec_strV]; simpa using h3⟩) <| .or (op_eqKV hu) (fun pins s σ H x y v u Q I rx ry ⟨d, e, h1, h2, h3, h4, h5⟩ => op_eqD (by omega) pins s σ H x y v u Q I rx ry ⟨d, e, h1, h2, h3, h4, by simpa using h5⟩)
theorem op_neAll {X : Cx} (hu : X.A.units + 66 < cLine) : OpR X (compareOp .NotEq) (fun x y H Q => rEqSV true x y H Q ∨ rEqKV X.K true x y H Q ∨ ∃ d e, Dp X.K H x d ∧ Dp X.K H y e ∧ SeqAt.shaped d = true ∧ SeqAt.shaped e = true ∧ Q (.bl (true != PyData.eqv d e)) H) :=
  .or (fun pins s σ H x y v u Q I rx ry ⟨a, b, h1, h2, h3⟩ => op_ne pins s σ H x y v u Q I rx ry ⟨by rw [h1, h2]; rfl, by rw [h1, h2, dec_strV]; simpa using h3⟩) <| .or (op_neKV hu) (fun pins s σ H x y v u Q I rx ry ⟨d, e, h1, h2, h3, h4, h5⟩ => op_neD (by omega) pins s σ H x y v u Q I rx ry ⟨d, e, h1, h2, h3, h4, by simpa using h5⟩)
/-- is, is not: None, a bool -/
def rIsT (neg : Bool) : R2T := fun x y G Q _ => match x, y with
  | .bl a, .bl b => Q (.bl (neg != decide (a = b))) G
  | .non, .non => Q (.bl (neg != true)) G
  | .bl _, .non | .int _, .non | .str _, .non | .lst _, .non | .tup _, .non | .dK _, .non | .dT _, .non | .ref _, .non | .ins _ _, .non => Q (.bl (neg != false)) G
  | _, _ => False
theorem rp_ne_non {B : Bd} {G : GH} {H : Hp} {d : D} (h : Rp B G H d .non) : d = .non ∨ ∃ l p, d = .any l p := by
  cases d with
  | non => exact .inl rfl
  | any l p => exact .inr ⟨l, p, rfl⟩
  | exc a c d f => cases d <;> simp [Rp] at h
  | _ => simp [Rp] at h
def rIsV (neg : Bool) : R2 := fun x y H Q => (∃ a b : Bool, x = .bl a ∧ y = .bl b ∧ Q (.bl (neg != decide (a = b))) H) ∨ (y = .non ∧ Q (.bl (neg != decide (x = .non))) H)
theorem sim_is {B : Bd} (neg : Bool) : Sim2 B (rIsT neg) (rIsV neg) := by
  intro F W σ H Q τ G QT' ET x y v u p rx ry h
  unfold rIsT at h
  have key : ∀ {d : D}, Rp (B.hide F) G H d v → (d ≠ .non ∧ ∀ l p, d ≠ .any l p) → decide (v = V.non) = false := fun {d} r n => by
    refine decide_eq_false fun e => ?_
    subst e
    rcases rp_ne_non r with h | ⟨l, q, h⟩
    · exact n.1 h
    · exact n.2 _ _ h
  split at h
  · exact .inl ⟨_, _, rx.bl_inv, ry.bl_inv, p.bl h⟩
  · refine .inr ⟨ry.non_inv, ?_⟩
    rw [rx.non_inv]
    exact p.bl h
  · refine .inr ⟨ry.non_inv, ?_⟩
    rw [key rx ⟨by simp, by simp⟩]
    exact p.bl h
  · refine .inr ⟨ry.non_inv, ?_⟩
    rw [key rx ⟨by simp, by simp⟩]
    exact p.bl h
  · refine .inr ⟨ry.non_inv, ?_⟩
    rw [key rx ⟨by simp, by simp⟩]
    exact p.bl h
  · refine .inr ⟨ry.non_inv, ?_⟩
    rw [key rx ⟨by simp, by simp⟩]
    exact p.bl h
  · refine .inr ⟨ry.non_inv, ?_⟩
    rw [key rx ⟨by simp, by simp⟩]
    exact p.bl h
  · refine .inr ⟨ry.non_inv, ?_⟩
    rw [key rx ⟨by simp, by simp⟩]
    exact p.bl h
  · refine .inr ⟨ry.non_inv, ?_⟩
    rw [key rx ⟨by simp, by simp⟩]
    exact p.bl h
  · refine .inr ⟨ry.non_inv, ?_⟩
    rw [key rx ⟨by simp, by simp⟩]
    exact p.bl h
  · refine .inr ⟨ry.non_inv, ?_⟩
    rw [key rx ⟨by simp, by simp⟩]
    exact p.bl h
  · exact h.elim
theorem op_isV {X : Cx} : OpR X (compareOp .Is) (rIsV false) := .or (fun pins s σ H x y v u Q I rx ry ⟨a, b, h1, h2, h3⟩ => op_isBl pins s σ H x y v u Q I rx ry ⟨a, b, h1, h2, by simpa using h3⟩)
  (fun pins s σ H x y v u Q I rx ry ⟨h1, h2⟩ => op_isN pins s σ H x y v u Q I rx ry ⟨h1, by simpa using h2⟩)
theorem op_isNotV {X : Cx} : OpR X (compareOp .IsNot) (rIsV true) := .or (fun pins s σ H x y v u Q I rx ry ⟨a, b, h1, h2, h3⟩ => op_notBl pins s σ H x y v u Q I rx ry ⟨a, b, h1, h2, by simpa using h3⟩)
  (fun pins s σ H x y v u Q I rx ry ⟨h1, h2⟩ => op_notN pins s σ H x y v u Q I rx ry ⟨h1, by simpa using h2⟩)
end TL
end
section
/-! TL4: membership, subscripts, slices. -/
namespace TL
open PySem PySem.Spec L2

section
variable {X : Cx} {W : WX} {pos : Pos} {a b : Expr} {ta tb : E1}
def eLt (ta tb : E1) : E1 := eOp rLtT ta tb
def eLe (ta tb : E1) : E1 := eOp rLeT ta tb
def eGt (ta tb : E1) : E1 := eOp rGtT ta tb
def eGe (ta tb : E1) : E1 := eOp rGeT ta tb
def eEq (ta tb : E1) : E1 := eOp (rEqT false) ta tb
def eNe (ta tb : E1) : E1 := eOp (rEqT true) ta tb
def eIs (ta tb : E1) : E1 := eOp (rIsT false) ta tb
def eIsNot (ta tb : E1) : E1 := eOp (rIsT true) ta tb
theorem qe_lt (ha : QE X W a ta) (hb : QE X W b tb) : QE X W (.Compare a [.Lt] [b] pos) (eLt ta tb) := qe_cmp sim_cmp op_ltV ha hb
theorem qe_le (ha : QE X W a ta) (hb : QE X W b tb) : QE X W (.Compare a [.LtE] [b] pos) (eLe ta tb) := qe_cmp sim_cmp op_leV ha hb
theorem qe_gt (ha : QE X W a ta) (hb : QE X W b tb) : QE X W (.Compare a [.Gt] [b] pos) (eGt ta tb) := qe_cmp sim_cmp op_gtV ha hb
theorem qe_ge (ha : QE X W a ta) (hb : QE X W b tb) : QE X W (.Compare a [.GtE] [b] pos) (eGe ta tb) := qe_cmp sim_cmp op_geV ha hb
theorem qe_eq (hu : X.A.units + 66 < cLine) (ha : QE X W a ta) (hb : QE X W b tb) : QE X W (.Compare a [.Eq] [b] pos) (eEq ta tb) := qe_cmp (sim_eq false) (op_eqAll hu) ha hb
theorem qe_ne (hu : X.A.units + 66 < cLine) (ha : QE X W a ta) (hb : QE X W b tb) : QE X W (.Compare a [.NotEq] [b] pos) (eNe ta tb) := qe_cmp (sim_eq true) (op_neAll hu) ha hb
theorem qe_is (ha : QE X W a ta) (hb : QE X W b tb) : QE X W (.Compare a [.Is] [b] pos) (eIs ta tb) := qe_cmp (sim_is false) op_isV ha hb
theorem qe_isNot (ha : QE X W a ta) (hb : QE X W b tb) : QE X W (.Compare a [.IsNot] [b] pos) (eIsNot ta tb) := qe_cmp (sim_is true) op_isNotV ha hb
/-- a value that a test reads: any expression that yields a bool (comparisons, calls, names ..) -/
theorem qt_lt (ha : QE X W a ta) (hb : QE X W b tb) : QT X W (.Compare a [.Lt] [b] pos) (tBl (eLt ta tb)) := qt_cmp sim_cmp op_ltV ha hb
theorem qt_le (ha : QE X W a ta) (hb : QE X W b tb) : QT X W (.Compare a [.LtE] [b] pos) (tBl (eLe ta tb)) := qt_cmp sim_cmp op_leV ha hb
theorem qt_gt (ha : QE X W a ta) (hb : QE X W b tb) : QT X W (.Compare a [.Gt] [b] pos) (tBl (eGt ta tb)) := qt_cmp sim_cmp op_gtV ha hb
theorem qt_ge (ha : QE X W a ta) (hb : QE X W b tb) : QT X W (.Compare a [.GtE] [b] pos) (tBl (eGe ta tb)) := qt_cmp sim_cmp op_geV ha hb
theorem qt_eq (hu : X.A.units + 66 < cLine) (ha : QE X W a ta) (hb : QE X W b tb) : QT X W (.Compare a [.Eq] [b] pos) (tBl (eEq ta tb)) := qt_cmp (sim_eq false) (op_eqAll hu) ha hb
theorem qt_ne (hu : X.A.units + 66 < cLine) (ha : QE X W a ta) (hb : QE X W b tb) : QT X W (.Compare a [.NotEq] [b] pos) (tBl (eNe ta tb)) := qt_cmp (sim_eq true) (op_neAll hu) ha hb
theorem qt_is (ha : QE X W a ta) (hb : QE X W b tb) : QT X W (.Compare a [.Is] [b] pos) (tBl (eIs ta tb)) := qt_cmp (sim_is false) op_isV ha hb
theorem qt_isNot (ha : QE X W a ta) (hb : QE X W b tb) : QT X W (.Compare a [.IsNot] [b] pos) (tBl (eIsNot ta tb)) := qt_cmp (sim_is true) op_isNotV ha hb
end

/-! ### keys -/
def keyD : D → Option Key
  | .int i => some (.inl i)
  | .str x => some (.inr x)
  | _ => none
def keysD : List D → Option (List Key)
  | [] => some []
  | d :: r => match keyD d, keysD r with
    | some k, some ks => some (k :: ks)
    | _, _ => none
def keyT : D → Option (List Key)
  | .tup xs => keysD xs
  | _ => none
section
variable {B : Bd} {G : GH} {H : Hp}
theorem keyD_ok {d : D} {v : V} {k : Key} (r : Rp B G H d v) (e : keyD d = some k) : v = kV k := by
  cases d with
  | int i => cases e; exact r.int_inv
  | str x => cases e; exact r.str_inv
  | _ => cases e
theorem keysD_ok : ∀ {ds : List D} {vs : List V} {ks : List Key}, RpL B G H ds vs → keysD ds = some ks → vs = ks.map kV
  | [], vs, ks, r, e => by cases e; exact r.nil_inv
  | d :: ds, vs, ks, r, e => by
    obtain ⟨v, q, rfl, h, t⟩ := r.uncons
    unfold keysD at e
    cases e1 : keyD d with
    | none => rw [e1] at e; simp at e
    | some k =>
      rw [e1] at e
      cases e2 : keysD ds with
      | none => rw [e2] at e; simp at e
      | some ks' =>
        rw [e2] at e
        simp at e
        subst e
        rw [keyD_ok h e1, keysD_ok t e2]
        rfl
theorem keyT_ok {d : D} {v : V} {k : List Key} (r : Rp B G H d v) (e : keyT d = some k) : ∃ b, v = .ref b ∧ H b = some (.tup (k.map kV)) := by
  cases d with
  | tup xs =>
    obtain ⟨a, vs, rfl, h, q⟩ := r.tup_inv
    have e' : keysD xs = some k := e
    rw [keysD_ok q e'] at h
    exact ⟨a, rfl, h⟩
  | _ => cases e
end

/-! ### in -/
def rInT (neg : Bool) : R2T := fun x y G Q _ => match y with
  | .str z => (match x with
    | .str w => ∃ c, w = ⟨#[c]⟩ ∧ Q (.bl (neg != decide (c ∈ z.cps.toList))) G
    | _ => False)
  | y => match vQ G y with
    | some xs => Pl x 50 ∧ PlL xs 50 ∧ Q (.bl (neg != xs.any fun e => eqD e x)) G
    | none => match vK G y with
      | some kvs => (match keyD x with
        | some k => Q (.bl (neg != (getK kvs k).isSome)) G
        | none => False)
      | none => match vT G y with
        | some kvs => (match keyT x with
          | some k => Q (.bl (neg != (getK kvs k).isSome)) G
          | none => False)
        | none => match vS G y with
          | some ks => (match keyD x with
            | some k => Q (.bl (neg != inK ks k)) G
            | none => False)
          | none => False
/-- x in a list or a tuple of data -/
def rInQ (K : PySem.W.Frag) (neg : Bool) : R2 := fun x y H Q => ∃ d ds a vs, y = .ref a ∧ Dp K H x d ∧ (SqL K H a vs ∨ SqT K H a vs) ∧ DpAll K H vs ds ∧ SeqAt.shaped d = true ∧ PyData.canLayAll0 ds = true ∧ PyData.depthAll ds ≤ 60 ∧ Q (.bl (neg != ds.any fun z => PyData.eqv z d)) H
theorem op_inQ {X : Cx} (hu : X.A.units + 66 < cLine) : OpR X (compareOp .In) (rInQ X.K false) := by
  intro pins s σ H x y v u Q I rx ry h
  obtain ⟨d, ds, a, vs, rfl, hd, hs, hv, sd, c1, c2, q⟩ := h
  obtain ⟨as, r1⟩ := Dp.reads I d x v hd rx
  have q' : Q (.bl (ds.any fun z => PyData.eqv z d)) H := by simpa using q
  rcases hs with hs | hs
  · obtain ⟨bs, r2⟩ := Dp.reads I (.list ds) _ u (.lst hs hv) ry
    exact SeqAt.in_list_reads r2 r1 (by simpa [PyData.canLay0] using c1) (SeqAt.canLay_of_shaped sd) (PyProof.Rows.room_in_shaped sd (by omega)) ⟨.bl _, H, I, rfl, q'⟩
  · obtain ⟨bs, r2⟩ := Dp.reads I (.tuple ds) _ u (.tup hs hv) ry
    exact SeqAt.in_tuple_reads r2 r1 (by simpa [PyData.canLay0] using c1) (SeqAt.canLay_of_shaped sd) (PyProof.Rows.room_in_shaped sd (by omega)) ⟨.bl _, H, I, rfl, q'⟩
theorem op_notInQ {X : Cx} (hu : X.A.units + 66 < cLine) : OpR X (compareOp .NotIn) (rInQ X.K true) := by
  intro pins s σ H x y v u Q I rx ry h
  obtain ⟨d, ds, a, vs, rfl, hd, hs, hv, sd, c1, c2, q⟩ := h
  obtain ⟨as, r1⟩ := Dp.reads I d x v hd rx
  have q' : Q (.bl (!ds.any fun z => PyData.eqv z d)) H := by simpa using q
  rcases hs with hs | hs
  · obtain ⟨bs, r2⟩ := Dp.reads I (.list ds) _ u (.lst hs hv) ry
    exact SeqAt.notIn_list_reads r2 r1 (by simpa [PyData.canLay0] using c1) (SeqAt.canLay_of_shaped sd) (PyProof.Rows.room_in_shaped sd (by omega)) ⟨.bl _, H, I, rfl, q'⟩
  · obtain ⟨bs, r2⟩ := Dp.reads I (.tuple ds) _ u (.tup hs hv) ry
    exact SeqAt.notIn_tuple_reads r2 r1 (by simpa [PyData.canLay0] using c1) (SeqAt.canLay_of_shaped sd) (PyProof.Rows.room_in_shaped sd (by omega)) ⟨.bl _, H, I, rfl, q'⟩
def rInDV (neg : Bool) : R2 := fun y x H Q => ∃ a o, x = .ref a ∧ DGet H a y o ∧ Q (.bl (neg != o.isSome)) H
theorem op_inDV {X : Cx} (hu : X.A.units + 66 < cLine) : OpR X (compareOp .In) (rInDV false) := by
  intro pins s σ H y x u v Q I ry rx h
  obtain ⟨a, o, rfl, g, q⟩ := h
  cases rx
  exact d_in (by omega) I g ry fun s' I' => ⟨.bl _, H, I', rfl, by simpa using q⟩
theorem op_notInDV {X : Cx} (hu : X.A.units + 66 < cLine) : OpR X (compareOp .NotIn) (rInDV true) := by
  intro pins s σ H y x u v Q I ry rx h
  obtain ⟨a, o, rfl, g, q⟩ := h
  cases rx
  exact d_notIn (by omega) I g ry fun s' I' => ⟨.bl _, H, I', rfl, by simpa using q⟩
def rInV (B : Bd) (neg : Bool) : R2 := fun x y H Q => (∃ (c : Nat) (z : Str), x = .str ⟨#[c]⟩ ∧ y = .str z ∧ Q (.bl (neg != decide (c ∈ z.cps.toList))) H) ∨ (rInQ B.K neg x y H Q ∨ (rInDV neg x y H Q ∨
  (∃ (k : Key) (a : Addr) (S : Key → Bool) (n : Nat), x = kV k ∧ y = V.ref a ∧ H a = some (SetK B.P B.w a S n) ∧ Q (.bl (neg != S k)) H)))
theorem op_inAll {X : Cx} (hu : X.A.units + 66 < cLine) : OpR X (compareOp .In) (rInV (bd X) false) := by
  refine .or (fun pins s σ H x y v u Q I rx ry ⟨c, z, h1, h2, h3⟩ => op_in_sign pins s σ H x y v u Q I rx ry ⟨c, z, h1, h2, by simpa using h3⟩) (.or (op_inQ hu) (.or (op_inDV hu) ?_))
  exact fun pins s σ H x y v u Q I rx ry ⟨k, a, S, n, h1, h2, h3, h4⟩ => or_sinK pins s σ H x y v u Q I rx ry ⟨k, a, S, n, h1, h2, h3, by simpa using h4⟩
theorem op_notInAll {X : Cx} (hu : X.A.units + 66 < cLine) : OpR X (compareOp .NotIn) (rInV (bd X) true) := by
  refine .or (fun pins s σ H x y v u Q I rx ry ⟨c, z, h1, h2, h3⟩ => op_notIn_sign pins s σ H x y v u Q I rx ry ⟨c, z, h1, h2, by simpa using h3⟩) (.or (op_notInQ hu) (.or (op_notInDV hu) ?_))
  exact fun pins s σ H x y v u Q I rx ry ⟨k, a, S, n, h1, h2, h3, h4⟩ => or_snotinK pins s σ H x y v u Q I rx ry ⟨k, a, S, n, h1, h2, h3, by simpa using h4⟩
theorem any_eqv (x : D) : ∀ xs : List D, ((toPyL xs).any fun z => PyData.eqv z (toPy x)) = xs.any fun e => eqD e x
  | [] => rfl
  | d :: r => by rw [toPyL, List.any_cons, List.any_cons, any_eqv x r]
theorem sim_in {B : Bd} (neg : Bool) : Sim2 B (rInT neg) (rInV B neg) := by
  intro F W σ H Q τ G QT' ET x y v u p rx ry h
  unfold rInT at h
  split at h
  · split at h
    · obtain ⟨c, rfl, q⟩ := h
      exact .inl ⟨c, _, rx.str_inv, ry.str_inv, p.bl q⟩
    · exact h.elim
  · split at h
    · rename_i xs e
      obtain ⟨a, vs, rfl, ha, ra⟩ := vQ_ok p.wd ry e
      have l := plL_lay h.2.1
      exact .inr (.inl ⟨toPy x, toPyL xs, a, vs, rfl, rp_dp (B := B.hide F) rx h.1, ha, rpL_dp (B := B.hide F) ra h.2.1, pl_shaped h.1 (by omega), l.1, by omega, by rw [any_eqv]; exact p.bl h.2.2⟩)
    · split at h
      · rename_i kvs e
        obtain ⟨a, vs, rfl, ha, ra⟩ := vK_ok p.wd ry e
        split at h
        · rename_i k ek
          refine .inr (.inr (.inl ⟨a, valV vs k, rfl, .inl ⟨vs, k, ha, keyD_ok rx ek, rfl⟩, ?_⟩))
          rw [ra.opt k]
          exact p.bl h
        · exact h.elim
      · split at h
        · rename_i kvs e
          obtain ⟨a, vs, rfl, ha, ra⟩ := vT_ok p.wd ry e
          split at h
          · rename_i k ek
            obtain ⟨b, rfl, hb⟩ := keyT_ok rx ek
            refine .inr (.inr (.inl ⟨a, valV vs k, rfl, .inr ⟨vs, k, b, ha, rfl, hb, rfl⟩, ?_⟩))
            rw [ra.opt k]
            exact p.bl h
          · exact h.elim
        · split at h
          · rename_i ks e
            obtain ⟨a, rfl, ha⟩ := vS_ok p.wd ry e
            split at h
            · rename_i k ek
              exact .inr (.inr (.inr ⟨k, a, inK ks, ks.length, keyD_ok rx ek, rfl, ha, p.bl h⟩))
            · exact h.elim
          · exact h.elim
section
variable {X : Cx} {W : WX} {pos : Pos} {a b : Expr} {ta tb : E1}
def eIn (ta tb : E1) : E1 := eOp (rInT false) ta tb
def eNotIn (ta tb : E1) : E1 := eOp (rInT true) ta tb
theorem qe_in (hu : X.A.units + 66 < cLine) (ha : QE X W a ta) (hb : QE X W b tb) (hm : behindInMarks .In b = false := by rfl) : QE X W (.Compare a [.In] [b] pos) (eIn ta tb) := qe_cmp (sim_in false) (op_inAll hu) ha hb hm
theorem qe_notIn (hu : X.A.units + 66 < cLine) (ha : QE X W a ta) (hb : QE X W b tb) (hm : behindInMarks .NotIn b = false := by rfl) : QE X W (.Compare a [.NotIn] [b] pos) (eNotIn ta tb) := qe_cmp (sim_in true) (op_notInAll hu) ha hb hm
theorem qt_in (hu : X.A.units + 66 < cLine) (ha : QE X W a ta) (hb : QE X W b tb) (hm : behindInMarks .In b = false := by rfl) : QT X W (.Compare a [.In] [b] pos) (tBl (eIn ta tb)) := qt_cmp (sim_in false) (op_inAll hu) ha hb hm
theorem qt_notIn (hu : X.A.units + 66 < cLine) (ha : QE X W a ta) (hb : QE X W b tb) (hm : behindInMarks .NotIn b = false := by rfl) : QT X W (.Compare a [.NotIn] [b] pos) (tBl (eNotIn ta tb)) := qt_cmp (sim_in true) (op_notInAll hu) ha hb hm
end

/-! ### a < b <= c -/
def eChain (r r' : R2T) (ta tb tc : E1) : E1 := fun τ G Q E => ta τ G (fun x G1 => tb τ G1 (fun y G2 => r x y G2 (fun z G3 => match z with
  | .bl true => tc τ G3 (fun w G4 => r' y w G4 Q E) E
  | .bl false => Q (.bl false) G3
  | _ => False) E) E) E
theorem qe_chain {X : Cx} {W : WX} {pos : Pos} {a b c : Expr} {ta tb tc : E1} {r r' : R2T} {rH rH' : R2} {op op' : CmpOp} (s : Sim2 (bd X) r rH) (s' : Sim2 (bd X) r' rH') (ho : OpR X (compareOp op) rH) (ho' : OpR X (compareOp op') rH')
    (ha : QE X W a ta) (hb : QE X W b tb) (hc : QE X W c tc) (hm : lastMarks [op, op'] [b, c] = false := by with_unfolding_all rfl) : QE X W (.Compare a [op, op'] [b, c] pos) (eChain r r' ta tb tc) := PE.imp (pe_chain ho ho' ha hb hc hm) fun σ H Q h => by
  obtain ⟨F, τ, G, QT', ET, p, t⟩ := h
  refine LE.bind (PT := p) (k := fun x τ G1 Q E => tb τ G1 (fun y G2 => r x y G2 (fun z G3 => match z with
    | .bl true => tc τ G3 (fun w G4 => r' y w G4 Q E) E
    | .bl false => Q (.bl false) G3
    | _ => False) E) E) t fun v x G1 H1 p1 r1 s1 q1 => ?_
  refine LE.bind (PT := p1) (k := fun y τ G2 Q E => r x y G2 (fun z G3 => match z with
    | .bl true => tc τ G3 (fun w G4 => r' y w G4 Q E) E
    | .bl false => Q (.bl false) G3
    | _ => False) E) q1 fun u y G2 H2 p2 r2 s2 q2 => ?_
  refine s F W σ H2 _ τ G2 _ ET x y v u ⟨p2.sl, p2.wd, fun v' z G3 H3 r3 w3 s3 q3 => ?_, p2.ex⟩ (r1.step p1.wd s2) r2 q2
  cases z with
  | bl k =>
    refine ⟨k, r3.bl_inv, ?_⟩
    cases k with
    | true =>
      rw [if_pos rfl]
      refine LE.bind (PT := p2.next w3 s3) (k := fun w τ G4 Q E => r' y w G4 Q E) q3 fun w' w'' G4 H4 p4 r4 s4 q4 => ?_
      exact s' F W σ H4 Q τ G4 QT' ET y w'' u w' p4 ((r2.step p2.wd s3).step w3 s4) r4 q4
    | false =>
      rw [if_neg (by decide)]
      exact p2.ok _ _ G3 H3 rp_bl w3 s3 q3
  | _ => exact q3.elim
theorem qt_chain {X : Cx} {W : WX} {pos : Pos} {a b c : Expr} {ta tb tc : E1} {r r' : R2T} {rH rH' : R2} {op op' : CmpOp} (s : Sim2 (bd X) r rH) (s' : Sim2 (bd X) r' rH') (ho : OpR X (compareOp op) rH) (ho' : OpR X (compareOp op') rH')
    (ha : QE X W a ta) (hb : QE X W b tb) (hc : QE X W c tc) (hm : lastMarks [op, op'] [b, c] = false := by with_unfolding_all rfl) : QT X W (.Compare a [op, op'] [b, c] pos) (tBl (eChain r r' ta tb tc)) := PT.imp (pt_chain ho ho' ha hb hc hm) fun σ H Q h => by
  obtain ⟨F, τ, G, QT', ET, p, t⟩ := h
  refine LE.bind (PT := (⟨p.sl, p.wd, fun v d G1 H1 r1 w1 s1 q1 => ?_, p.ex⟩ : Pt ((bd X).hide F) W σ H (fun x H' => ∃ k, x = .bl k ∧ Q k H') τ G (fun d G1 => match d with
    | .bl b => QT' b G1
    | _ => False) ET)) (k := fun x τ G1 Q E => tb τ G1 (fun y G2 => r x y G2 (fun z G3 => match z with
    | .bl true => tc τ G3 (fun w G4 => r' y w G4 Q E) E
    | .bl false => Q (.bl false) G3
    | _ => False) E) E) t fun v x G1 H1 p1 r1 s1 q1 => ?_
  · cases d with
    | bl b => exact ⟨b, r1.bl_inv, p.ok b G1 H1 w1 s1 q1⟩
    | _ => exact q1.elim
  refine LE.bind (PT := p1) (k := fun y τ G2 Q E => r x y G2 (fun z G3 => match z with
    | .bl true => tc τ G3 (fun w G4 => r' y w G4 Q E) E
    | .bl false => Q (.bl false) G3
    | _ => False) E) q1 fun u y G2 H2 p2 r2 s2 q2 => ?_
  refine s F W σ H2 _ τ G2 _ ET x y v u ⟨p2.sl, p2.wd, fun v' z G3 H3 r3 w3 s3 q3 => ?_, p2.ex⟩ (r1.step p1.wd s2) r2 q2
  cases z with
  | bl k =>
    refine ⟨k, r3.bl_inv, ?_⟩
    cases k with
    | true =>
      rw [if_pos rfl]
      refine LE.bind (PT := p2.next w3 s3) (k := fun w τ G4 Q E => r' y w G4 Q E) q3 fun w' w'' G4 H4 p4 r4 s4 q4 => ?_
      exact s' F W σ H4 _ τ G4 _ ET y w'' u w' p4 ((r2.step p2.wd s3).step w3 s4) r4 q4
    | false =>
      rw [if_neg (by decide)]
      exact p2.ok _ _ G3 H3 rp_bl w3 s3 q3
  | _ => exact q3.elim

/-! ### subscripts -/
def rIxT' : R2T := fun x y G Q _ => match x with
  | .str z => (match y with
    | .int i => z.length ≤ sizeLine ∧ (match atI z.cps.toList i with
      | some c => Q (.str ⟨#[c]⟩) G
      | none => False)
    | _ => False)
  | x => match vQ G x with
    | some xs => (match y with
      | .int i => (match atI xs i with
        | some d => Q d G
        | none => False)
      | _ => False)
    | none => match vK G x with
      | some kvs => (match keyD y with
        | some k => (match getK kvs k with
          | some d => Q d G
          | none => False)
        | none => False)
      | none => match vT G x with
        | some kvs => (match keyT y with
          | some k => (match getK kvs k with
            | some d => Q d G
            | none => False)
          | none => False)
        | none => False
def rIxDV : R2 := fun x y H Q => ∃ a v, x = .ref a ∧ DGet H a y (some v) ∧ Q v H
theorem ix_dict {X : Cx} (hu : X.A.units + 66 < cLine) : IxR X rIxDV := by
  intro value slice pins s σ H x y v u Q I rx ry h hs
  obtain ⟨a, z, rfl, g, q⟩ := h
  cases rx
  exact PyProof.Rows.tail_any (dict_typeIs I g) PySem.F.slot_dict_getitem.lookup (d_getItem (by omega) I g ry fun w' s' I' rw' => ⟨z, H, I', rw', q⟩) hs
theorem atI_rp {B : Bd} {G : GH} {H : Hp} {xs : List D} {vs : List V} {i : Int} {d : D} (r : RpL B G H xs vs) (e : atI xs i = some d) : ∃ v, atI vs i = some v ∧ Rp B G H d v := by
  unfold atI at e ⊢
  rw [r.length]
  cases h : ixN xs.length i with
  | none => rw [h] at e; cases e
  | some j =>
    rw [h] at e
    exact r.get e
def rIxVV (K : PySem.W.Frag) : R2 := fun x y H Q => rIx K x y H Q ∨ rIxDV x y H Q
theorem sim_ix {B : Bd} : Sim2 B rIxT' (rIxVV B.K) := by
  intro F W σ H Q τ G QT' ET x y v u p rx ry h
  unfold rIxT' at h
  split at h
  · split at h
    · obtain ⟨hl, h⟩ := h
      split at h
      · rename_i c e
        exact .inl (.inr (.inr ⟨_, _, c, rx.str_inv, ry.int_inv, hl, e, p.str h⟩))
      · exact h.elim
    · exact h.elim
  · split at h
    · rename_i xs e
      obtain ⟨a, vs, rfl, ha, ra⟩ := vQ_ok p.wd rx e
      split at h
      · split at h
        · rename_i d ed
          obtain ⟨w, hw, rw'⟩ := atI_rp ra ed
          rcases ha with ha | ha
          · exact .inl (.inl ⟨a, vs, _, w, rfl, ry.int_inv, ha, hw, p.val rw' h⟩)
          · exact .inl (.inr (.inl ⟨a, vs, _, w, rfl, ry.int_inv, ha, hw, p.val rw' h⟩))
        · exact h.elim
      · exact h.elim
    · split at h
      · rename_i kvs e
        obtain ⟨a, vs, rfl, ha, ra⟩ := vK_ok p.wd rx e
        split at h
        · rename_i k ek
          split at h
          · rename_i d ed
            obtain ⟨w, hw, rw'⟩ := ra.some ed
            exact .inr ⟨a, w, rfl, .inl ⟨vs, k, ha, keyD_ok ry ek, hw.symm⟩, p.val rw' h⟩
          · exact h.elim
        · exact h.elim
      · split at h
        · rename_i kvs e
          obtain ⟨a, vs, rfl, ha, ra⟩ := vT_ok p.wd rx e
          split at h
          · rename_i k ek
            obtain ⟨b, rfl, hb⟩ := keyT_ok ry ek
            split at h
            · rename_i d ed
              obtain ⟨w, hw, rw'⟩ := ra.some ed
              exact .inr ⟨a, w, rfl, .inr ⟨vs, k, b, ha, rfl, hb, hw.symm⟩, p.val rw' h⟩
            · exact h.elim
          · exact h.elim
        · exact h.elim
def eIx (ta tb : E1) : E1 := eOp rIxT' ta tb
theorem qe_ix {X : Cx} {W : WX} {pos : Pos} {a b : Expr} {ta tb : E1} (hu : X.A.units + 66 < cLine) (ha : QE X W a ta) (hb : QE X W b tb) (hs : PlainIx b := by intro _ _; rfl) : QE X W (.Subscript a b pos) (eIx ta tb) :=
  PE.imp (pe_ix (IxR.or ix_seq (ix_dict hu)) ha hb hs) fun _ _ _ h => le_op sim_ix h

/-! ### slices -/
abbrev O1 := Sl → GH → (Option Int → GH → Prop) → KX → Prop
structure PtO (B : Bd) (W : WX) (σ : L2.St) (H : Hp) (Q : Option Int → Hp → Prop) (τ : Sl) (G : GH) (QT : Option Int → GH → Prop) (ET : KX) : Prop where
  sl : RpS B G H σ τ
  wd : Wd B G H
  ok : ∀ b G' H', Wd B G' H' → Stp G H G' H' → QT b G' → Q b H'
  ex : ∀ c d fs G' H', RpX B G' H' d fs → Wd B G' H' → Stp G H G' H' → ET c fs G' → W c d σ H'
def LO (B : Bd) (W : WX) (t : O1) : TO := fun σ H Q => ∃ F τ G QT ET, PtO (B.hide F) W σ H Q τ G QT ET ∧ t τ G QT ET
def QO (X : Cx) (W : WX) (e : Option Expr) (t : O1) : Prop := PO X e (LO (bd X) W t)
theorem PO.imp {X : Cx} {e : Option Expr} {t t' : TO} (h : PO X e t) (i : ∀ σ H Q, t' σ H Q → t σ H Q) : PO X e t' := ⟨fun pins s σ H Q I hw => h.run pins s σ H Q I (i _ _ _ hw)⟩
def oNone : O1 := fun _ G Q _ => Q none G
def oSome (t : E1) : O1 := fun τ G Q E => t τ G (fun d G1 => match d with
  | .int i => Q (some i) G1
  | _ => False) E
theorem qo_none {X : Cx} {W : WX} : QO X W none oNone := PO.imp po_none fun σ H Q ⟨F, τ, G, QT', ET, p, t⟩ => p.ok none G H p.wd Stp.refl t
theorem qo_some {X : Cx} {W : WX} {e : Expr} {t : E1} (h : QE X W e t) : QO X W (some e) (oSome t) := PO.imp (po_some h) fun σ H Q ⟨F, τ, G, QT', ET, p, t⟩ => by
  refine ⟨F, τ, G, _, ET, ⟨p.sl, p.wd, fun v d G1 H1 r w s q => ?_, p.ex⟩, t⟩
  cases d with
  | int i => exact ⟨i, r.int_inv, p.ok _ G1 H1 w s q⟩
  | _ => exact q.elim
def cutD (xs : List D) (lo hi : Option Int) : List D := (xs.drop (HT.sIx xs.length 0 lo)).take (HT.sIx xs.length xs.length hi - HT.sIx xs.length 0 lo)
theorem RpL.drop {B : Bd} {G : GH} {H : Hp} : ∀ {xs : List D} {vs : List V} (n : Nat), RpL B G H xs vs → RpL B G H (xs.drop n) (vs.drop n)
  | xs, vs, 0, r => r
  | [], vs, n + 1, r => by rw [r.nil_inv]; exact RpL.nil
  | x :: xs, vs, n + 1, r => by
    obtain ⟨v, q, rfl, _, t⟩ := r.uncons
    exact RpL.drop n t
theorem RpL.take {B : Bd} {G : GH} {H : Hp} : ∀ {xs : List D} {vs : List V} (n : Nat), RpL B G H xs vs → RpL B G H (xs.take n) (vs.take n)
  | xs, vs, 0, r => RpL.nil
  | [], vs, n + 1, r => by rw [r.nil_inv]; exact RpL.nil
  | x :: xs, vs, n + 1, r => by
    obtain ⟨v, q, rfl, h, t⟩ := r.uncons
    exact RpL.cons h (RpL.take n t)
theorem RpL.cut {B : Bd} {G : GH} {H : Hp} {xs : List D} {vs : List V} (r : RpL B G H xs vs) (lo hi : Option Int) : RpL B G H (cutD xs lo hi) (cutV vs lo hi) := by
  unfold cutD cutV
  rw [r.length]
  exact (r.drop _).take _
def rSlT' : D → Option Int → Option Int → GH → KD → Prop := fun x lo hi G Q => match x with
  | .str z => z.length ≤ sizeLine ∧ Q (.str (cutS z lo hi)) G
  | .tup xs => Q (.tup (cutD xs lo hi)) G
  | .kt _ => False
  | x => match vQ G x with
    | some xs => Q (.lst (cutD xs lo hi)) G
    | none => False
def eSl (te : E1) (tl th : O1) : E1 := fun τ G Q E => te τ G (fun x G1 => tl τ G1 (fun l G2 => th τ G2 (fun u G3 => rSlT' x l u G3 Q) E) E) E
def rSlV (K : PySem.W.Frag) : V → Option Int → Option Int → Hp → VK → Prop := fun x lo hi H Q => rSlS x lo hi H Q ∨ (rSlA K x lo hi H Q ∨ rSlL K x lo hi H Q)
theorem vQ_list {B : Bd} {G : GH} {H : Hp} {d : D} {v : V} (w : Wd B G H) (r : Rp B G H d v) {xs : List D} (e : vQ G d = some xs) (h1 : ∀ ys, d ≠ .tup ys) (h2 : ∀ ys, d ≠ .kt ys) : ∃ a vs, v = .ref a ∧ SqL B.K H a vs ∧ RpL B G H xs vs := by
  cases d with
  | lst ys =>
    cases e
    obtain ⟨a, vs, rfl, f, q⟩ := r.lst_inv
    exact ⟨a, vs, rfl, SqL.of f.1, q⟩
  | tup ys => exact absurd rfl (h1 ys)
  | kt ys => exact absurd rfl (h2 ys)
  | scr ys =>
    cases e
    unfold Rp at r
    obtain ⟨a, vs, e, f, q⟩ := r
    exact ⟨a, vs, e, f.sq, q⟩
  | ref p =>
    unfold vQ at e
    dsimp only at e
    have := r.ref_inv
    cases g : G p with
    | none => rw [g] at e; cases e
    | some c =>
      rw [g] at e
      cases c with
      | lst ys =>
        cases e
        obtain ⟨vs, h1, h2⟩ := w.cl p _ g
        exact ⟨p, vs, this, SqL.of h1, h2⟩
      | _ => cases e
  | _ => cases e
theorem sim_sl {B : Bd} {W : WX} {σ : L2.St} {H : Hp} {Q : VK} {τ : Sl} {G : GH} {QT' : KD} {ET : KX} {x : D} {v : V} {lo hi : Option Int} (p : Pt B W σ H Q τ G QT' ET) (rx : Rp B G H x v) (h : rSlT' x lo hi G QT') : rSlV B.K v lo hi H Q := by
  unfold rSlT' at h
  split at h
  · exact .inl ⟨_, rx.str_inv, h.1, p.str h.2⟩
  · rename_i xs
    obtain ⟨a, vs, rfl, f, r⟩ := rx.tup_inv
    refine .inr (.inl ⟨a, vs, rfl, SqT.of f, fun e => ?_, fun _ t ht => p.tupN ht (r.cut lo hi) h⟩)
    have ec : cutD xs lo hi = xs := by
      unfold cutD
      rw [r.length] at e
      rw [e.1, e.2, List.drop_zero, Nat.sub_zero, List.take_length]
    rw [ec] at h
    exact p.val rx h
  · exact h.elim
  · rename_i h1 h2 h3
    split at h
    · rename_i xs e
      obtain ⟨a, vs, rfl, f, r⟩ := vQ_list p.wd rx e h2 h3
      exact .inr (.inr ⟨a, vs, rfl, f, fun t ht => p.lstN ht (r.cut lo hi) h⟩)
    · exact h.elim
theorem qe_sl {X : Cx} {W : WX} {pos p2 : Pos} {e : Expr} {lo hi : Option Expr} {te : E1} {tl th : O1} (he : QE X W e te) (hl : QO X W lo tl) (hu : QO X W hi th) : QE X W (.Subscript e (.Slice lo hi none p2) pos) (eSl te tl th) :=
  PE.imp (pe_slice (SlR.or sl_str (SlR.or sl_tupA sl_list)) he hl hu) fun σ H Q ⟨F, τ, G, QT', ET, p, t⟩ => by
    refine LE.bind (PT := p) (k := fun x τ G1 Q E => tl τ G1 (fun l G2 => th τ G2 (fun u G3 => rSlT' x l u G3 Q) E) E) t fun v x G1 H1 p1 r1 s1 q1 => ?_
    refine ⟨F, τ, G1, _, ET, ⟨p1.sl, p1.wd, fun l G2 H2 w2 s2 q2 => ?_, p1.ex⟩, q1⟩
    have p2 := p1.next w2 s2
    refine ⟨F, τ, G2, _, ET, ⟨p2.sl, p2.wd, fun u G3 H3 w3 s3 q3 => ?_, p2.ex⟩, q2⟩
    exact sim_sl (p2.next w3 s3) ((r1.step p1.wd s2).step w2 s3) q3
/-- xs[::-1] -/
def eRev (te : E1) : E1 := fun τ G Q E => te τ G (fun x G1 => match x with
  | .str _ | .tup _ | .kt _ => False
  | x => match vQ G1 x with
    | some xs => Q (.lst xs.reverse) G1
    | none => False) E
theorem RpL.reverse {B : Bd} {G : GH} {H : Hp} : ∀ {xs : List D} {vs : List V}, RpL B G H xs vs → RpL B G H xs.reverse vs.reverse
  | [], vs, r => by rw [r.nil_inv]; exact RpL.nil
  | x :: xs, vs, r => by
    obtain ⟨v, q, rfl, h, t⟩ := r.uncons
    rw [List.reverse_cons, List.reverse_cons]
    exact (RpL.reverse t).append (RpL.one h)
theorem qe_rev {X : Cx} {W : WX} {e : Expr} {te : E1} {k : Nat} {p1 p2 p3 pos : Pos} (he : QE X W e te) : QE X W (.Subscript e (.Slice none none (some (.UnaryOp .USub (.Constant (.int 1) k p1) p2)) p3) pos) (eRev te) :=
  PE.imp (pe_revL he) fun σ H Q ⟨F, τ, G, QT', ET, p, t⟩ => by
    refine LE.bind (PT := p) (k := fun x τ G1 Q E => match x with
      | .str _ | .tup _ | .kt _ => False
      | x => match vQ G1 x with
        | some xs => Q (.lst xs.reverse) G1
        | none => False) t fun v x G1 H1 p1 r1 s1 q1 => ?_
    split at q1
    · exact q1.elim
    · exact q1.elim
    · exact q1.elim
    · rename_i h1 h2 h3
      split at q1
      · rename_i xs e
        obtain ⟨a, vs, rfl, f, r⟩ := vQ_list p1.wd r1 e h2 h3
        exact ⟨a, vs, rfl, f, fun t ht => p1.lstN ht r.reverse q1⟩
      · exact q1.elim
end TL
end
section
/-! TL5: own defs, methods, classes, fields; freezing. -/
namespace TL
open PySem PySem.Spec L2

abbrev SpT := List D → GH → KD → KX → Prop
/-- a promise over trees as a promise over the heap -/
def LSp (B : Bd) (sp : SpT) : Sp := fun vs H Q E => ∃ F ds G QT ET, RpL (B.hide F) G H ds vs ∧ Wd (B.hide F) G H ∧ sp ds G QT ET ∧ (∀ v d G' H', Rp (B.hide F) G' H' d v → Wd (B.hide F) G' H' → Stp G H G' H' → QT d G' → Q v H') ∧
  (∀ c d fs G' H', RpX (B.hide F) G' H' d fs → Wd (B.hide F) G' H' → Stp G H G' H' → ET c fs G' → E c d H')
/-- the def at f keeps the promise sp; no repr runs around it -/
structure FnG (P : Program) (w : World) (K : PySem.W.Frag) (mg : Str → Option Value) (base : Heap) (k : Nat) (f : Addr) (fd : FuncData) (ps : List Str) (sp : SpT) : Prop where
  len : ∀ ds G Q E, sp ds G Q E → ds.length = ps.length
  run : ∀ (A : Around) (outer : List Env) (s : Shared) (H : Hp) (args : Args) (us : List Value) (vs : List V) (Q : VK) (E : XK), Room k A → A.guards = some [] → Env0 P w K mg base A outer s H → BindsTo s fd args (ps.zip us) → Vals vs us →
    LSp ⟨K, P, w, fun _ => False⟩ sp vs H Q E → codeAny (model P w) A (.call (.ref f) args) (CR (L2.CX P w) outer P w H s Q E) s
theorem FnG.mono {P : Program} {w : World} {K : PySem.W.Frag} {mg : Str → Option Value} {base : Heap} {j k : Nat} {f : Addr} {fd : FuncData} {ps : List Str} {sp : SpT} (F : FnG P w K mg base j f fd ps sp) (h : j ≤ k) : FnG P w K mg base k f fd ps sp :=
  ⟨F.len, fun A o s H args us vs Q E hr => F.run A o s H args us vs Q E (hr.mono h)⟩
theorem FnG.imp {P : Program} {w : World} {K : PySem.W.Frag} {mg : Str → Option Value} {base : Heap} {k : Nat} {f : Addr} {fd : FuncData} {ps : List Str} {sp sp' : SpT} (F : FnG P w K mg base k f fd ps sp) (h : ∀ ds G Q E, sp' ds G Q E → sp ds G Q E) : FnG P w K mg base k f fd ps sp' :=
  ⟨fun ds G Q E q => F.len ds G Q E (h _ _ _ _ q), fun A o s H args us vs Q E hr hg e0 hb hv ⟨F', ds, G, QT, ET, r, w', q, a, b⟩ => F.run A o s H args us vs Q E hr hg e0 hb hv ⟨F', ds, G, QT, ET, r, w', h _ _ _ _ q, a, b⟩⟩
/-- what a body knows of where it runs -/
structure Cn (X : Cx) (W : WX) : Prop where
  grd : X.A.guards = some []
  tk : Takes X W
section
variable {X : Cx} {W : WX} {k : Nat} {f C : Addr} {fd : FuncData} {ps : List Str} {sp : SpT} {dvs : List V} {dds : List D} {ds : List Value} {x m : Str} {p pos apos : Pos} {e o : Expr} {es : List Expr} {ta : E1} {t : A1}
theorem run_g {pins : List (Addr × Obj)} {σ : L2.St} {H : Hp} {s : Shared} {Q : VK} {us : List Value} {vs : List V} {args : Args} (F : FnG X.prog X.w X.K X.mg X.base k f fd ps sp) (cn : Cn X W) (hr : Room k X.A) (hb : BindsTo s fd args (ps.zip us))
    (I : Inv X pins σ H s) (r : Vals vs us) (h : LSp (bd X) sp vs H Q (fun c d H' => W c d σ H')) : wpAny (model X.prog X.w) X.A (call (.ref f) args.pos args.kw) (EP X pins σ Q) X.xe s := by
  refine wpAny_call (codeAny_mono (F.run X.A X.stack s H args us vs Q _ hr cn.grd I.env0 hb r h) fun r s' hq => ?_)
  cases r with
  | error e => exact passAt cn.tk σ pins H s e s' I hq
  | ok fl =>
    cases fl with
    | ret u => exact I.after hq
    | next => exact False.elim hq
    | brk => exact False.elim hq
    | cont => exact False.elim hq
/-- a call's promise at the upper level, from a point -/
theorem Pt.lsp {B : Bd} {F : Addr → Prop} {σ : L2.St} {H : Hp} {Q : VK} {τ : Sl} {G : GH} {QT' : KD} {ET : KX} (p : Pt (B.hide F) W σ H Q τ G QT' ET) {ds : List D} {vs : List V} (r : RpL (B.hide F) G H ds vs) (h : sp ds G QT' ET) : LSp B sp vs H Q (fun c d H' => W c d σ H') :=
  ⟨F, ds, G, QT', ET, r, p.wd, h, p.ok, p.ex⟩
/-- defaults that are flat -/
def Dfl (B : Bd) (dds : List D) (dvs : List V) : Prop := ∀ F G H, RpL (B.hide F) G H dds dvs
theorem Dfl.nil {B : Bd} : Dfl B [] [] := fun _ _ _ => RpL.nil
theorem Dfl.cons {B : Bd} {d : D} {v : V} {dds : List D} {dvs : List V} (h : ∀ F G H, Rp (B.hide F) G H d v) (r : Dfl B dds dvs) : Dfl B (d :: dds) (v :: dvs) := fun F G H => RpL.cons (h F G H) (r F G H)
def eCall (sp : SpT) (dds : List D) (t : A1) : E1 := fun τ G Q E => t τ G (fun ds G1 => sp (ds ++ dds) G1 Q E) E
theorem qe_call (F : FnG X.prog X.w X.K X.mg X.base k f fd ps sp) (cn : Cn X W) (hr : Room k X.A) (hg : Gl X x) (hm : X.mg x = some (.ref f)) (hk : PySem.W.keepIn X.K (.ref f) = true) (hb : Binds X.K fd ps ds) (hd : Vals dvs ds) (hdd : Dfl (bd X) dds dvs)
    (ha : QA X W (e :: es) t) (hdb : (x == ("__debug__" : Str)) = false := by decide) (he : starEach (e :: es) X.env = (false, eval e X.env) :: starEach es X.env := by rfl) (hpl : (backTo pos (starEach es X.env)).any (·.1) = false := by rfl) :
    QE X W (.Call (.Name x p) (e :: es) [] pos) (eCall sp dds t) := by
  refine ⟨fun pins s σ H Q I ⟨Fh, τ, G, QT', ET, P, q⟩ => ?_⟩
  refine wpAny_Call_Name_kw (ld_glob I hg hm ?_ hdb)
  refine PySem.W.callWith_K (h₀ := X.base) I.ok.mod.kin hk (thn (ha.run pos pins s σ H _ I (LA.bind (P := P) (k := fun ds G1 Q E => sp (ds ++ dds) G1 Q E) (QH := fun vs H1 => LSp (bd X) sp (vs ++ dvs) H1 Q (fun c d H' => W c d σ H')) q fun vs ds G1 H1 p1 r s1 q1 => p1.lsp (r.append (hdd Fh G1 H1)) q1)) fun us s1 ⟨vs, H1, I1, r, q1⟩ => ⟨I1.kIn, ?_⟩) he hpl
  have r2 : Vals (vs ++ dvs) (us ++ ds) := r.append hd
  obtain ⟨F', zs, G', QT2, ET2, rz, wz, hz, _⟩ := id q1
  refine run_g (args := ⟨us, []⟩) F cn hr (hb s1 us I1.kIn ?_) I1 r2 q1
  rw [← r2.length, rz.length]
  exact F.len _ _ _ _ hz
theorem qe_call0 (F : FnG X.prog X.w X.K X.mg X.base k f fd ps sp) (cn : Cn X W) (hr : Room k X.A) (hg : Gl X x) (hm : X.mg x = some (.ref f)) (hk : PySem.W.keepIn X.K (.ref f) = true) (hb : Binds X.K fd ps ds) (hd : Vals dvs ds) (hdd : Dfl (bd X) dds dvs)
    (hdb : (x == ("__debug__" : Str)) = false := by decide) : QE X W (.Call (.Name x p) [] [] pos) (eCall sp dds aNil) := by
  refine ⟨fun pins s σ H Q I ⟨Fh, τ, G, QT', ET, P, q⟩ => ?_⟩
  refine wpAny_Call_Name_kw (ld_glob I hg hm ?_ hdb)
  have q1 : LSp (bd X) sp dvs H Q (fun c d H' => W c d σ H') := P.lsp (hdd Fh G H) q
  obtain ⟨F', zs, G', QT2, ET2, rz, wz, hz, _⟩ := id q1
  refine PySem.W.callWith_K0 I.kIn hk (run_g (args := ⟨[], []⟩) F cn hr (hb s [] I.kIn ?_) I hd q1)
  rw [List.nil_append, ← hd.length, rz.length]
  exact F.len _ _ _ _ hz
/-- o.m(..) -/
def eMeth (C : Addr) (m : Str) (sp : SpT) (dds : List D) (to : E1) (t : A1) : E1 := fun τ G Q E => to τ G (fun x G1 => match vI G1 x with
  | some (C', fs) => C' = C ∧ getK fs m = none ∧ t τ G1 (fun ds G2 => sp (x :: (ds ++ dds)) G2 Q E) E
  | none => False) E
theorem lookup_valV {κ : Type} [DecidableEq κ] [BEq κ] [LawfulBEq κ] (k : κ) : ∀ fs : List (κ × V), fs.lookup k = valV fs k
  | [] => rfl
  | (g, v) :: r => by
    rw [List.lookup_cons]
    by_cases h : g = k
    · rw [valV_pos (p := (g, v)) h, h]; simp
    · rw [valV_neg (p := (g, v)) h, ← lookup_valV k r]
      have : (k == g) = false := beq_eq_false_iff_ne.mpr (Ne.symm h)
      rw [this]
theorem qe_meth {pl : Sem Bool} (he : QE X W o ta) (c : Cls X.K C) (hm : Meth X.K C m f) (F : FnG X.prog X.w X.K X.mg X.base k f fd ps sp) (cn : Cn X W) (hr : Room k X.A) (hb : Binds X.K fd ps ds) (hd : Vals dvs ds) (hdd : Dfl (bd X) dds dvs) (ha : QA X W (e :: es) t)
    (hst : starEach (e :: es) X.env = (false, eval e X.env) :: starEach es X.env := by rfl) (hpl : (backTo pos (starEach es X.env)).any (·.1) = false := by rfl)
    (ht : eval (.Call (.Attribute o m apos) (e :: es) [] pos) X.env = (do
      let ov ← eval o X.env
      standAt apos.atName
      let (g, first) ← holding [ov] (getMethod ov m pl)
      callWith pos g first (backTo pos (starEach (e :: es) X.env)) (backToKw pos (keywordEach [] X.env))) := by rfl) :
    QE X W (.Call (.Attribute o m apos) (e :: es) [] pos) (eMeth C m sp dds ta t) := by
  refine ⟨fun pins s σ H Q I ⟨Fh, τ, G, QT', ET, P, q⟩ => ?_⟩
  refine PySem.W.methodCall_KW (pl := pl) (thn (he.run pins s σ H (fun v H1 => ∃ a dx fs, v = .ref a ∧ H1 a = some (.ins C dx fs) ∧ fs.lookup m = none ∧ LA (bd X) W t σ H1 (fun vs H2 => LSp (bd X) sp (v :: (vs ++ dvs)) H2 Q (fun c d H' => W c d σ H'))) I ?_) fun u s1 ⟨x, H1, I1, rx, a, dx, fs, ex, ea, l, q⟩ => ?_) ht
  · refine LE.bind (PT := P) (k := fun x τ G1 Q E => match vI G1 x with
      | some (C', fs) => C' = C ∧ getK fs m = none ∧ t τ G1 (fun ds G2 => sp (x :: (ds ++ dds)) G2 Q E) E
      | none => False) q fun v x G1 H1 p1 r1 s1 q1 => ?_
    split at q1
    · rename_i C' fs ei
      obtain ⟨rfl, q2, q3⟩ := q1
      obtain ⟨a, dx, vs, rfl, h1, h2⟩ := vI_ok p1.wd r1 ei
      refine ⟨a, dx, vs, rfl, h1, (lookup_valV m vs).trans (h2.none q2), ?_⟩
      exact LA.bind (P := p1) (k := fun ds G2 Q E => sp (x :: (ds ++ dds)) G2 Q E) q3 fun vs ds G2 H2 p2 r2 s2 q4 => p2.lsp (RpL.cons (r1.step p1.wd s2) (r2.append (hdd Fh G2 H2))) q4
    · exact q1.elim
  · subst ex
    obtain rfl : u = Value.ref a := rx
    refine getmeth_ok I1 ea c hm l ?_
    refine PySem.W.callWith_K (first := [.ref a]) (h₀ := X.base) I.ok.mod.kin hm.kp (thn (ha.run pos pins s1 σ H1 _ I1 q) fun us s2 ⟨vs, H2, I2, r, q2⟩ => ⟨I2.kIn, ?_⟩) hst hpl
    have r2 : Vals (.ref a :: (vs ++ dvs)) (.ref a :: (us ++ ds)) := .cons rfl (r.append hd)
    obtain ⟨F', zs, G', QT2, ET2, rz, wz, hz, _⟩ := id q2
    refine run_g (args := ⟨.ref a :: us, []⟩) F cn hr (hb s2 (.ref a :: us) I2.kIn ?_) I2 r2 q2
    have e1 := r2.length
    rw [rz.length, F.len _ _ _ _ hz] at e1
    exact e1.symm
theorem qe_meth0 {pl : Sem Bool} (he : QE X W o ta) (c : Cls X.K C) (hm : Meth X.K C m f) (F : FnG X.prog X.w X.K X.mg X.base k f fd ps sp) (cn : Cn X W) (hr : Room k X.A) (hb : Binds X.K fd ps ds) (hd : Vals dvs ds) (hdd : Dfl (bd X) dds dvs)
    (ht : eval (.Call (.Attribute o m apos) [] [] pos) X.env = (do
      let ov ← eval o X.env
      standAt apos.atName
      let (g, first) ← holding [ov] (getMethod ov m pl)
      callWith pos g first (backTo pos (starEach [] X.env)) (backToKw pos (keywordEach [] X.env))) := by rfl) :
    QE X W (.Call (.Attribute o m apos) [] [] pos) (eMeth C m sp dds ta aNil) := by
  refine ⟨fun pins s σ H Q I ⟨Fh, τ, G, QT', ET, P, q⟩ => ?_⟩
  refine PySem.W.methodCall_KW (pl := pl) (thn (he.run pins s σ H (fun v H1 => ∃ a dx fs, v = .ref a ∧ H1 a = some (.ins C dx fs) ∧ fs.lookup m = none ∧ LSp (bd X) sp (v :: dvs) H1 Q (fun c d H' => W c d σ H')) I ?_) fun u s1 ⟨x, H1, I1, rx, a, dx, fs, ex, ea, l, q2⟩ => ?_) ht
  · refine LE.bind (PT := P) (k := fun x τ G1 Q E => match vI G1 x with
      | some (C', fs) => C' = C ∧ getK fs m = none ∧ aNil τ G1 (fun ds G2 => sp (x :: (ds ++ dds)) G2 Q E) E
      | none => False) q fun v x G1 H1 p1 r1 s1 q1 => ?_
    split at q1
    · rename_i C' fs ei
      obtain ⟨rfl, q2, q3⟩ := q1
      obtain ⟨a, dx, vs, rfl, h1, h2⟩ := vI_ok p1.wd r1 ei
      exact ⟨a, dx, vs, rfl, h1, (lookup_valV m vs).trans (h2.none q2), p1.lsp (RpL.cons r1 (hdd Fh G1 H1)) q3⟩
    · exact q1.elim
  · subst ex
    obtain rfl : u = Value.ref a := rx
    refine getmeth_ok I1 ea c hm l ?_
    have r2 : Vals (.ref a :: dvs) (.ref a :: ds) := .cons rfl hd
    obtain ⟨F', zs, G', QT2, ET2, rz, wz, hz, _⟩ := id q2
    refine PySem.W.callWith_K0 (first := [.ref a]) I1.kIn hm.kp (run_g (args := ⟨[.ref a], []⟩) F cn hr (hb s1 [.ref a] I1.kIn ?_) I1 r2 q2)
    have e1 := r2.length
    rw [rz.length, F.len _ _ _ _ hz] at e1
    exact e1.symm
end
end TL
end
section
/-! TL5b: instances made, fields, freezing, a def's body, the law's end. -/
namespace TL
open PySem PySem.Spec L2

/-! ### C(..) -/
def eMake (C : Addr) (sp : SpT) (dds : List D) (t : A1) : E1 := fun τ G Q E => t τ G (fun ds G1 => ∀ p, G1 p = none → sp (.ref p :: (ds ++ dds)) (gup G1 p (.ins C [])) (fun d G2 => d = .non ∧ Q (.ref p) G2) E) E
section
variable {X : Cx} {W : WX} {k : Nat} {f C : Addr} {fd : FuncData} {ps : List Str} {sp : SpT} {dvs : List V} {dds : List D} {ds : List Value} {x m : Str} {p pos apos : Pos} {e o : Expr} {es : List Expr} {ta : E1} {t : A1}
theorem made_cell {B : Bd} {G : GH} {H : Hp} {x dx C : Addr} (w : Wd B G H) (hx : H x = none) (hdx : H dx = none) (ne : dx ≠ x) :
    Wd B (gup G x (.ins C [])) (upd (upd H dx (.own x)) x (.ins C dx [])) ∧ Stp G H (gup G x (.ins C [])) (upd (upd H dx (.own x)) x (.ins C dx [])) := by
  have w1 : Wd B G (upd H dx (.own x)) := w.fresh hdx
  have s1 : Stp G H G (upd H dx (.own x)) := Stp.fresh hdx
  have hx1 : upd H dx (.own x) x = none := by rw [upd_ne (Ne.symm ne)]; exact hx
  refine ⟨w1.cell hx1 ⟨dx, [], upd_same, by unfold RpF; rfl⟩, s1.trans (Stp.cell hx1)⟩
theorem run_makeG {pins : List (Addr × Obj)} {σ : L2.St} {H : Hp} {s : Shared} {Q : VK} {us : List Value} {kw : List (Str × Value)} {vs : List V} {zs : List Value} (M : Mk X.K C f) (F : FnG X.prog X.w X.K X.mg X.base k f fd ps sp) (cn : Cn X W) (hr : Room (k + 1) X.A)
    (hb : ∀ (s : Shared) (a : Addr), X.K.In s.heap → zs.length + 1 = ps.length → BindsTo s fd ⟨.ref a :: us, kw⟩ (ps.zip (.ref a :: zs))) (I : Inv X pins σ H s) (r : Vals vs zs)
    (h : ∀ x dx, H x = none → H dx = none → dx ≠ x → LSp (bd X) sp (.ref x :: vs) (upd (upd H dx (.own x)) x (.ins C dx [])) (fun v H2 => v = .non ∧ Q (.ref x) H2) (fun c d H' => W c d σ H')) :
    wpAny (model X.prog X.w) X.A (call (.ref C) us kw) (EP X pins σ Q) X.xe s := by
  have hq := h (s.heap.objs.size + 1) s.heap.objs.size (I.hok.fresh (Nat.le_succ _)) (I.hok.fresh (Nat.le_refl _)) (Nat.ne_of_lt (Nat.lt_succ_self _))
  have I2 := Inv.made (C := C) I
  have r2 : Vals (V.ref (s.heap.objs.size + 1) :: vs) (Value.ref (s.heap.objs.size + 1) :: zs) := .cons rfl r
  have hl : zs.length + 1 = ps.length := by
    obtain ⟨F', ts, G', QT2, ET2, rt, wt, ht, _⟩ := id hq
    have e1 := F.len _ _ _ _ ht
    have e2 := rt.length
    have e3 := r.length
    simp only [List.length_cons] at e2
    omega
  refine wpAny_call (make_map (f := f) I.kIn M.makes M.init (beq_iff_eq.mp M.fn) (codeAny_mono (F.run _ X.stack _ _ ⟨Value.ref (s.heap.objs.size + 1) :: us, kw⟩ (Value.ref (s.heap.objs.size + 1) :: zs) _ _ _ (hr.make C us kw) ?_
    (I2.env0.make C us kw) (hb _ _ I2.kIn hl) r2 hq) fun r s' hq' => ?_))
  · have := cn.grd
    show (X.A.under _).guards = some []
    simpa [Around.under, Code.guards, Code.isGuard, guardIds, pushGuards] using this
  cases r with
  | error e => exact passAt cn.tk σ pins _ _ e s' I2 hq'
  | ok fl =>
    cases fl with
    | ret u =>
      obtain ⟨v, H', I3, rv, ev, q3⟩ := I2.after hq'
      subst ev
      exact ⟨rv, ⟨V.ref (s.heap.objs.size + 1), H', I3, rfl, q3⟩⟩
    | next => exact False.elim hq'
    | brk => exact False.elim hq'
    | cont => exact False.elim hq'
theorem Pt.make {B : Bd} {F : Addr → Prop} {σ : L2.St} {H : Hp} {Q : VK} {τ : Sl} {G : GH} {QT' : KD} {ET : KX} (p : Pt (B.hide F) W σ H Q τ G QT' ET) {ds : List D} {vs : List V} (r : RpL (B.hide F) G H ds vs)
    (h : ∀ p, G p = none → sp (.ref p :: ds) (gup G p (.ins C [])) (fun d G2 => d = .non ∧ QT' (.ref p) G2) ET) :
    ∀ x dx, H x = none → H dx = none → dx ≠ x → LSp B sp (.ref x :: vs) (upd (upd H dx (.own x)) x (.ins C dx [])) (fun v H2 => v = .non ∧ Q (.ref x) H2) (fun c d H' => W c d σ H') := by
  intro x dx hx hdx ne
  obtain ⟨w1, s1⟩ := made_cell (C := C) p.wd hx hdx ne
  have p1 := p.next w1 s1
  refine ⟨F, .ref x :: ds, gup G x (.ins C []), _, ET, RpL.cons rp_ref (r.step p.wd s1), w1, h x (p.wd.none_of hx), fun v d G' H' rv wv sv q => ?_, p1.ex⟩
  obtain ⟨rfl, q⟩ := q
  exact ⟨rv.non_inv, p1.ok _ _ G' H' rp_ref wv sv q⟩
theorem qe_make (M : Mk X.K C f) (F : FnG X.prog X.w X.K X.mg X.base k f fd ps sp) (cn : Cn X W) (hr : Room (k + 1) X.A) (hg : Gl X x) (hm : X.mg x = some (.ref C)) (hb : Binds X.K fd ps ds) (hd : Vals dvs ds) (hdd : Dfl (bd X) dds dvs)
    (ha : QA X W (e :: es) t) (hdb : (x == ("__debug__" : Str)) = false := by decide) (he : starEach (e :: es) X.env = (false, eval e X.env) :: starEach es X.env := by rfl) (hpl : (backTo pos (starEach es X.env)).any (·.1) = false := by rfl) :
    QE X W (.Call (.Name x p) (e :: es) [] pos) (eMake C sp dds t) := by
  refine ⟨fun pins s σ H Q I ⟨Fh, τ, G, QT', ET, P, q⟩ => ?_⟩
  refine wpAny_Call_Name_kw (ld_glob I hg hm ?_ hdb)
  refine PySem.W.callWith_K (h₀ := X.base) I.ok.mod.kin M.kp (thn (ha.run pos pins s σ H _ I (LA.bind (P := P) (k := fun ds G1 Q E => ∀ p, G1 p = none → sp (.ref p :: (ds ++ dds)) (gup G1 p (.ins C [])) (fun d G2 => d = .non ∧ Q (.ref p) G2) E)
    (QH := fun vs H1 => ∀ x dx, H1 x = none → H1 dx = none → dx ≠ x → LSp (bd X) sp (.ref x :: (vs ++ dvs)) (upd (upd H1 dx (.own x)) x (.ins C dx [])) (fun v H2 => v = .non ∧ Q (.ref x) H2) (fun c d H' => W c d σ H')) q fun vs ds G1 H1 p1 r s1 q1 => p1.make (r.append (hdd Fh G1 H1)) q1)) fun us s1 ⟨vs, H1, I1, r, q1⟩ => ⟨I1.kIn, ?_⟩) he hpl
  exact run_makeG (us := us) (kw := []) (zs := us ++ ds) M F cn hr (fun s' a X' hl => hb s' (.ref a :: us) X' hl) I1 (r.append hd) q1
theorem qe_make0 (M : Mk X.K C f) (F : FnG X.prog X.w X.K X.mg X.base k f fd ps sp) (cn : Cn X W) (hr : Room (k + 1) X.A) (hg : Gl X x) (hm : X.mg x = some (.ref C)) (hb : Binds X.K fd ps ds) (hd : Vals dvs ds) (hdd : Dfl (bd X) dds dvs)
    (hdb : (x == ("__debug__" : Str)) = false := by decide) : QE X W (.Call (.Name x p) [] [] pos) (eMake C sp dds aNil) := by
  refine ⟨fun pins s σ H Q I ⟨Fh, τ, G, QT', ET, P, q⟩ => ?_⟩
  refine wpAny_Call_Name_kw (ld_glob I hg hm ?_ hdb)
  refine PySem.W.callWith_K0 I.kIn M.kp ?_
  exact run_makeG (us := []) (kw := []) (zs := ds) M F cn hr (fun s' a X' hl => hb s' [.ref a] X' hl) I hd (P.make (hdd Fh G H) q)

/-! ### fields -/
def eFld (C : Addr) (f : Str) (ta : E1) : E1 := fun τ G Q E => ta τ G (fun x G1 => match vI G1 x with
  | some (C', fs) => C' = C ∧ (match getK fs f with
    | some d => Q d G1
    | none => False)
  | none => False) E
theorem qe_fld {f : Str} (cl : Cls X.K C) (na : NoAttr X.K C f) (he : QE X W e ta) (hb : attributeBase e f X.env (eval e X.env) = eval e X.env := by rfl) : QE X W (.Attribute e f pos) (eFld C f ta) := PE.imp (pe_fld he hb) fun σ H Q ⟨Fh, τ, G, QT', ET, P, q⟩ => by
  refine LE.bind (PT := P) (k := fun x τ G1 Q E => match vI G1 x with
    | some (C', fs) => C' = C ∧ (match getK fs f with
      | some d => Q d G1
      | none => False)
    | none => False) q fun v x G1 H1 p1 r1 s1 q1 => ?_
  split at q1
  · rename_i C' fs ei
    obtain ⟨rfl, q2⟩ := q1
    obtain ⟨a, dx, vs, rfl, h1, h2⟩ := vI_ok p1.wd r1 ei
    split at q2
    · rename_i d ed
      obtain ⟨v, e1, rv⟩ := h2.some ed
      exact ⟨a, C', dx, vs, v, rfl, h1, cl, na, (lookup_valV f vs).trans e1, p1.ok _ _ G1 H1 rv p1.wd Stp.refl q2⟩
    · exact q2.elim
  · exact q1.elim
def putFD (f : Str) (v : D) : List (Str × D) → List (Str × D)
  | [] => [(f, v)]
  | (g, x) :: r => if g = f then (g, v) :: r else (g, x) :: putFD f v r
theorem RpG.putF {B : Bd} {G : GH} {H : Hp} {f : Str} {d : D} {v : V} (r : Rp B G H d v) : ∀ {ds : List (Str × D)} {vs : List (Str × V)}, RpG B G H ds vs → RpG B G H (putFD f d ds) (L2.putF f v vs) := by
  intro ds vs h
  unfold RpG at h ⊢
  induction h with
  | nil => exact .cons ⟨rfl, r⟩ .nil
  | @cons p q ps qs h t ih =>
    obtain ⟨k, x⟩ := p
    obtain ⟨k', y⟩ := q
    obtain ⟨e, h⟩ := h
    dsimp only at e h
    subst e
    unfold putFD L2.putF
    by_cases z : k = f
    · rw [if_pos z, if_pos z]; exact .cons ⟨rfl, r⟩ t
    · rw [if_neg z, if_neg z]; exact .cons ⟨rfl, h⟩ ih
def sFldT (C : Addr) (f : Str) (ta tv : E1) : S1 := fun D E τ G => tv τ G (fun y G1 => ta τ G1 (fun x G2 => match x with
  | .ref p => (match G2 p with
    | some (.ins C' fs) => C' = C ∧ fs.length < 1000 ∧ D.nx τ (gup G2 p (.ins C (putFD f y fs)))
    | _ => False)
  | _ => False) (fun c f g => E c f τ g)) (fun c f g => E c f τ g)
/-- a cell is written -/
theorem PtS.putc {B : Bd} {D' : Ends} {σ : L2.St} {H : Hp} {DT : En} {KT : KS} {τ : Sl} {G : GH} {p : Addr} {c c' : Cl} {o : HO} (P : PtS B W D' σ H DT KT τ G) (h : G p = some c) (nf : ∀ o u, H p ≠ some (.frz o u)) (n : RpC B (gup G p c') (upd H p o) p c') (q : DT.nx τ (gup G p c')) : D'.nx σ (upd H p o) :=
  P.nx σ τ (gup G p c') (upd H p o) (P.sl.step P.wd (Stp.put h nf)) (P.wd.put h nf n) (Stp.put h nf) q
theorem qs_fld {f : Str} {value : Expr} {tv : E1} {pos' : Pos} (cl : Cls X.K C) (na : NoAttr X.K C f) (ha : QE X W o ta) (hv : QE X W value tv) (hs : swapsWith value (some (.Attribute o f pos')) pos.line X.env = pure false := by rfl) :
    QS X W (.Assign [.Attribute o f pos'] value pos) (sFldT C f ta tv) := PS.imp (ps_fld ha hv hs) fun D' σ H ⟨Fh, τ, G, DT, KT, P, q⟩ => by
  refine LE.inS P (k := fun y τ G1 => ta τ G1 (fun x G2 => match x with
    | .ref p => (match G2 p with
      | some (.ins C' fs) => C' = C ∧ fs.length < 1000 ∧ DT.nx τ (gup G2 p (.ins C (putFD f y fs)))
      | _ => False)
    | _ => False) (fun c f g => KT c f τ g)) q fun v y G1 H1 p1 r1 s1 q1 => ?_
  refine LE.inS p1 (k := fun x τ G2 => match x with
    | .ref p => (match G2 p with
      | some (.ins C' fs) => C' = C ∧ fs.length < 1000 ∧ DT.nx τ (gup G2 p (.ins C (putFD f y fs)))
      | _ => False)
    | _ => False) q1 fun u x G2 H2 p2 r2 s2 q2 => ?_
  split at q2
  · rename_i p
    split at q2
    · rename_i C' fs eg
      obtain ⟨rfl, hl, q3⟩ := q2
      obtain ⟨dx, vs, h1, h2⟩ := p2.wd.cl p _ eg
      have h2' := RpG.f.mp h2
      refine ⟨p, C', dx, vs, r2.ref_inv, h1, cl, na, by rw [h2'.length]; exact hl, ?_⟩
      have st := Stp.put (H := H2) (o := .ins C' dx (L2.putF f v vs)) (c' := .ins C' (putFD f y fs)) eg (nf_of h1)
      refine p2.putc (c' := .ins C' (putFD f y fs)) eg (nf_of h1) ⟨dx, L2.putF f v vs, upd_same, RpG.f.mpr (RpG.putF ((r1.step p1.wd s2).step p2.wd st) (h2'.mono p2.wd st))⟩ q3
    · exact q2.elim
  · exact q2.elim

/-! ### a cell becomes a tree -/
def frz (G : GH) (d : D) : Option (D × GH) := match d with
  | .ref p => (match G p with
    | some (.lst xs) => some (.lst xs, gdel G p)
    | some (.dK xs) => some (.dK xs, gdel G p)
    | some (.dT xs) => some (.dT xs, gdel G p)
    | some (.ins C xs) => some (.ins C xs, gdel G p)
    | some (.sK xs) => some (.sK xs, gdel G p)
    | _ => none)
  | _ => none
/-- a cell goes, its object is locked -/
theorem Stp.lockC {G : GH} {H : Hp} {p : Addr} {c : Cl} {u : HO} {od : Obj} (g : G p = some c) (h : H p = some u) (n : ∀ o v, u ≠ .frz o v) : Stp G H (gdel G p) (upd H p (.frz od u)) :=
  ⟨fun a o e q => by
    have z : a ≠ p := fun z => by rw [z, g] at q; cases q
    rw [upd_ne z]; exact e, fun a o v e => by
    have z : a ≠ p := fun z => by rw [z, h] at e; cases e; exact n o v rfl
    rw [upd_ne z]; exact e, fun a e => by
    by_cases z : a = p
    · rw [z, gdel_same] at e; exact absurd rfl e
    · rw [gdel_ne z] at e; exact .inl e⟩
theorem Wd.lockC {B : Bd} {G : GH} {H : Hp} (w : Wd B G H) {p : Addr} {c : Cl} {u : HO} {od : Obj} (g : G p = some c) (h : H p = some u) (n : ∀ o v, u ≠ .frz o v) : Wd B (gdel G p) (upd H p (.frz od u)) := by
  refine ⟨fun a c' e => ?_, fun a f => ?_⟩
  · have z : a ≠ p := fun z => by rw [z, gdel_same] at e; cases e
    rw [gdel_ne z] at e
    exact (w.cl a c' e).step w (Stp.lockC g h n) fun v q => by rw [upd_ne z]; exact q
  · have z : a ≠ p := fun z => w.nf g (by rw [← z]; exact f)
    obtain ⟨g', v, q⟩ := w.hd a f
    exact ⟨by rw [gdel_ne z]; exact g', v, by rw [upd_ne z]; exact q⟩
theorem frz_ok {B : Bd} {G G' : GH} {H : Hp} {d d' : D} {v : V} (w : Wd B G H) (r : Rp B G H d v) (h : frz G d = some (d', G')) :
    (Rp B G' H d' v ∧ Wd B G' H ∧ Stp G H G' H) ∨ ∃ p u, v = .ref p ∧ H p = some u ∧ Mut (some u) ∧ ∀ od, Rp B G' (upd H p (.frz od u)) d' v ∧ Wd B G' (upd H p (.frz od u)) ∧ Stp G H G' (upd H p (.frz od u)) := by
  cases d with
  | ref p =>
    unfold frz at h
    dsimp only at h
    have e := r.ref_inv
    subst e
    have st : Stp G H (gdel G p) H := Stp.del
    cases g : G p with
    | none => rw [g] at h; cases h
    | some c =>
      rw [g] at h
      have x := w.cl p c g
      cases c with
      | lst xs =>
        cases h
        obtain ⟨vs, h1, h2⟩ := x
        refine .inl ⟨?_, w.del, st⟩
        unfold Rp
        exact ⟨p, vs, rfl, ⟨h1, w.of_del g⟩, h2.step w st⟩
      | dK xs =>
        cases h
        obtain ⟨vs, h1, h2⟩ := x
        refine .inr ⟨p, _, rfl, h1, trivial, fun od => ⟨?_, w.lockC g h1 (fun _ _ => nofun), Stp.lockC g h1 (fun _ _ => nofun)⟩⟩
        unfold Rp
        exact ⟨p, od, vs, rfl, ⟨upd_same, w.of_del g⟩, h2.step w (Stp.lockC g h1 (fun _ _ => nofun))⟩
      | dT xs =>
        cases h
        obtain ⟨vs, h1, h2⟩ := x
        refine .inr ⟨p, _, rfl, h1, trivial, fun od => ⟨?_, w.lockC g h1 (fun _ _ => nofun), Stp.lockC g h1 (fun _ _ => nofun)⟩⟩
        unfold Rp
        exact ⟨p, od, vs, rfl, ⟨upd_same, w.of_del g⟩, h2.step w (Stp.lockC g h1 (fun _ _ => nofun))⟩
      | ins C xs =>
        cases h
        obtain ⟨dx, vs, h1, h2⟩ := x
        refine .inl ⟨?_, w.del, st⟩
        unfold Rp
        exact ⟨p, dx, vs, rfl, ⟨h1, w.of_del g⟩, h2.step w st⟩
      | sK xs =>
        cases h
        refine .inl ⟨?_, w.del, st⟩
        unfold Rp
        exact ⟨p, rfl, x, w.of_del g⟩
      | _ => cases h
  | _ => cases h
def tPost (t : TE) : TE := fun σ H Q => t σ H fun v H1 => Q v H1 ∨ ∃ d u, v = .ref d ∧ H1 d = some u ∧ Mut (some u) ∧ ∀ od, Q v (upd H1 d (.frz od u))
theorem pe_post {t : TE} (h : PE X e t) : PE X e (tPost t) := ⟨fun pins s σ H Q I hw => wpAny_mono (h.run pins s σ H _ I hw) (fun v s' ⟨x, H1, I1, r, q⟩ => by
  rcases q with q | ⟨d, u, ex, hd, mu, q⟩
  · exact ⟨x, H1, I1, r, q⟩
  · obtain ⟨od, I2⟩ := I1.lock hd mu
    exact ⟨x, _, I2, r, q od⟩) fun _ _ h => h⟩
def tPre (t : TS) : TS := fun D σ H => t D σ H ∨ ∃ d u, H d = some u ∧ Mut (some u) ∧ ∀ od, t D σ (upd H d (.frz od u))
theorem pss_pre {r : List Stmt} {t : TS} (h : PSs X r t) : PSs X r (tPre t) := ⟨fun pins s σ H D' I hw => by
  rcases hw with q | ⟨d, u, hd, mu, q⟩
  · exact h.run pins s σ H D' I q
  · obtain ⟨od, I2⟩ := I.lock hd mu
    exact h.run pins s σ _ D' I2 (q od)⟩
/-- the value becomes a tree (a cell that stays one: leave it out) -/
def eFrz (t : E1) : E1 := fun τ G Q E => t τ G (fun d G1 => match frz G1 d with
  | some (d', G') => Q d' G'
  | none => Q d G1) E
theorem qe_frz (he : QE X W e ta) : QE X W e (eFrz ta) := PE.imp (pe_post he) fun σ H Q ⟨Fh, τ, G, QT', ET, P, q⟩ => by
  refine LE.bind (PT := P) (k := fun d τ G1 Q E => match frz G1 d with
    | some (d', G') => Q d' G'
    | none => Q d G1) q fun v d G1 H1 p1 r1 s1 q1 => ?_
  split at q1
  · rename_i d' G' ef
    rcases frz_ok p1.wd r1 ef with ⟨h1, h2, h3⟩ | ⟨p, u, ev, hp, mu, h⟩
    · exact .inl (p1.ok _ _ G' H1 h1 h2 h3 q1)
    · exact .inr ⟨p, u, ev, hp, mu, fun od => p1.ok _ _ G' _ (h od).1 (h od).2.1 (h od).2.2 q1⟩
  · exact .inl (p1.ok _ _ G1 H1 r1 p1.wd Stp.refl q1)
/-- the slot i becomes a tree, ahead of the rest -/
def sFrz (i : Nat) (u : S1) : S1 := fun D E τ G => match τ[i]? with
  | some (some d) => (match frz G d with
    | some (d', G') => u D E (τ.set i (some d')) G'
    | none => u D E τ G)
  | _ => u D E τ G
theorem qss_frz {i : Nat} {r : List Stmt} {u : S1} (h : QSs X W r u) : QSs X W r (sFrz i u) := PSs.imp (pss_pre h) fun D' σ H ⟨Fh, τ, G, DT, KT, P, q⟩ => by
  unfold sFrz at q
  split at q
  · rename_i d ed
    split at q
    · rename_i d' G' ef
      obtain ⟨v, e1, r1⟩ := P.sl.2 i d ed
      rcases frz_ok P.wd r1 ef with ⟨h1, h2, h3⟩ | ⟨p, u', ev, hp, mu, h⟩
      · exact .inl ⟨Fh, τ.set i (some d'), G', DT, KT, P.next ((P.sl.step P.wd h3).as_ e1 h1) h2 h3, q⟩
      · exact .inr ⟨p, u', hp, mu, fun od => ⟨Fh, τ.set i (some d'), G', DT, KT, P.next ((P.sl.step P.wd (h od).2.2).as_ e1 (h od).1) (h od).2.1 (h od).2.2, q⟩⟩
    · exact .inl ⟨Fh, τ, G, DT, KT, P, q⟩
  · exact .inl ⟨Fh, τ, G, DT, KT, P, q⟩
end

/-! ### a def's body -/
def startT (N : List Str) (ds : List D) : Sl := ds.map some ++ List.replicate (N.length - ds.length) none
theorem rpS_start {B : Bd} {G : GH} {H : Hp} {N : List Str} {ds : List D} {vs : List V} (r : RpL B G H ds vs) : RpS B G H (L2.start N vs) (startT N ds) := by
  unfold L2.start startT
  refine ⟨by simp [r.length], fun i d e => ?_⟩
  rw [List.getElem?_append] at e
  split at e
  · rename_i hi
    rw [List.length_map] at hi
    rw [List.getElem?_map] at e
    cases q : ds[i]? with
    | none => rw [q] at e; cases e
    | some x =>
      rw [q] at e
      have ex : x = d := by simpa using e
      subst ex
      obtain ⟨v, h1, h2⟩ := r.get q
      refine ⟨v, ?_, h2⟩
      rw [List.getElem?_append_left (by rw [List.length_map, r.length]; exact hi), List.getElem?_map, h1]
      rfl
  · exfalso
    rw [List.getElem?_replicate] at e
    split at e <;> cases e
/-- THE RULE of a def: its body's reading t keeps the promise sp -/
theorem okG {P : Program} {w : World} {K : PySem.W.Frag} {mg : Str → Option Value} {base : Heap} {x qual : Str} {params : Arguments} {body : List Stmt} {scope : Scope} {dvs : List V} {kws : List (Str × V)} {f : Addr} {fd : FuncData} {N ps : List Str} {k : Nat} {sp : SpT} {t : S1}
    (F : FunD K x qual params body scope dvs kws f fd) (S : FnScope N ps scope) (len : ∀ ds G Q E, sp ds G Q E → ds.length = ps.length)
    (hbody : ∀ (cdv : Value) (A : Around) (outer : List Env) (s : Shared) (H : Hp) (E : XK), Room k (A.deeper (PyProof.Rows.envOfC qual scope s.heap.objs.size f cdv)) →
      Cn (cxOf (L2.CX P w) P w K mg base N qual scope f cdv A outer s H E) (fun c d _ H => E c d H) → QSs (cxOf (L2.CX P w) P w K mg base N qual scope f cdv A outer s H E) (fun c d _ H => E c d H) body t)
    (ht : ∀ ds G Q E, sp ds G Q E → t { nx := fun _ G' => Q .non G', rt := Q } (fun c f _ g => E c f g) (startT N ds) G) : FnG P w K mg base (k + 1) f fd ps sp := by
  refine ⟨len, fun A outer s H args us vs Q E hr hgd e0 hb hv hl => ?_⟩
  obtain ⟨oc, od, dV, kV, doc, pm, an, cdv, ct, osl, rfl, lk, hcd, _, _⟩ := F.ex
  obtain ⟨F', ds, G, QT, ET, rds, wds, hsp, hQ, hE⟩ := hl
  have lv : vs.length = ps.length := rds.length.trans (len ds G QT ET hsp)
  have inS : ∀ b o, base.get? b = some o → s.heap.get? b = some o := fun b o q => (e0.bs b o q).1
  have kin := e0.mod.kin.keeps inS
  have nl := e0.mod.nolimit.keeps inS
  have kd : ∀ q ∈ ps.zip us, scope.names.lookup q.1 = some .local ∨ (scope.names.lookup q.1 = some .cell ∧ ((PySem.cellsFrom (s.heap.objs.size + 1) scope.names []).lookup q.1).isSome = true) := by
    rintro ⟨n, v⟩ hq
    cases S.par n (List.of_mem_zip hq).1 with
    | inl z => exact .inl z
    | inr z => exact .inr ⟨z, PySem.W.cellsFrom_some _ _ _ (.inl z)⟩
  refine codeAny_call_function hr.depth (kin _ _ lk) rfl S.co S.gen rfl (PySem.W.codeRec_of kin hcd)
    (hb _ _ _ _ (wpAny_newFunctionEnv_cells S.kind kd fun env he s1 ic => ?_))
  subst he
  have I0 : Inv (cxOf (L2.CX P w) P w K mg base N qual scope f cdv A outer s H E) [] (L2.start N vs) H s1 := inv_start S hr.hd e0 lv hv ic
  have cn : Cn (cxOf (L2.CX P w) P w K mg base N qual scope f cdv A outer s H E) (fun c d _ H => E c d H) := ⟨hgd, takes_of rfl rfl rfl rfl⟩
  have body_ := (hbody cdv A outer s H E (hr.deeper _) cn).run [] s1 (L2.start N vs) H { nx := fun _ H' => Q .non H', rt := Q } I0
    ⟨F', startT N ds, G, { nx := fun _ G' => QT .non G', rt := QT }, (fun c f _ g => ET c f g), ⟨rpS_start rds, wds, fun σ' τ' G' H' _ w' s' q => hQ .non .non G' H' rp_non w' s' q, hQ, fun _ _ _ _ _ _ _ q => q.elim, fun _ _ _ _ _ _ _ q => q.elim, fun c d fs σ' τ' G' H' _ rx w' s' q => hE c d fs G' H' rx w' s' q⟩, ht ds G QT ET hsp⟩
  refine ⟨nl.keeps ic.toInCall.keep, codeAny_func (wpAny_mono body_ (fun fl s' hs => ?_) fun e s' hs => hs)⟩
  have fin : ∀ {σ' : L2.St} {H' : Hp} {v : V} {u : Value}, Inv (cxOf (L2.CX P w) P w K mg base N qual scope f cdv A outer s H E) [] σ' H' s' → RelV v u → Q v H' → CE outer P w H s Q u s' := by
    intro σ' H' v u J rv q
    exact ⟨v, H', J.os, J.bare, J.base, J.hok, rv, q⟩
  match fl, hs with
  | .ret u, ⟨v, σ', H', J, rv, q⟩ => exact fin J rv q
  | .next, ⟨σ', H', J, q⟩ => exact fin (v := V.non) (u := Value.none) J rfl q
  | .brk, ⟨_, _, _, q⟩ => exact q.elim
  | .cont, ⟨_, _, _, q⟩ => exact q.elim
end TL
end
section
/-! TL6: targets, what a loop walks, for, while, list comprehensions. -/
namespace TL
open PySem PySem.Spec L2

/-! ### targets that are names -/
mutual
inductive TgN where
  | nm (i : Nat)
  | tp (l : TgL)
inductive TgL where
  | nil
  | cons (t : TgN) (r : TgL)
end
def TgL.len : TgL → Nat
  | .nil => 0
  | .cons _ r => r.len + 1
mutual
def gV (K : PySem.W.Frag) : TgN → TG
  | .nm i => gName i
  | .tp l => fun v σ H R => gTup K l.len (gsV K l) v σ H R ∨ gLst K l.len (gsV K l) v σ H R
def gsV (K : PySem.W.Frag) : TgL → TGs
  | .nil => gNil
  | .cons t r => gCons (gV K t) (gsV K r)
end
mutual
def gT : TgN → D → Sl → GH → Option Sl
  | .nm i, d, τ, _ => some (τ.set i (some d))
  | .tp l, d, τ, G => match vQ G d with
    | some xs => if xs.length = l.len then gsT l xs τ G else none
    | none => none
def gsT : TgL → List D → Sl → GH → Option Sl
  | .nil, _, τ, _ => some τ
  | .cons _ _, [], _, _ => none
  | .cons t r, x :: xs, τ, G => match gT t x τ G with
    | some τ1 => gsT r xs τ1 G
    | none => none
end
mutual
def TgN.ins (vs : List Nat) : TgN → Prop
  | .nm i => i ∈ vs
  | .tp l => l.ins vs
def TgL.ins (vs : List Nat) : TgL → Prop
  | .nil => True
  | .cons t r => t.ins vs ∧ r.ins vs
end
theorem wipe_at {σ : L2.St} {i j : Nat} : ∀ {vs : List Nat}, (wipe σ vs)[j]? = if j ∈ vs then (if j < σ.length then some none else none) else σ[j]?
  | [] => by simp [wipe]
  | v :: vs => by
    unfold wipe
    by_cases z : j = v
    · subst z
      rw [List.getElem?_set, if_pos rfl, wipe_length]
      simp
    · rw [List.getElem?_set_ne (Ne.symm z), wipe_at (i := i)]
      simp [z]
theorem wipe_set {σ : L2.St} {i : Nat} {x : Option V} {vs : List Nat} (h : i ∈ vs) : wipe (σ.set i x) vs = wipe σ vs := by
  apply List.ext_getElem?
  intro j
  rw [wipe_at (i := 0), wipe_at (i := 0), List.length_set]
  by_cases z : j ∈ vs
  · rw [if_pos z, if_pos z]
  · rw [if_neg z, if_neg z, List.getElem?_set_ne (fun e : i = j => z (by rw [← e]; exact h))]
section
variable {B : Bd} {G : GH} {H : Hp}
mutual
theorem gT_ok (w : Wd B G H) : ∀ {t : TgN} {d : D} {τ τ' : Sl} {v : V} {σ : L2.St} {R : L2.St → Hp → Prop}, gT t d τ G = some τ' → Rp B G H d v → RpS B G H σ τ → (∀ σ', RpS B G H σ' τ' → (∀ ws, t.ins ws → wipe σ' ws = wipe σ ws) → R σ' H) → gV B.K t v σ H R
  | .nm i, d, τ, τ', v, σ, R, e, r, s, k => by
    unfold gT at e; cases e
    unfold gV
    exact k _ (s.set r) fun ws h => wipe_set (by simpa [TgN.ins] using h)
  | .tp l, d, τ, τ', v, σ, R, e, r, s, k => by
    unfold gT at e
    split at e
    · rename_i xs ex
      split at e
      · rename_i hl
        obtain ⟨a, vs, rfl, h, q⟩ := vQ_ok w r ex
        have hl' : vs.length = l.len := q.length.trans hl
        have k' : ∀ σ', RpS B G H σ' τ' → (∀ ws, l.ins ws → wipe σ' ws = wipe σ ws) → R σ' H := fun σ' s' f => k σ' s' fun ws h => f ws (by simpa [TgN.ins] using h)
        unfold gV
        rcases h with h | h
        · exact .inr ⟨a, vs, rfl, h, hl', gsT_ok w e q s k' hl⟩
        · exact .inl ⟨a, vs, rfl, h, hl', gsT_ok w e q s k' hl⟩
      · cases e
    · cases e
theorem gsT_ok (w : Wd B G H) : ∀ {t : TgL} {ds : List D} {τ τ' : Sl} {vs : List V} {σ : L2.St} {R : L2.St → Hp → Prop}, gsT t ds τ G = some τ' → RpL B G H ds vs → RpS B G H σ τ → (∀ σ', RpS B G H σ' τ' → (∀ ws, t.ins ws → wipe σ' ws = wipe σ ws) → R σ' H) → (ds.length = t.len → gsV B.K t vs σ H R)
  | .nil, ds, τ, τ', vs, σ, R, e, r, s, k => fun hl => by
    unfold gsT at e; cases e
    cases ds with
    | nil => exact ⟨r.nil_inv, k σ s fun _ _ => rfl⟩
    | cons d ds => cases hl
  | .cons t r, [], τ, τ', vs, σ, R, e, _, s, k => fun hl => by unfold gsT at e; cases e
  | .cons t r, x :: xs, τ, τ', vs, σ, R, e, rr, s, k => fun hl => by
    unfold gsT at e
    split at e
    · rename_i τ1 e1
      obtain ⟨v, us, rfl, h, q⟩ := rr.uncons
      exact ⟨v, us, rfl, gT_ok w e1 h s fun σ' s' f => gsT_ok w e q s' (fun σ2 s2 f2 => k σ2 s2 fun ws hw => by
        obtain ⟨h1, h2⟩ : t.ins ws ∧ r.ins ws := by simpa [TgL.ins] using hw
        rw [f2 ws h2, f ws h1]) (by simpa [TgL.len] using hl)⟩
    · cases e
end
end
section
variable {X : Cx} {pos : Pos}
theorem pg_or {e : Expr} {t u : TG} (h : PG X e t) (g : PG X e u) : PG X e (fun v σ H R => t v σ H R ∨ u v σ H R) :=
  ⟨fun pins s σ H v w Q I r q => q.elim (h.run pins s σ H v w Q I r) (g.run pins s σ H v w Q I r)⟩
theorem qg_nm {i : Nat} {x : Str} (hN : X.N.Nodup) (hi : X.N[i]? = some x) (hx : Loc X.env.scope x) (hf : X.fn x = true ∨ X.env.scope.names.lookup x = some .local := by first | exact .inl rfl | exact .inr rfl | assumption) : PG X (.Name x pos) (gV X.K (.nm i)) := pg_name hN hi hx hf
theorem qg_tp {es : List Expr} {k : Nat} {l : TgL} (hc : X.calm = true) (h : PGs X es (gsV X.K l)) (hn : (assignEach es X.env).length = l.len := by rfl) (hst : (assignEach es X.env).findIdx? (·.1) = none := by rfl) : PG X (.Tuple es k pos) (gV X.K (.tp l)) :=
  pg_or (pg_tup hc h hn hst) (pg_lst hc h hn hst)
theorem qgs_nil : PGs X [] (gsV X.K .nil) := pgs_nil
theorem qgs_cons {e : Expr} {es : List Expr} {t : TgN} {r : TgL} (h1 : PG X e (gV X.K t)) (h2 : PGs X es (gsV X.K r))
    (hs : (assignEach (e :: es) X.env).map (·.2) = assign e X.env :: (assignEach es X.env).map (·.2) := by rfl) : PGs X (e :: es) (gsV X.K (.cons t r)) := pgs_cons h1 h2 hs
end

/-- names = e -/
def sAsg (te : E1) (t : TgN) : S1 := fun D E τ G => te τ G (fun d G1 => match gT t d τ G1 with
  | some τ1 => D.nx τ1 G1
  | none => False) (fun c f g => E c f τ g)
theorem qs_asg {X : Cx} {W : WX} {pos : Pos} {tg e : Expr} {te : E1} {t : TgN} (he : QE X W e te) (hg : PG X tg (gV X.K t)) (hs : swapsWithSole [tg] e pos.line X.env = pure false := by rfl) (hw : swappedStores [tg] e X.env = pure none := by rfl)
    (h1 : (assignEach [tg] X.env).map (·.2) = [assign tg X.env] := by rfl) : QS X W (.Assign [tg] e pos) (sAsg te t) :=
  PS.imp (ps_asg he hg hs hw h1) fun D' σ H ⟨F, τ, G, DT, KT, P, q⟩ => by
    refine LE.inS P (k := fun d τ G1 => match gT t d τ G1 with
      | some τ1 => DT.nx τ1 G1
      | none => False) q fun v d G1 H1 p1 r1 s1 q1 => ?_
    split at q1
    · rename_i τ1 e1
      exact gT_ok (B := (bd X).hide F) p1.wd e1 r1 p1.sl fun σ' s' _ => p1.nx σ' τ1 G1 H1 s' p1.wd Stp.refl q1
    · exact q1.elim

/-! ### what a loop walks -/
/-- locked things -/
abbrev Fzs := List (Addr × Obj × HO)
def Fz (l : Fzs) (H : Hp) : Prop := ∀ p ∈ l, H p.1 = some (.frz p.2.1 p.2.2)
theorem Fz.step {l : Fzs} {G G' : GH} {H H' : Hp} (h : Fz l H) (s : Stp G H G' H') : Fz l H' := fun p hp => s.frz _ _ _ (h p hp)
/-- J yields xs, while what it walks (ys at vs) stands and gd holds -/
structure ItOk (B : Bd) (J : It) (ys : List D) (vs : List V) (xs : List D) (gd : GH → Prop) (fz : Fzs) : Prop where
  go : ∀ (F : Addr → Prop) (G : GH) (H : Hp) (i : Nat), RpL (B.hide F) G H ys vs → Wd (B.hide F) G H → gd G → Fz fz H → i < xs.length → J.go i H
  yld : ∀ (F : Addr → Prop) (G : GH) (H : Hp) (i : Nat) (d : D) (v : V) (H' : Hp), RpL (B.hide F) G H ys vs → Wd (B.hide F) G H → gd G → Fz fz H → xs[i]? = some d → J.yld i H v H' → Rp (B.hide F) G H' d v ∧ Wd (B.hide F) G H' ∧ Stp G H G H'
  stop : ∀ (F : Addr → Prop) (G : GH) (H : Hp), RpL (B.hide F) G H ys vs → Wd (B.hide F) G H → gd G → Fz fz H → J.stop xs.length H
abbrev KI := List D → (GH → Prop) → GH → Prop
abbrev I1 := Sl → GH → KI → KX → Prop
structure PtI (B : Bd) (W : WX) (σ : L2.St) (H : Hp) (R : It → Hp → Prop) (τ : Sl) (G : GH) (QT : KI) (ET : KX) : Prop where
  sl : RpS B G H σ τ
  wd : Wd B G H
  ok : ∀ J ys vs xs gd fz G' H', ItOk B J ys vs xs gd fz → RpL B G' H' ys vs → gd G' → Fz fz H' → Wd B G' H' → Stp G H G' H' → QT xs gd G' → R J H'
  ex : ∀ c d fs G' H', RpX B G' H' d fs → Wd B G' H' → Stp G H G' H' → ET c fs G' → W c d σ H'
def LI (B : Bd) (W : WX) (t : I1) : TI := fun σ H R => ∃ F τ G QT ET, PtI (B.hide F) W σ H R τ G QT ET ∧ t τ G QT ET
def QI (X : Cx) (W : WX) (tg iter : Expr) (t : I1) : Prop := PI X tg iter (LI (bd X) W t)
theorem PI.imp {X : Cx} {tg e : Expr} {t t' : TI} (h : PI X tg e t) (i : ∀ σ H Q, t' σ H Q → t σ H Q) : PI X tg e t' := ⟨fun pins s σ H Q I hw => h.run pins s σ H Q I (i _ _ _ hw)⟩

/-! ### for -/
section
variable (t : TgN) (body : S1) (DT : En) (E : KS) (gd : GH → Prop)
def sForL : List D → Sl → GH → Prop
  | [], τ, G => DT.nx τ G
  | d :: r, τ, G => match gT t d τ G with
    | some τ1 => body { DT with nx := fun τ2 G2 => gd G2 ∧ sForL r τ2 G2, ct := fun τ2 G2 => gd G2 ∧ sForL r τ2 G2, bk := DT.nx } E τ1 G
    | none => False
end
def sFor (ti : I1) (t : TgN) (body : S1) : S1 := fun DT E τ G => ti τ G (fun xs gd G1 => sForL t body DT E gd xs τ G1) (fun c f g => E c f τ g)
theorem drop_at {α : Type} {xs : List α} {i : Nat} (h : i < xs.length) : ∃ x, xs[i]? = some x ∧ xs.drop i = x :: xs.drop (i + 1) := by
  refine ⟨xs[i], List.getElem?_eq_getElem h, ?_⟩
  exact List.drop_eq_getElem_cons h
section
variable {X : Cx} {W : WX} {pos : Pos}
theorem qs_for {tg iter : Expr} {body : List Stmt} {ti : I1} {t : TgN} {tb : S1} (hp : PassesOwn (model X.prog X.w) X.A X.env X.xe) (hc : X.calm = true) (hi : QI X W tg iter ti) (hg : PG X tg (gV X.K t)) (hb : QSs X W body tb)
    (hs : ∀ x, foldedSetIterable iter X.env x = pure x := by intro _; rfl) : QS X W (.For tg iter body [] pos) (sFor ti t tb) :=
  PS.imp (ps_for hp hc hi hg hb hs) fun D' σ H ⟨F, τ, G, DT, KT, P, q⟩ => by
    refine ⟨F, τ, G, _, _, ⟨P.sl, P.wd, fun J ys vs xs gd fz G1 H1 ok ry g1 f1 w1 s1 q1 => ?_, fun c d fs G' H' r w s q => P.ex c d fs σ τ G' H' (P.sl.step P.wd s) r w s q⟩, q⟩
    refine ⟨fun i m σ' H' => i ≤ xs.length ∧ m = xs.length - i ∧ ∃ τ' G', RpS ((bd X).hide F) G' H' σ' τ' ∧ Wd ((bd X).hide F) G' H' ∧ Stp G1 H1 G' H' ∧ gd G' ∧ sForL t tb DT KT gd (xs.drop i) τ' G', ⟨xs.length, Nat.zero_le _, rfl, τ, G1, P.sl.step P.wd s1, w1, Stp.refl, g1, q1⟩, ?_⟩
    rintro i m σ' H' ⟨hi, rfl, τ', G', r', w', s', g', q'⟩
    have ry' := ry.step w1 s'
    have f' := f1.step s'
    by_cases he : i = xs.length
    · subst he
      rw [List.drop_length] at q'
      exact .inl ⟨ok.stop F G' H' ry' w' g' f', P.nx σ' τ' G' H' r' w' (s1.trans s') q'⟩
    · have hl : i < xs.length := by omega
      obtain ⟨d, e1, e2⟩ := drop_at hl
      rw [e2] at q'
      refine .inr ⟨ok.go F G' H' i ry' w' g' f' hl, _, fun σ2 H2 h => h, fun v H2 hy => ?_⟩
      obtain ⟨rd, w2, s2⟩ := ok.yld F G' H' i d v H2 ry' w' g' f' e1 hy
      unfold sForL at q'
      split at q'
      · rename_i τ1 e3
        refine gT_ok (B := (bd X).hide F) w2 e3 rd (r'.step w' s2) fun σ2 r2 _ => ?_
        have P2 := P.next r2 w2 ((s1.trans s').trans s2)
        have key : ∀ σ3 τ3 G3 H3, RpS ((bd X).hide F) G3 H3 σ3 τ3 → Wd ((bd X).hide F) G3 H3 → Stp G' H2 G3 H3 → (gd G3 ∧ sForL t tb DT KT gd (xs.drop (i + 1)) τ3 G3) →
            ∃ m', m' < xs.length - i ∧ i + 1 ≤ xs.length ∧ m' = xs.length - (i + 1) ∧ ∃ τ' G', RpS ((bd X).hide F) G' H3 σ3 τ' ∧ Wd ((bd X).hide F) G' H3 ∧ Stp G1 H1 G' H3 ∧ gd G' ∧ sForL t tb DT KT gd (xs.drop (i + 1)) τ' G' :=
          fun σ3 τ3 G3 H3 r3 w3 s3 q3 => ⟨_, by omega, by omega, rfl, τ3, G3, r3, w3, s'.trans (s2.trans s3), q3.1, q3.2⟩
        exact ⟨F, τ1, G', { DT with nx := fun τ2 G2 => gd G2 ∧ sForL t tb DT KT gd (xs.drop (i + 1)) τ2 G2, ct := fun τ2 G2 => gd G2 ∧ sForL t tb DT KT gd (xs.drop (i + 1)) τ2 G2, bk := DT.nx }, KT, ⟨P2.sl, P2.wd, key, P2.rt, P2.nx, key, P2.ex⟩, q'⟩
      · exact q'.elim

/-! ### while -/
def sWhileN (c : T1) (body : S1) (DT : En) (E : KS) : Nat → Sl → GH → Prop
  | 0, _, _ => False
  | n + 1, τ, G => c τ G (fun b G1 => if b = true then body { DT with nx := sWhileN c body DT E n, ct := sWhileN c body DT E n, bk := DT.nx } E τ G1 else DT.nx τ G1) (fun c f g => E c f τ g)
def sWhile (c : T1) (body : S1) : S1 := fun DT E τ G => ∃ n, sWhileN c body DT E n τ G
theorem qs_while {c : Expr} {body : List Stmt} {tc : T1} {tb : S1} (hp : PassesOwn (model X.prog X.w) X.A X.env X.xe) (hc : QT X W c tc) (hb : QSs X W body tb) : QS X W (.While c body [] pos) (sWhile tc tb) :=
  PS.imp (ps_while hp hc hb) fun D' σ H ⟨F, τ, G, DT, KT, P, n, q⟩ => by
    refine ⟨fun m σ' H' => ∃ τ' G', RpS ((bd X).hide F) G' H' σ' τ' ∧ Wd ((bd X).hide F) G' H' ∧ Stp G H G' H' ∧ sWhileN tc tb DT KT m τ' G', ⟨n, τ, G, P.sl, P.wd, Stp.refl, q⟩, ?_⟩
    rintro m σ' H' ⟨τ', G', r', w', s', q'⟩
    cases m with
    | zero => exact q'.elim
    | succ m =>
      have P1 := P.next r' w' s'
      refine LT.inS P1 (k := fun b τ G1 => if b = true then tb { DT with nx := sWhileN tc tb DT KT m, ct := sWhileN tc tb DT KT m, bk := DT.nx } KT τ G1 else DT.nx τ G1) q' fun b G2 H2 P2 s2 q2 => ?_
      cases b with
      | false => exact P2.nx σ' τ' G2 H2 P2.sl P2.wd Stp.refl q2
      | true =>
        have key : ∀ σ3 τ3 G3 H3, RpS ((bd X).hide F) G3 H3 σ3 τ3 → Wd ((bd X).hide F) G3 H3 → Stp G2 H2 G3 H3 → sWhileN tc tb DT KT m τ3 G3 →
            ∃ m', m' < m + 1 ∧ ∃ τ' G', RpS ((bd X).hide F) G' H3 σ3 τ' ∧ Wd ((bd X).hide F) G' H3 ∧ Stp G H G' H3 ∧ sWhileN tc tb DT KT m' τ' G' :=
          fun σ3 τ3 G3 H3 r3 w3 s3 q3 => ⟨m, by omega, τ3, G3, r3, w3, s'.trans (s2.trans s3), q3⟩
        exact ⟨_, fun σ3 H3 h => h, F, τ', G2, { DT with nx := sWhileN tc tb DT KT m, ct := sWhileN tc tb DT KT m, bk := DT.nx }, KT, ⟨P2.sl, P2.wd, key, P2.rt, P2.nx, key, P2.ex⟩, q2⟩
end
end TL
end
section
/-! TL6b: list comprehensions, iterators. -/
namespace TL
open PySem PySem.Spec L2

abbrev WF : WX := fun _ _ _ _ => False
abbrev EF : KX := fun _ _ _ => False
def QTs (X : Cx) (W : WX) (es : List Expr) (t : T1) : Prop := PTs X es (LT (bd X) W t)
def tTrue : T1 := fun _ G Q _ => Q true G
theorem PTs.imp {X : Cx} {es : List Expr} {t t' : TT} (h : PTs X es t) (i : ∀ σ H Q, t' σ H Q → t σ H Q) : PTs X es t' := ⟨fun pins s σ H Q I hw => h.run pins s σ H Q I (i _ _ _ hw)⟩
theorem qts_nil {X : Cx} {W : WX} : QTs X W [] tTrue := PTs.imp pts_nil fun σ H Q ⟨F, τ, G, QT', ET, p, t⟩ => p.ok true G H p.wd Stp.refl t
theorem qts_one {X : Cx} {W : WX} {c : Expr} {t : T1} (h : QT X W c t) : QTs X W [c] t := pts_one h
theorem Cn.blk {X : Cx} {W : WX} {s : Shared} {H : Hp} {scope : Scope} {cenv : Env} {fp : List Addr} (cn : Cn X W) : Cn (X.blk s H scope cenv fp) WF := ⟨cn.grd, takes_none5⟩

theorem wipe_wipe {σ : L2.St} {vs : List Nat} : wipe (wipe σ vs) vs = wipe σ vs := by
  apply List.ext_getElem?
  intro j
  rw [wipe_at (i := 0), wipe_at (i := 0), wipe_length]
  by_cases z : j ∈ vs
  · rw [if_pos z, if_pos z]
  · rw [if_neg z, if_neg z]
def wipeT (τ : Sl) : List Nat → Sl
  | [] => τ
  | v :: vs => (wipeT τ vs).set v none
theorem RpS.wipe {B : Bd} {G : GH} {H : Hp} {σ : L2.St} {τ : Sl} (h : RpS B G H σ τ) : ∀ vs, RpS B G H (L2.wipe σ vs) (wipeT τ vs)
  | [] => h
  | v :: vs => (RpS.wipe h vs).clear
theorem RpS.tr {B : Bd} {F' : Addr → Prop} {G G' : GH} {H H' : Hp} {σ : L2.St} {τ : Sl} (t : Tr B F' G H G' H') (h : RpS B G H σ τ) : RpS (B.hide F') G' H' σ τ := ⟨h.1, fun i d e => by
  obtain ⟨v, h1, h2⟩ := h.2 i d e
  exact ⟨v, h1, h2.tr t⟩⟩
section
variable (t : TgN) (tt : T1) (te : E1) (τ : Sl) (gd : GH → Prop) (Q : List D → GH → Prop)
def eLcL : List D → List D → GH → Prop
  | [], acc, G => Q acc G
  | d :: r, acc, G => acc.length < sizeLine ∧ match gT t d τ G with
    | some τ1 => tt τ1 G (fun b G2 => if b = true then te τ1 G2 (fun y G3 => gd G3 ∧ eLcL r (acc ++ [y]) G3) EF else gd G2 ∧ eLcL r acc G2) EF
    | none => False
end
/-- [te for t in ti if tt] | as a cell -/
def eLc (ti : I1) (t : TgN) (tt : T1) (te : E1) (vs : List Nat) : E1 := fun τ G Q E => ti τ G (fun xs gd G1 => eLcL t tt te (wipeT τ vs) gd (fun acc G2 => Q (.lst acc) G2) xs [] G1) E
def eLcC (ti : I1) (t : TgN) (tt : T1) (te : E1) (vs : List Nat) : E1 := fun τ G Q E => ti τ G (fun xs gd G1 => eLcL t tt te (wipeT τ vs) gd (fun acc G2 => ∀ p, G2 p = none → Q (.ref p) (gup G2 p (.lst acc))) xs [] G1) E

section
variable {B : Bd} {G G' : GH} {H H' : Hp} {D0 : Addr}
/-- D shows, as a cell -/
theorem Tr.showC {c : Cl} : Tr (B.plus D0) B.F G H (gup G D0 c) H := ⟨fun a u e g => ⟨e, by rw [gup_ne fun z => g.2 (.inr z)]; exact g.1, fun f => g.2 (.inl f)⟩, fun a vs e => e⟩
theorem Wd.showC (w : Wd (B.plus D0) G H) {c : Cl} (n : RpC B (gup G D0 c) H D0 c) (nf : ¬ B.F D0) : Wd B (gup G D0 c) H := by
  refine ⟨fun a c' e => ?_, fun a f => ?_⟩
  · by_cases z : a = D0
    · subst z; rw [gup_same] at e; cases e; exact n
    · rw [gup_ne z] at e
      exact RpC.tr (Tr.showC (B := B) (D0 := D0)) (fun _ q => q) (w.cl a c' e)
  · rw [gup_ne (fun z : a = D0 => nf (by rw [← z]; exact f))]
    exact w.hd a (.inl f)
theorem Stp.turn {o : HO} (s : Stp G H G' H') (h : H D0 = none) : Stp G H G' (upd H' D0 o) := by
  have ne : ∀ a u, H a = some u → a ≠ D0 := fun a u e z => by rw [z, h] at e; cases e
  refine ⟨fun a u e g => ?_, fun a o u e => ?_, s.new⟩
  · rw [upd_ne (ne a u e)]; exact s.keep a u e g
  · rw [upd_ne (ne a _ e)]; exact s.frz a o u e
theorem Fz.turn {l : Fzs} (h : Fz l H) {o : HO} {xs : List V} (hd : H D0 = some (.lst xs)) : Fz l (upd H D0 o) := fun p hp => by
  rw [upd_ne fun z => by have := h p hp; rw [z, hd] at this; cases this]
  exact h p hp
theorem Fz.fresh {l : Fzs} (h : Fz l H) {o : HO} (hd : H D0 = none) : Fz l (upd H D0 o) := fun p hp => by
  rw [upd_ne fun z => by have := h p hp; rw [z, hd] at this; cases this]
  exact h p hp
end
section
variable {X : Cx} {W : WX} {pos : Pos}
/-- the loop of a list comprehension, at both levels -/
theorem lc_sim {K : PySem.W.Frag} {B : Bd} (hK : B.K = K) {F : Addr → Prop} {σ : L2.St} {τ : Sl} {G1 : GH} {H1 : Hp} {J : It} {ys : List D} {vs0 : List V} {xs : List D} {gd : GH → Prop} {fz : Fzs} {t : TgN} {tt : T1} {te : E1} {vs : List Nat} {QT' : List D → GH → Prop} {Q : VK}
    (ins : t.ins vs) (sl : RpS (B.hide F) G1 H1 σ τ) (wd : Wd (B.hide F) G1 H1) (ok : ItOk (B.hide F) J ys vs0 xs gd fz) (ry : RpL (B.hide F) G1 H1 ys vs0) (g1 : gd G1) (f1 : Fz fz H1)
    (q : eLcL t tt te (wipeT τ vs) gd QT' xs [] G1)
    (fin : ∀ (D0 : Addr) (acc : List D) (vacc : List V) (G : GH) (H : Hp), H1 D0 = none → Stp G1 H1 G H → H D0 = some (.lst vacc) → RpL ((B.hide F).plus D0) G H acc vacc → Wd ((B.hide F).plus D0) G H → QT' acc G → Q (.ref D0) H) :
    ∀ D, H1 D = none → ∃ W : Nat → Nat → Hp → Prop, (∃ m, W 0 m (upd H1 D (.lst []))) ∧ ∀ i m H, W i m H →
  (J.stop i H ∧ Q (.ref D) H) ∨ (J.go i H ∧ ∃ Nx : Hp → Prop, (∀ H', Nx H' → ∃ m', m' < m ∧ W (i + 1) m' H') ∧ ∀ x H', J.yld i H x H' → gV K t x (L2.wipe σ vs) H' fun σ2 H2 => L2.wipe σ2 vs = L2.wipe σ vs ∧ LT B WF tt σ2 H2 fun b H3 =>
    if b = true then LE B WF te σ2 H3 fun y H4 => ∃ acc, H4 D = some (.lst acc) ∧ acc.length < sizeLine ∧ Nx (upd H4 D (.lst (acc ++ [y]))) else Nx H3) := by
  subst hK
  intro D0 hD
  have tr0 : Tr (B.hide F) ((B.hide F).plus D0).F G1 H1 G1 (upd H1 D0 (.lst [])) := Tr.hide hD
  refine ⟨fun i m H' => i ≤ xs.length ∧ m = xs.length - i ∧ ∃ acc vacc G', H' D0 = some (.lst vacc) ∧ RpL ((B.hide F).plus D0) G' H' acc vacc ∧ RpS ((B.hide F).plus D0) G' H' (L2.wipe σ vs) (wipeT τ vs) ∧ RpL ((B.hide F).plus D0) G' H' ys vs0 ∧ Wd ((B.hide F).plus D0) G' H' ∧ Stp G1 H1 G' H' ∧ gd G' ∧ Fz fz H' ∧ eLcL t tt te (wipeT τ vs) gd QT' (xs.drop i) acc G',
    ⟨xs.length, Nat.zero_le _, rfl, [], [], G1, upd_same, RpL.nil, (sl.wipe vs).tr tr0, ry.tr tr0, wd.hide hD, Stp.refl.turn hD, g1, f1.fresh hD, q⟩, ?_⟩
  rintro i m H' ⟨hi, rfl, acc, vacc, G', hd', ra, rs, ry', w', s', g', f', q'⟩
  have hF : ((B.hide F).plus D0).F D0 := .inr rfl
  by_cases he : i = xs.length
  · subst he
    rw [List.drop_length] at q'
    exact .inl ⟨ok.stop _ G' H' ry' w' g' f', fin D0 acc vacc G' H' hD s' hd' ra w' q'⟩
  · have hl : i < xs.length := by omega
    obtain ⟨d, e1, e2⟩ := drop_at hl
    rw [e2] at q'
    refine .inr ⟨ok.go _ G' H' i ry' w' g' f' hl, _, fun H2 h => h, fun v H2 hy => ?_⟩
    obtain ⟨rd, w2, s2⟩ := ok.yld _ G' H' i d v H2 ry' w' g' f' e1 hy
    unfold eLcL at q'
    obtain ⟨hz, q'⟩ := q'
    split at q'
    · rename_i τ1 e3
      have hz' : vacc.length < sizeLine := by rw [ra.length]; exact hz
      have gn : ∀ {G H}, Wd ((B.hide F).plus D0) G H → G D0 = none := fun w => (w.hd D0 hF).1
      refine gT_ok (B := (B.hide F).plus D0) w2 e3 rd (rs.step w' s2) fun σ2 r2 own => ⟨(own vs ins).trans wipe_wipe, ?_⟩
      refine ⟨((B.hide F).plus D0).F, τ1, G', _, EF, ⟨r2, w2, fun b G3 H3 w3 s3 q3 => ?_, fun _ _ _ _ _ _ _ _ h => h⟩, q'⟩
      have s13 := s2.trans s3
      have hd3 : H3 D0 = some (.lst vacc) := s13.keep D0 _ hd' (gn w')
      cases b with
      | false =>
        rw [if_neg (by decide)] at q3
        rw [if_neg (by decide)]
        exact ⟨_, by omega, by omega, rfl, acc, vacc, G3, hd3, ra.step w' s13, rs.step w' s13, ry'.step w' s13, w3, s'.trans s13, q3.1, f'.step s13, q3.2⟩
      | true =>
        rw [if_pos rfl] at q3
        rw [if_pos rfl]
        refine ⟨((B.hide F).plus D0).F, τ1, G3, _, EF, ⟨r2.step w2 s3, w3, fun y d4 G4 H4 r4 w4 s4 q4 => ?_, fun _ _ _ _ _ _ _ _ h => h⟩, q3⟩
        have s14 := s13.trans s4
        have hd4 : H4 D0 = some (.lst vacc) := s14.keep D0 _ hd' (gn w')
        have tr4 : Tr ((B.hide F).plus D0) ((B.hide F).plus D0).F G4 H4 G4 (upd H4 D0 (.lst (vacc ++ [y]))) := Tr.turn hF hd4
        refine ⟨vacc, hd4, hz', _, by omega, by omega, rfl, acc ++ [d4], vacc ++ [y], G4, upd_same, ?_, RpS.tr (B := (B.hide F).plus D0) tr4 (rs.step w' s14), (ry'.step w' s14).tr tr4, w4.turn hF hd4, (s'.trans s14).turn hD, q4.1, (f'.step s14).turn hd4, q4.2⟩
        exact ((ra.step w' s14).append (RpL.one r4)).tr tr4
    · exact q'.elim
theorem fin_lst {B : Bd} {F : Addr → Prop} {W : WX} {σ : L2.St} {H : Hp} {Q : VK} {τ : Sl} {G G1 : GH} {H1 : Hp} {QT' : KD} {ET : KX} (P : Pt (B.hide F) W σ H Q τ G QT' ET) (wd : Wd (B.hide F) G1 H1) (s1 : Stp G H G1 H1) :
    ∀ (D0 : Addr) (acc : List D) (vacc : List V) (G : GH) (H : Hp), H1 D0 = none → Stp G1 H1 G H → H D0 = some (.lst vacc) → RpL ((B.hide F).plus D0) G H acc vacc → Wd ((B.hide F).plus D0) G H → QT' (.lst acc) G → Q (.ref D0) H := by
  intro D0 acc vacc G' H' hn s hd ra w q
  refine P.ok _ _ G' H' ?_ w.show (s1.trans s) q
  unfold Rp
  exact ⟨D0, vacc, rfl, ⟨hd, (w.hd D0 (.inr rfl)).1, (wd.of_none hn).2⟩, ra.tr (Tr.show (B := B.hide F) (D := D0))⟩
theorem fin_lstC {B : Bd} {F : Addr → Prop} {W : WX} {σ : L2.St} {H : Hp} {Q : VK} {τ : Sl} {G G1 : GH} {H1 : Hp} {QT' : KD} {ET : KX} (P : Pt (B.hide F) W σ H Q τ G QT' ET) (wd : Wd (B.hide F) G1 H1) (s1 : Stp G H G1 H1) :
    ∀ (D0 : Addr) (acc : List D) (vacc : List V) (G : GH) (H : Hp), H1 D0 = none → Stp G1 H1 G H → H D0 = some (.lst vacc) → RpL ((B.hide F).plus D0) G H acc vacc → Wd ((B.hide F).plus D0) G H → (∀ p, G p = none → QT' (.ref p) (gup G p (.lst acc))) → Q (.ref D0) H := by
  intro D0 acc vacc G' H' hn s hd ra w q
  have gn := (w.hd D0 (.inr rfl)).1
  refine P.ok _ _ (gup G' D0 (.lst acc)) H' rp_ref (w.showC ⟨vacc, hd, ra.tr (Tr.showC (B := B.hide F) (D0 := D0))⟩ (wd.of_none hn).2) (s1.trans ⟨s.keep, s.frz, fun a e => ?_⟩) (q D0 gn)
  by_cases z : a = D0
  · rw [z]; exact .inr hn
  · rw [gup_ne z] at e; exact s.new a e

section
variable {elt tg iter : Expr} {ifs : List Expr} {scope : Scope} {own : List (Str × Nat)} {ti : I1} {t : TgN} {tt : T1} {te : E1}
theorem qe_lc (hc : X.calm = true) (hN : X.N.Nodup) (hi : QI X W tg iter ti) (ok : BlkOk X.N X.env.scope scope own) (ins : t.ins (own.map (·.2)))
    (hg : ∀ (s : Shared) (H : Hp) (C : Addr) (cl : List (Str × Addr)) (fp : List Addr), PG (X.blk s H scope (compEnvC scope cl C X.env) fp) tg (gV X.K t))
    (ht : ∀ (s : Shared) (H : Hp) (C : Addr) (cl : List (Str × Addr)) (fp : List Addr), QTs (X.blk s H scope (compEnvC scope cl C X.env) fp) WF ifs tt)
    (he : ∀ (s : Shared) (H : Hp) (C : Addr) (cl : List (Str × Addr)) (fp : List Addr), QE (X.blk s H scope (compEnvC scope cl C X.env) fp) WF elt te)
    (hs : ∀ x, foldedSetIterable iter X.env x = pure x := by intro _; rfl) : QE X W (.ListComp elt [⟨tg, iter, ifs, 0⟩] scope pos) (eLc ti t tt te (own.map (·.2))) :=
  PE.imp (pe_lc (tt := LT (bd X) WF tt) (te := LE (bd X) WF te) hc hN hi ok hg ht he hs) fun σ H Q ⟨F, τ, G, QT', ET, P, q⟩ =>
    ⟨F, τ, G, _, ET, ⟨P.sl, P.wd, fun J ys vs0 xs gd fz G1 H1 ok ry g1 f1 w1 s1 q1 => lc_sim (B := bd X) rfl ins (P.sl.step P.wd s1) w1 ok ry g1 f1 q1 (fin_lst P w1 s1), P.ex⟩, q⟩
theorem qe_lcC (hc : X.calm = true) (hN : X.N.Nodup) (hi : QI X W tg iter ti) (ok : BlkOk X.N X.env.scope scope own) (ins : t.ins (own.map (·.2)))
    (hg : ∀ (s : Shared) (H : Hp) (C : Addr) (cl : List (Str × Addr)) (fp : List Addr), PG (X.blk s H scope (compEnvC scope cl C X.env) fp) tg (gV X.K t))
    (ht : ∀ (s : Shared) (H : Hp) (C : Addr) (cl : List (Str × Addr)) (fp : List Addr), QTs (X.blk s H scope (compEnvC scope cl C X.env) fp) WF ifs tt)
    (he : ∀ (s : Shared) (H : Hp) (C : Addr) (cl : List (Str × Addr)) (fp : List Addr), QE (X.blk s H scope (compEnvC scope cl C X.env) fp) WF elt te)
    (hs : ∀ x, foldedSetIterable iter X.env x = pure x := by intro _; rfl) : QE X W (.ListComp elt [⟨tg, iter, ifs, 0⟩] scope pos) (eLcC ti t tt te (own.map (·.2))) :=
  PE.imp (pe_lc (tt := LT (bd X) WF tt) (te := LE (bd X) WF te) hc hN hi ok hg ht he hs) fun σ H Q ⟨F, τ, G, QT', ET, P, q⟩ =>
    ⟨F, τ, G, _, ET, ⟨P.sl, P.wd, fun J ys vs0 xs gd fz G1 H1 ok ry g1 f1 w1 s1 q1 => lc_sim (B := bd X) rfl ins (P.sl.step P.wd s1) w1 ok ry g1 f1 q1 (fin_lstC P w1 s1), P.ex⟩, q⟩
end
end
end TL
end
section
/-! TL6c: iterators over lists, tuples, texts: alone, in zip, in enumerate. -/
namespace TL
open PySem PySem.Spec L2

/-- what an iterator walks: a list, a tuple, a text -/
inductive Lf where
  | L (a : Addr) | T (a : Addr) | S (x : Str)
def Lf.v : Lf → V
  | .L a | .T a => .ref a
  | .S x => .str x
def Lf.ads : Lf → List Addr
  | .L a | .T a => [a]
  | .S _ => []
def signs (x : Str) : List V := x.cps.toList.map fun c => .str ⟨#[c]⟩
def Lf.has (K : PySem.W.Frag) (H : Hp) : Lf → List V → Prop
  | .L a, xs => SqL K H a xs
  | .T a, xs => SqT K H a xs
  | .S x, xs => xs = signs x
def Lf.at_ (it : Addr) : Lf → Nat → Heap → Prop
  | .L a, i, h => h.IsListIter it a i
  | .T a, i, h => h.IsTupleIter it a i
  | .S x, i, h => ∃ t, h.IsStrIter it (strIterType x) x t i
theorem Lf.at_mono {it : Addr} {lf : Lf} {i : Nat} {h h' : Heap} (x : lf.at_ it i h) (k : ∀ o, h.get? it = some o → h'.get? it = some o) : lf.at_ it i h' := by
  cases lf with
  | L a => exact Heap.IsListIter.at x k
  | T a => exact Heap.IsTupleIter.at x k
  | S z => obtain ⟨t, o, ho, hc, hd⟩ := x; exact ⟨t, o, k o ho, hc, hd⟩
theorem Lf.at_obj {it : Addr} {lf : Lf} {i : Nat} {h : Heap} (x : lf.at_ it i h) : ∃ o, h.get? it = some o ∧ ∀ v, o.data ≠ .cell v := by
  cases lf with
  | L a => obtain ⟨o, ho, hc, hd⟩ := x; exact ⟨o, ho, fun v q => by rw [hd] at q; cases q⟩
  | T a => obtain ⟨o, ho, hc, hd⟩ := x; exact ⟨o, ho, fun v q => by rw [hd] at q; cases q⟩
  | S z => obtain ⟨t, o, ho, hc, hd⟩ := x; exact ⟨o, ho, fun v q => by rw [hd] at q; cases q⟩
section
variable {X : Cx} {pins : List (Addr × Obj)} {σ : L2.St} {H : Hp} {s : Shared} {lf : Lf} {xs : List V}
theorem Lf.lt (I : Inv X pins σ H s) (h : lf.has X.K H xs) : ∀ b ∈ lf.ads, b < s.heap.objs.size := by
  intro b hb
  cases lf with
  | L a =>
    obtain ⟨its, rv, p, _⟩ := I.list h
    have e : b = a := by simpa [Lf.ads] using hb
    rw [e]; exact p.lt
  | T a =>
    obtain ⟨its, rv, p, _⟩ := I.tuple h
    have e : b = a := by simpa [Lf.ads] using hb
    rw [e]
    obtain ⟨o, ho, _⟩ := p
    exact Heap.lt_size ho
  | S x => simp [Lf.ads] at hb
/-- the draws of a leaf, as things stand -/
theorem Lf.draws (I : Inv X pins σ H s) (h : lf.has X.K H xs) {A : Around} (hh : A.handled = none) {it : Addr} (hne : it ∉ lf.ads) {i : Nat} (st : lf.at_ it i s.heap) :
    ∃ (P : Nat → Value → Prop) (St : Nat → Heap → Prop), Draws X.prog X.w A it (it :: lf.ads) xs.length P St ∧ St i s.heap ∧ (∀ j h', St j h' → lf.at_ it j h') ∧ ∀ j u, P j u → ∃ x, xs[j]? = some x ∧ RelV x u := by
  cases lf with
  | L a =>
    obtain ⟨its, rv, p, _⟩ := I.list h
    have na : a ≠ it := fun e => hne (by simp [Lf.ads, e])
    have D := Draws.list (prog := X.prog) (w := X.w) hh it a na its.toArray
    have el : its.toArray.size = xs.length := by simp [rv.length]
    rw [el] at D
    refine ⟨_, _, D, ⟨st, p.isList⟩, fun j h' q => q.1, fun j u q => ?_⟩
    have q' : its[j]? = some u := by simpa using q
    have hj : j < xs.length := by rw [rv.length]; exact (List.getElem?_eq_some_iff.mp q').1
    obtain ⟨u', e1, e2⟩ := rv.get (List.getElem?_eq_getElem hj)
    rw [q'] at e1; cases e1
    exact ⟨_, List.getElem?_eq_getElem hj, e2⟩
  | T a =>
    obtain ⟨its, rv, p, _⟩ := I.tuple h
    have na : a ≠ it := fun e => hne (by simp [Lf.ads, e])
    have D := Draws.tuple (prog := X.prog) (w := X.w) hh it a na its.toArray
    have el : its.toArray.size = xs.length := by simp [rv.length]
    rw [el] at D
    refine ⟨_, _, D, ⟨st, p⟩, fun j h' q => q.1, fun j u q => ?_⟩
    have q' : its[j]? = some u := by simpa using q
    have hj : j < xs.length := by rw [rv.length]; exact (List.getElem?_eq_some_iff.mp q').1
    obtain ⟨u', e1, e2⟩ := rv.get (List.getElem?_eq_getElem hj)
    rw [q'] at e1; cases e1
    exact ⟨_, List.getElem?_eq_getElem hj, e2⟩
  | S x =>
    obtain ⟨t, st⟩ := st
    have D := Draws.text (prog := X.prog) (w := X.w) hh it x t
    have h' : xs = signs x := h
    have el : x.cps.size = xs.length := by rw [h']; simp [signs]
    rw [el] at D
    refine ⟨_, _, D, st, fun j h' q => ⟨t, q⟩, fun j u q => ?_⟩
    obtain ⟨c, t', hc, rfl⟩ := q
    refine ⟨.str ⟨#[c]⟩, ?_, ⟨_, rfl⟩⟩
    rw [h', signs, List.getElem?_map, Array.getElem?_toList, hc]
    rfl
/-- a leaf's iterator begins -/
theorem Lf.begins (I : Inv X pins σ H s) (h : lf.has X.K H xs) {u : Value} (r : RelV lf.v u) : ∃ (o : Obj) (H0 : Heap → Prop), Begins u o H0 ∧ H0 s.heap ∧ ∀ it h', h'.get? it = some o → lf.at_ it 0 h' := by
  cases lf with
  | L a =>
    obtain ⟨its, rv, p, _⟩ := I.list h
    cases r
    exact ⟨_, _, begins_list a its.toArray, p.isList, fun it h' q => ⟨_, q, rfl, rfl⟩⟩
  | T a =>
    obtain ⟨its, rv, p, _⟩ := I.tuple h
    cases r
    exact ⟨_, _, begins_tuple a its.toArray, p, fun it h' q => ⟨_, q, rfl, rfl⟩⟩
  | S x =>
    obtain ⟨t, rfl⟩ := r
    exact ⟨_, _, begins_text x t, trivial, fun it h' q => ⟨t, _, q, rfl, rfl⟩⟩
theorem Lf.inj (I : Inv X pins σ H s) {ys : List V} (h : lf.has X.K H xs) (g : lf.has X.K H ys) : xs = ys := by
  cases lf with
  | L a => exact I.list_inj h g
  | T a => exact I.tuple_inj h g
  | S x => exact Eq.trans h (Eq.symm g)
end
/-! ### one walked -/
def Lf.J (K : PySem.W.Frag) : Lf → It
  | .L a => Itl K a
  | .T a => Itt K a
  | .S x => Its x
theorem Lf.turn {P : Program} {w : World} {K : PySem.W.Frag} {tg : Expr} (lf : Lf) (it : Addr) {h : Heap} (h0 : lf.at_ it 0 h) : ∃ tn, Turn P w K tg (lf.J K) [it] it tn ∧ tn 0 h := by
  cases lf with
  | L a => exact ⟨_, turn_list a it, h0⟩
  | T a => exact ⟨_, turn_tuple a it, h0⟩
  | S x =>
    obtain ⟨t, h0⟩ := h0
    exact ⟨_, turn_str it x t (strIterType x) (by unfold strIterType; split <;> simp), h0⟩
def iSeqV (K : PySem.W.Frag) (tl : TE) : TI := fun σ H R => tl σ H fun x H1 => ∃ (lf : Lf) (xs : List V), x = lf.v ∧ lf.has K H1 xs ∧ R (lf.J K) H1
theorem pi_seqV {X : Cx} {tg l : Expr} {tl : TE} (hl : PE X l tl) : PI X tg l (iSeqV X.K tl) := by
  refine ⟨fun pins s σ H R I hw => thn (hl.run pins s σ H _ I hw) fun v s1 ⟨x, H1, I1, r1, lf, xs, ex, hq, q⟩ => ?_⟩
  subst ex
  obtain ⟨o, H0, B, hb, ho⟩ := Lf.begins I1 hq r1
  refine B.iter _ _ _ _ _ _ hb ?_
  obtain ⟨tn, T, t0⟩ := Lf.turn (P := X.prog) (w := X.w) (K := X.K) (tg := tg) lf s1.heap.objs.size (ho _ _ (Heap.get?_push_size s1.heap B.free))
  have I2 : Inv X pins σ H1 { s1 with heap := s1.heap.push o } := I1.kept (t' := s1.toks) fun b ob e => Heap.get?_push_of_some _ e
  refine ⟨_, [s1.heap.objs.size], tn, lf.J X.K, H1, rfl, I2, T, t0, fun c hc => ?_, q⟩
  obtain rfl : c = s1.heap.objs.size := by simpa using hc
  exact I1.fpOk (Nat.le_refl _) (I1.hok.fresh (Nat.le_refl _))

/-! ### zip of two -/
def JzL (K : PySem.W.Frag) (l1 l2 : Lf) : It :=
  ⟨fun i H => ∃ xs ys x y, l1.has K H xs ∧ l2.has K H ys ∧ xs[i]? = some x ∧ ys[i]? = some y,
    fun i H v H' => ∃ T x y, v = .ref T ∧ H T = none ∧ H' = upd H T (.tup [x, y]) ∧ (∀ xs, l1.has K H xs → xs[i]? = some x) ∧ ∀ ys, l2.has K H ys → ys[i]? = some y,
    fun i H => ∃ xs ys, l1.has K H xs ∧ l2.has K H ys ∧ i = min xs.length ys.length⟩
/-- the pair that an iterator gives out, laid -/
theorem pair_new {X : Cx} {pins : List (Addr × Obj)} {σ : L2.St} {H : Hp} {s : Shared} {h' : Heap} {tk : Nat} {ch : List Addr} {T : Addr} {x y : V} {u v : Value} (I : Inv X pins σ H s) (hf : ∀ b ∈ ch, FpOk X pins H b) (k : ∀ b o, b ∉ ch → s.heap.get? b = some o → h'.get? b = some o)
    (hT : s.heap.objs.size ≤ T) (ru : RelV x u) (rv : RelV y v) (tp : h'.IsTuple T #[u, v]) : Inv X pins σ (upd H T (.tup [x, y])) { s with heap := h', toks := tk } :=
  I.turnedNew (ch := ch) k hf hT ⟨by show 2 ≤ sizeLine; decide, [u, v], .cons ru (.cons rv .nil), tp⟩
theorem four_five {N b : Addr} (z : b ∈ [N + 4, N + 3, N, N + 1]) : b ∈ [N + 4, N + 2, N + 3, N, N + 1] := by
  simp only [List.mem_cons, List.not_mem_nil, or_false] at z ⊢
  rcases z with z | z | z | z <;> simp [z]
theorem turn_zipL {P : Program} {w : World} {K : PySem.W.Frag} {elts : List Expr} {kk : Nat} {tpos : Pos} {N : Nat} {l1 l2 : Lf} (h1 : ∀ b ∈ l1.ads, b < N) (h2 : ∀ b ∈ l2.ads, b < N) :
    Turn P w K (.Tuple elts kk tpos) (JzL K l1 l2) [N + 4, N + 2, N + 3, N, N + 1] (N + 4)
      (fun i h => IsZip h (N + 4) (N + 2) (N + 3) .none ∧ IsTupOf2 h (N + 2) (.ref N) (.ref (N + 1)) ∧ (∃ a b, IsTupOf2 h (N + 3) a b) ∧ l1.at_ N i h ∧ l2.at_ (N + 1) i h) where
  mem := by simp
  obj := fun i h ⟨z1, z2, ⟨a, b, z3⟩, z4, z5⟩ c hc => by
    have e : c = N + 4 ∨ c = N + 2 ∨ c = N + 3 ∨ c = N ∨ c = N + 1 := by simpa using hc
    rcases e with e | e | e | e | e <;> subst e
    · exact ⟨_, z1, fun v q => nomatch q⟩
    · exact ⟨_, z2, fun v q => nomatch q⟩
    · exact ⟨_, z3, fun v q => nomatch q⟩
    · exact Lf.at_obj (lf := l1) z4
    · exact Lf.at_obj (lf := l2) z5
  keep := fun i h h' ⟨z1, z2, ⟨a, b, z3⟩, z4, z5⟩ k => ⟨k _ (by simp) _ z1, k _ (by simp) _ z2, ⟨a, b, k _ (by simp) _ z3⟩, Lf.at_mono (lf := l1) z4 fun o => k _ (by simp) o, Lf.at_mono (lf := l2) z5 fun o => k _ (by simp) o⟩
  item := by
    intro X hP hw hK hc i pins s σ H E I hf ⟨z1, z2, z3, z4, z5⟩ hg
    subst hP hw hK
    obtain ⟨xs, ys, x, y, q1, q2, e1, e2⟩ := hg
    have a1 : N ∉ l1.ads := fun q => Nat.lt_irrefl _ (h1 N q)
    have a2 : N + 1 ∉ l2.ads := fun q => absurd (h2 (N + 1) q) (Nat.not_lt.mpr (Nat.le_succ N))
    obtain ⟨P1, S1, D1, s1, k1, p1⟩ := Lf.draws I q1 (A := X.A.in1) (I.ok.hd hc) a1 z4
    obtain ⟨P2, S2, D2, s2, k2, p2⟩ := Lf.draws I q2 (A := X.A.in1) (I.ok.hd hc) a2 z5
    have W := GoesN.zip2 (elts := elts) (x1 := kk) (pos := tpos) (zip_sep2 h1 h2) D1 D2
    have hi : i < min xs.length ys.length := Nat.lt_min.mpr ⟨(List.getElem?_eq_some_iff.mp e1).1, (List.getElem?_eq_some_iff.mp e2).1⟩
    refine W.goes i s _ E hi ⟨z1, z2, z3, s1, s2⟩ fun v h' tk ⟨T, u1, u2, ev, hT, r1, r2, tp⟩ ⟨y1, y2, y3, y4, y5⟩ hk htk => ?_
    subst ev
    obtain ⟨x', f1, g1⟩ := p1 i u1 r1
    obtain ⟨y', f2, g2⟩ := p2 i u2 r2
    have kk : ∀ b o, b ∉ [N + 4, N + 2, N + 3, N, N + 1] → s.heap.get? b = some o → h'.get? b = some o := fun b o hb e => hk b o (fun z => hb (four_five z)) e
    refine ⟨.ref T, _, pair_new I hf kk hT g1 g2 tp, rfl, ⟨T, x', y', rfl, I.hok.fresh hT, rfl, fun l hl => by rw [Lf.inj I hl q1]; exact f1, fun l hl => by rw [Lf.inj I hl q2]; exact f2⟩, ⟨y1, y2, y3, k1 _ _ y4, k2 _ _ y5⟩, fun b hb => ?_⟩
    obtain ⟨o, eo, _⟩ : ∃ o, s.heap.get? b = some o ∧ ∀ v, o.data ≠ .cell v := by
      have e : b = N + 4 ∨ b = N + 2 ∨ b = N + 3 ∨ b = N ∨ b = N + 1 := by simpa using hb
      obtain ⟨a, c, z3⟩ := z3
      rcases e with e | e | e | e | e <;> subst e
      · exact ⟨_, z1, fun v q => nomatch q⟩
      · exact ⟨_, z2, fun v q => nomatch q⟩
      · exact ⟨_, z3, fun v q => nomatch q⟩
      · exact Lf.at_obj (lf := l1) z4
      · exact Lf.at_obj (lf := l2) z5
    rw [upd_ne (Nat.ne_of_lt (Nat.lt_of_lt_of_le (Heap.lt_size eo) hT))]
    exact (hf b hb).1
  done := by
    intro X hP hw hK hc i pins s σ H E I hf ⟨z1, z2, z3, z4, z5⟩ hg
    subst hP hw hK
    obtain ⟨xs, ys, q1, q2, e1⟩ := hg
    have a1 : N ∉ l1.ads := fun q => Nat.lt_irrefl _ (h1 N q)
    have a2 : N + 1 ∉ l2.ads := fun q => absurd (h2 (N + 1) q) (Nat.not_lt.mpr (Nat.le_succ N))
    obtain ⟨P1, S1, D1, s1, k1, p1⟩ := Lf.draws I q1 (A := X.A.in1) (I.ok.hd hc) a1 z4
    obtain ⟨P2, S2, D2, s2, k2, p2⟩ := Lf.draws I q2 (A := X.A.in1) (I.ok.hd hc) a2 z5
    have W := GoesN.zip2 (elts := elts) (x1 := kk) (pos := tpos) (zip_sep2 h1 h2) D1 D2
    subst e1
    refine W.stops s _ E ⟨z1, z2, z3, s1, s2⟩ fun h' tk hk htk => ?_
    exact I.turnedL (ch := [N + 4, N + 2, N + 3, N, N + 1]) (fun b o hb e => hk b o (fun z => hb (four_five z)) e) hf
  self := fun A i s Q E st h => wpAny_pyIter_zip st.1 h
def iZipV (K : PySem.W.Frag) (ta : TA) : TI := fun σ H R => ta σ H fun vs H1 => ∃ l1 l2 xs ys, vs = [Lf.v l1, Lf.v l2] ∧ Lf.has K H1 l1 xs ∧ Lf.has K H1 l2 ys ∧ R (JzL K l1 l2) H1
theorem pi_zipV {X : Cx} {e e2 : Expr} {ta : TA} {p pos tpos : Pos} {elts : List Expr} {kk : Nat} (hg : Gl X "zip") (hm : X.mg "zip" = none) (ha : PA X [e, e2] ta)
    (hs : starEach [e, e2] X.env = (false, eval e X.env) :: starEach [e2] X.env := by rfl) (hpl : (backTo pos (starEach [e2] X.env)).any (·.1) = false := by rfl) :
    PI X (.Tuple elts kk tpos) (.Call (.Name "zip" p) [e, e2] [] pos) (iZipV X.K ta) := by
  refine ⟨fun pins s σ H R I hw => PyProof.Rows.Call_ (ld_blt I hg hm PyProof.Rows.boot_zip (PyProof.Rows.callWith_type1 (thn (ha.run pos pins s σ H _ I hw) fun us s1 ⟨vs, H1, I1, r1, l1, l2, xs, ys, ex, hx, hy, q⟩ => ?_) hs hpl))⟩
  subst ex
  cases r1 with
  | cons ra rr =>
    cases rr with
    | cons rb rn =>
      cases rn
      obtain ⟨o1, H01, B1, b1, c1⟩ := Lf.begins I1 hx ra
      obtain ⟨o2, H02, B2, b2, c2⟩ := Lf.begins I1 hy rb
      refine zip_begins2 B1 B2 b1 b2 fun h' hz hTI hTO g1 g2 hsz hk => wpAny_pyIter_zip hz ?_
      have I2 : Inv X pins σ H1 { s1 with heap := h' } := I1.kept (t' := s1.toks) hk
      refine ⟨s1.heap.objs.size + 4, _, _, _, H1, rfl, I2, turn_zipL (Lf.lt I1 hx) (Lf.lt I1 hy), ⟨hz, hTI, ⟨_, _, hTO⟩, c1 _ _ g1, c2 _ _ g2⟩, fun c hcm => ?_, q⟩
      have hle : s1.heap.objs.size ≤ c := by
        have : c = s1.heap.objs.size + 4 ∨ c = s1.heap.objs.size + 2 ∨ c = s1.heap.objs.size + 3 ∨ c = s1.heap.objs.size ∨ c = s1.heap.objs.size + 1 := by simpa using hcm
        rcases this with z | z | z | z | z <;> (rw [z]; first | exact Nat.le_add_right _ _ | exact Nat.le_refl _)
      exact I1.fpOk hle (I1.hok.fresh hle)
end TL
end
section
/-! TL6d: the lifted iterators. -/
namespace TL
open PySem PySem.Spec L2

def signsD (x : Str) : List D := x.cps.toList.map fun c => .str ⟨#[c]⟩
def vIt (G : GH) : D → Option (List D)
  | .str x => some (signsD x)
  | d => vQ G d
def isT : D → Bool
  | .tup _ | .kt _ => true
  | _ => false
def lfOf (d : D) : V → Lf
  | .ref a => if isT d = true then .T a else .L a
  | .str x => .S x
  | _ => .S ⟨#[]⟩
section
variable {B : Bd} {G : GH} {H : Hp}
theorem rpL_signs : ∀ l : List Nat, RpL B G H (l.map fun c => D.str ⟨#[c]⟩) (l.map fun c => V.str ⟨#[c]⟩)
  | [] => RpL.nil
  | c :: r => RpL.cons rp_str (rpL_signs r)
theorem vIt_ok (w : Wd B G H) {d : D} {v : V} (r : Rp B G H d v) {xs : List D} (e : vIt G d = some xs) : v = (lfOf d v).v ∧ ∃ vs, (lfOf d v).has B.K H vs ∧ RpL B G H xs vs := by
  cases d with
  | str x =>
    cases e
    rw [r.str_inv]
    exact ⟨rfl, signs x, rfl, rpL_signs _⟩
  | tup ys =>
    cases e
    obtain ⟨a, vs, rfl, f, q⟩ := r.tup_inv
    exact ⟨rfl, vs, SqT.of f, q⟩
  | kt ys =>
    cases e
    unfold Rp at r
    obtain ⟨a, vs, rfl, f, q⟩ := r
    exact ⟨rfl, vs, .inr f, q⟩
  | lst ys =>
    obtain ⟨a, vs, rfl, f, q⟩ := vQ_list w r e (fun _ h => by cases h) (fun _ h => by cases h)
    exact ⟨rfl, vs, f, q⟩
  | scr ys =>
    obtain ⟨a, vs, rfl, f, q⟩ := vQ_list w r e (fun _ h => by cases h) (fun _ h => by cases h)
    exact ⟨rfl, vs, f, q⟩
  | ref p =>
    obtain ⟨a, vs, rfl, f, q⟩ := vQ_list w r e (fun _ h => by cases h) (fun _ h => by cases h)
    exact ⟨rfl, vs, f, q⟩
  | _ => cases e
end
theorem lfJ_go {K : PySem.W.Frag} {H : Hp} {lf : Lf} {vs : List V} {i : Nat} (h : lf.has K H vs) (hi : i < vs.length) : (lf.J K).go i H := by
  cases lf with
  | L a => exact ⟨vs, _, h, List.getElem?_eq_getElem hi⟩
  | T a => exact ⟨vs, _, h, List.getElem?_eq_getElem hi⟩
  | S x =>
    have h' : vs = signs x := h
    rw [h'] at hi
    show i < x.cps.size
    simpa [signs] using hi
theorem lfJ_yld {K : PySem.W.Frag} {H H' : Hp} {lf : Lf} {vs : List V} {i : Nat} {v : V} (h : lf.has K H vs) (hy : (lf.J K).yld i H v H') : H' = H ∧ vs[i]? = some v := by
  cases lf with
  | L a => exact ⟨hy.1, hy.2 vs h⟩
  | T a => exact ⟨hy.1, hy.2 vs h⟩
  | S x =>
    obtain ⟨e, c, hc, rfl⟩ := hy
    have h' : vs = signs x := h
    refine ⟨e, ?_⟩
    rw [h', signs, List.getElem?_map, Array.getElem?_toList, hc]
    rfl
theorem lfJ_stop {K : PySem.W.Frag} {H : Hp} {lf : Lf} {vs : List V} (h : lf.has K H vs) : (lf.J K).stop vs.length H := by
  cases lf with
  | L a => exact ⟨vs, h, Nat.le_refl _⟩
  | T a => exact ⟨vs, h, Nat.le_refl _⟩
  | S x =>
    have h' : vs = signs x := h
    rw [h']
    show x.cps.size ≤ (signs x).length
    simp [signs]
theorem itOk_seq {B : Bd} {d : D} {v : V} {xs : List D} : ItOk B ((lfOf d v).J B.K) [d] [v] xs (fun G => vIt G d = some xs) [] where
  go F G H i ry w g _ hi := by
    obtain ⟨_, _, e, r, _⟩ := ry.uncons
    cases e
    obtain ⟨_, vs, h, q⟩ := vIt_ok w r g
    exact lfJ_go (K := B.K) h (by rw [q.length]; exact hi)
  yld F G H i x u H' ry w g _ ex hy := by
    obtain ⟨_, _, e, r, _⟩ := ry.uncons
    cases e
    obtain ⟨_, vs, h, q⟩ := vIt_ok w r g
    obtain ⟨rfl, e⟩ := lfJ_yld (K := B.K) h hy
    obtain ⟨u', e', r'⟩ := q.get ex
    rw [e] at e'; cases e'
    exact ⟨r', w, Stp.refl⟩
  stop F G H ry w g _ := by
    obtain ⟨_, _, e, r, _⟩ := ry.uncons
    cases e
    obtain ⟨_, vs, h, q⟩ := vIt_ok w r g
    rw [← q.length]
    exact lfJ_stop (K := B.K) h
/-- x, a list, a tuple or a text, walked -/
def iSeq (te : E1) : I1 := fun τ G Q E => te τ G (fun x G1 => match vIt G1 x with
  | some xs => Q xs (fun G2 => vIt G2 x = some xs) G1
  | none => False) E
section
variable {X : Cx} {W : WX} {tg e e2 : Expr} {te : E1} {ta : A1} {p pos tpos : Pos} {elts : List Expr} {kk : Nat}
/-- an expression, then an iterator -/
theorem LE.toI {B : Bd} {F : Addr → Prop} {σ : L2.St} {H : Hp} {τ : Sl} {G : GH} {QT' : KI} {ET : KX} {R : It → Hp → Prop} {ta : E1} {k : D → GH → KI → KX → Prop} {QH : VK} (P : PtI (B.hide F) W σ H R τ G QT' ET)
    (h : ta τ G (fun d G1 => k d G1 QT' ET) ET) (f : ∀ v d G1 H1, Rp (B.hide F) G1 H1 d v → Wd (B.hide F) G1 H1 → Stp G H G1 H1 → k d G1 QT' ET → QH v H1) : LE B W ta σ H QH :=
  ⟨F, τ, G, _, ET, ⟨P.sl, P.wd, fun v d G1 H1 r w s q => f v d G1 H1 r w s q, P.ex⟩, h⟩
theorem LA.toI {B : Bd} {F : Addr → Prop} {σ : L2.St} {H : Hp} {τ : Sl} {G : GH} {QT' : KI} {ET : KX} {R : It → Hp → Prop} {ta : A1} {k : List D → GH → KI → KX → Prop} {QH : List V → Hp → Prop} (P : PtI (B.hide F) W σ H R τ G QT' ET)
    (h : ta τ G (fun d G1 => k d G1 QT' ET) ET) (f : ∀ v d G1 H1, RpL (B.hide F) G1 H1 d v → Wd (B.hide F) G1 H1 → Stp G H G1 H1 → k d G1 QT' ET → QH v H1) : LA B W ta σ H QH :=
  ⟨F, τ, G, _, ET, ⟨P.sl, P.wd, fun v d G1 H1 r w s q => f v d G1 H1 r w s q, P.ex⟩, h⟩
theorem Fz.nil {H : Hp} : Fz [] H := fun _ h => by cases h
theorem qi_seq (he : QE X W e te) : QI X W tg e (iSeq te) := PI.imp (pi_seqV he) fun σ H R ⟨F, τ, G, QT', ET, P, q⟩ => by
  refine LE.toI P (k := fun x G1 Q E => match vIt G1 x with
    | some xs => Q xs (fun G2 => vIt G2 x = some xs) G1
    | none => False) q fun v d G1 H1 r w s q => ?_
  split at q
  · rename_i xs ex
    obtain ⟨ev, vs, h, rl⟩ := vIt_ok w r ex
    exact ⟨lfOf d v, vs, ev, h, P.ok _ [d] [v] xs _ [] G1 H1 (itOk_seq (B := (bd X).hide F)) (RpL.one r) ex Fz.nil w s q⟩
  · exact q.elim

/-! ### zip -/
def zipD (xs ys : List D) : List D := (xs.zip ys).map fun p => .tup [p.1, p.2]
theorem zipD_get {xs ys : List D} {i : Nat} {d : D} (h : (zipD xs ys)[i]? = some d) : ∃ x y, xs[i]? = some x ∧ ys[i]? = some y ∧ d = .tup [x, y] := by
  unfold zipD at h
  rw [List.getElem?_map] at h
  cases e : (xs.zip ys)[i]? with
  | none => rw [e] at h; cases h
  | some q =>
    rw [e] at h
    cases h
    obtain ⟨h1, h2⟩ := List.getElem?_zip_eq_some.mp e
    exact ⟨_, _, h1, h2, rfl⟩
def iZip (ta : A1) : I1 := fun τ G Q E => ta τ G (fun ds G1 => match ds with
  | [x, y] => (match vIt G1 x, vIt G1 y with
    | some xs, some ys => Q (zipD xs ys) (fun G2 => vIt G2 x = some xs ∧ vIt G2 y = some ys) G1
    | _, _ => False)
  | _ => False) E
theorem rp_pair {B : Bd} {G : GH} {H : Hp} {T : Addr} {x y : D} {u v : V} (w : Wd B G H) (hT : H T = none) (r1 : Rp B G H x u) (r2 : Rp B G H y v) : Rp B G (upd H T (.tup [u, v])) (.tup [x, y]) (.ref T) :=
  rp_tupN w hT (RpL.cons r1 (RpL.one r2))
theorem itOk_zip {B : Bd} {d e : D} {v u : V} {xs ys : List D} : ItOk B (JzL B.K (lfOf d v) (lfOf e u)) [d, e] [v, u] (zipD xs ys) (fun G => vIt G d = some xs ∧ vIt G e = some ys) [] where
  go F G H i ry w g _ hi := by
    obtain ⟨_, _, e1, r1, ry⟩ := ry.uncons
    cases e1
    obtain ⟨_, _, e1, r2, _⟩ := ry.uncons
    cases e1
    obtain ⟨_, vs, h1, q1⟩ := vIt_ok w r1 g.1
    obtain ⟨_, us, h2, q2⟩ := vIt_ok w r2 g.2
    obtain ⟨x, y, f1, f2, _⟩ := zipD_get (List.getElem?_eq_getElem hi)
    obtain ⟨a, g1, _⟩ := q1.get f1
    obtain ⟨b, g2, _⟩ := q2.get f2
    exact ⟨vs, us, a, b, h1, h2, g1, g2⟩
  yld F G H i z z' H' ry w g _ ex hy := by
    obtain ⟨_, _, e1, r1, ry⟩ := ry.uncons
    cases e1
    obtain ⟨_, _, e1, r2, _⟩ := ry.uncons
    cases e1
    obtain ⟨_, vs, h1, q1⟩ := vIt_ok w r1 g.1
    obtain ⟨_, us, h2, q2⟩ := vIt_ok w r2 g.2
    obtain ⟨T, a, b, rfl, hT, rfl, k1, k2⟩ := hy
    obtain ⟨x, y, f1, f2, rfl⟩ := zipD_get ex
    obtain ⟨a', g1, s1⟩ := q1.get f1
    obtain ⟨b', g2, s2⟩ := q2.get f2
    have e1 := k1 vs h1
    have e2 := k2 us h2
    rw [g1] at e1; cases e1
    rw [g2] at e2; cases e2
    exact ⟨rp_pair w hT s1 s2, w.fresh hT, Stp.fresh hT⟩
  stop F G H ry w g _ := by
    obtain ⟨_, _, e1, r1, ry⟩ := ry.uncons
    cases e1
    obtain ⟨_, _, e1, r2, _⟩ := ry.uncons
    cases e1
    obtain ⟨_, vs, h1, q1⟩ := vIt_ok w r1 g.1
    obtain ⟨_, us, h2, q2⟩ := vIt_ok w r2 g.2
    refine ⟨vs, us, h1, h2, ?_⟩
    rw [q1.length, q2.length]
    simp [zipD]
theorem qi_zip (hg : Gl X "zip") (hm : X.mg "zip" = none) (ha : QA X W [e, e2] ta) (hs : starEach [e, e2] X.env = (false, eval e X.env) :: starEach [e2] X.env := by rfl) (hpl : (backTo pos (starEach [e2] X.env)).any (·.1) = false := by rfl) :
    QI X W (.Tuple elts kk tpos) (.Call (.Name "zip" p) [e, e2] [] pos) (iZip ta) := PI.imp (pi_zipV hg hm ha hs hpl) fun σ H R ⟨F, τ, G, QT', ET, P, q⟩ => by
  refine LA.toI P (k := fun ds G1 Q E => match ds with
    | [x, y] => (match vIt G1 x, vIt G1 y with
      | some xs, some ys => Q (zipD xs ys) (fun G2 => vIt G2 x = some xs ∧ vIt G2 y = some ys) G1
      | _, _ => False)
    | _ => False) q fun vs ds G1 H1 r w s q => ?_
  split at q
  · rename_i x y
    split at q
    · rename_i xs ys e1 e2
      obtain ⟨v, _, rfl, r1, r'⟩ := r.uncons
      obtain ⟨u, _, rfl, r2, r''⟩ := r'.uncons
      rw [r''.nil_inv]
      obtain ⟨ev, vs, h1, q1⟩ := vIt_ok w r1 e1
      obtain ⟨eu, us, h2, q2⟩ := vIt_ok w r2 e2
      refine ⟨lfOf x v, lfOf y u, vs, us, by rw [← ev, ← eu], h1, h2, P.ok _ [x, y] [v, u] _ _ [] G1 H1 (itOk_zip (B := (bd X).hide F)) (RpL.cons r1 (RpL.one r2)) ⟨e1, e2⟩ Fz.nil w s q⟩
    · exact q.elim
  · exact q.elim

/-! ### range -/
def rngD (lo : Int) (n : Nat) : List D := (List.range n).map fun i => .int (lo + (i : Nat))
theorem itOk_rng {B : Bd} {lo : Int} {n : Nat} : ItOk B (Itr lo n) [] [] (rngD lo n) (fun _ => True) [] where
  go F G H i _ _ _ _ hi := by
    show i < n
    simpa [rngD] using hi
  yld F G H i d v H' _ w _ _ ex hy := by
    obtain ⟨rfl, rfl⟩ := hy
    unfold rngD at ex
    rw [List.getElem?_map] at ex
    cases e : (List.range n)[i]? with
    | none => rw [e] at ex; cases ex
    | some k =>
      rw [e] at ex
      cases ex
      obtain ⟨hk, ek⟩ := List.getElem?_eq_some_iff.mp e
      have : k = i := by rw [← ek]; simp
      subst this
      exact ⟨rp_int, w, Stp.refl⟩
  stop F G H _ _ _ _ := by
    show n ≤ (rngD lo n).length
    simp [rngD]
def iRng (ta : A1) : I1 := fun τ G Q E => ta τ G (fun ds G1 => match ds with
  | [.int j] => -(2 ^ 62) ≤ j ∧ j < 2 ^ 62 ∧ Q (rngD 0 j.toNat) (fun _ => True) G1
  | _ => False) E
def iRng2' (ta : A1) : I1 := fun τ G Q E => ta τ G (fun ds G1 => match ds with
  | [.int i, .int j] => (-(2 ^ 62) ≤ i ∧ i < 2 ^ 62 ∧ -(2 ^ 62) ≤ j ∧ j < 2 ^ 62) ∧ Q (rngD i (j - i).toNat) (fun _ => True) G1
  | _ => False) E
theorem qi_rng {a : Expr} (hg : Gl X "range") (hm : X.mg "range" = none) (ha : QA X W [a] ta) (hs : starEach [a] X.env = [(false, eval a X.env)] := by rfl) : QI X W tg (.Call (.Name "range" p) [a] [] pos) (iRng ta) :=
  PI.imp (pi_range1 hg hm ha hs) fun σ H R ⟨F, τ, G, QT', ET, P, q⟩ => by
    refine LA.toI P (k := fun ds G1 Q E => match ds with
      | [.int j] => -(2 ^ 62) ≤ j ∧ j < 2 ^ 62 ∧ Q (rngD 0 j.toNat) (fun _ => True) G1
      | _ => False) q fun vs ds G1 H1 r w s q => ?_
    split at q
    · obtain ⟨v, _, rfl, r1, r'⟩ := r.uncons
      rw [r'.nil_inv, r1.int_inv]
      exact ⟨_, rfl, q.1, q.2.1, P.ok _ [] [] _ _ [] G1 H1 itOk_rng RpL.nil trivial Fz.nil w s q.2.2⟩
    · exact q.elim
theorem qi_rng2 {a b : Expr} (hg : Gl X "range") (hm : X.mg "range" = none) (ha : QA X W [a, b] ta) (hs : starEach [a, b] X.env = [(false, eval a X.env), (false, eval b X.env)] := by rfl) (hs2 : starEach [b] X.env = [(false, eval b X.env)] := by rfl) :
    QI X W tg (.Call (.Name "range" p) [a, b] [] pos) (iRng2' ta) :=
  PI.imp (pi_range2 hg hm ha hs hs2) fun σ H R ⟨F, τ, G, QT', ET, P, q⟩ => by
    refine LA.toI P (k := fun ds G1 Q E => match ds with
      | [.int i, .int j] => (-(2 ^ 62) ≤ i ∧ i < 2 ^ 62 ∧ -(2 ^ 62) ≤ j ∧ j < 2 ^ 62) ∧ Q (rngD i (j - i).toNat) (fun _ => True) G1
      | _ => False) q fun vs ds G1 H1 r w s q => ?_
    split at q
    · obtain ⟨v, _, rfl, r1, r'⟩ := r.uncons
      obtain ⟨u, _, rfl, r2, r''⟩ := r'.uncons
      rw [r''.nil_inv, r1.int_inv, r2.int_inv]
      exact ⟨_, _, rfl, q.1, P.ok _ [] [] _ _ [] G1 H1 itOk_rng RpL.nil trivial Fz.nil w s q.2⟩
    · exact q.elim
end
end TL
end
section
/-! TL7: built-in functions and types. -/
namespace TL
open PySem PySem.Spec L2

abbrev RC := List D → GH → KD → Prop
/-- a built-in at both levels -/
def SimC (B : Bd) (r : RC) (rH : List V → Hp → VK → Prop) : Prop := ∀ (F : Addr → Prop) (W : WX) (σ : L2.St) (H : Hp) (Q : VK) (τ : Sl) (G : GH) (QT' : KD) (ET : KX) (ds : List D) (vs : List V), Pt (B.hide F) W σ H Q τ G QT' ET → RpL (B.hide F) G H ds vs → r ds G QT' → rH vs H Q
def eB (r : RC) (ta : A1) : E1 := fun τ G Q E => ta τ G (fun ds G1 => r ds G1 Q) E
theorem le_b {B : Bd} {W : WX} {r : RC} {rH : List V → Hp → VK → Prop} {ta : A1} {σ : L2.St} {H : Hp} {Q : VK} (s : SimC B r rH) (h : LE B W (eB r ta) σ H Q) : tCB rH (LA B W ta) σ H Q := by
  obtain ⟨F, τ, G, QT', ET, p, t⟩ := h
  exact LA.bind (P := p) (k := fun ds G1 Q E => r ds G1 Q) t fun vs ds G1 H1 p1 r1 s1 q1 => s F W σ H1 Q τ G1 QT' ET ds vs p1 r1 q1
section
variable {X : Cx} {W : WX} {x : Str} {p pos : Pos} {e : Expr} {es : List Expr} {ta : A1} {id T : String} {r : RC} {rH : List V → Hp → VK → Prop}
theorem qe_bi (s : SimC (bd X) r rH) (hc : CallR X (.builtin id) rH) (hg : Gl X x) (hm : X.mg x = none) (hv : bootBuiltins x = some (.builtin id)) (ha : QA X W (e :: es) ta) (hn : x ≠ "__name__" := by decide) (hdb : (x == ("__debug__" : Str)) = false := by decide)
    (he : starEach (e :: es) X.env = (false, eval e X.env) :: starEach es X.env := by rfl) (hpl : (backTo pos (starEach es X.env)).any (·.1) = false := by rfl) : QE X W (.Call (.Name x p) (e :: es) [] pos) (eB r ta) :=
  PE.imp (pe_callB hc hg hm hv ha hn hdb he hpl) fun _ _ _ h => le_b s h
theorem qe_bt (s : SimC (bd X) r rH) (hc : CallR X (.type T) rH) (hg : Gl X x) (hm : X.mg x = none) (hv : bootBuiltins x = some (.type T)) (ha : QA X W (e :: es) ta) (hn : x ≠ "__name__" := by decide) (hdb : (x == ("__debug__" : Str)) = false := by decide)
    (he : starEach (e :: es) X.env = (false, eval e X.env) :: starEach es X.env := by rfl) (hpl : (backTo pos (starEach es X.env)).any (·.1) = false := by rfl) : QE X W (.Call (.Name x p) (e :: es) [] pos) (eB r ta) :=
  PE.imp (pe_callTy hc hg hm hv ha hn hdb he hpl) fun _ _ _ h => le_b s h
theorem qe_bt0 (s : SimC (bd X) r rH) (hc : CallR X (.type T) rH) (hg : Gl X x) (hm : X.mg x = none) (hv : bootBuiltins x = some (.type T)) (hn : x ≠ "__name__" := by decide) (hdb : (x == ("__debug__" : Str)) = false := by decide) : QE X W (.Call (.Name x p) [] [] pos) (eB r aNil) :=
  PE.imp (pe_callTy0 hc hg hm hv hn hdb) fun _ _ _ h => by
    obtain ⟨F, τ, G, QT', ET, p, t⟩ := h
    exact s F W _ _ _ τ G QT' ET [] [] p RpL.nil t
end
section
variable {B : Bd} {G : GH} {H : Hp}
theorem RpL.inv1 {d : D} {vs : List V} (h : RpL B G H [d] vs) : ∃ v, vs = [v] ∧ Rp B G H d v := by
  obtain ⟨v, r, rfl, h1, q⟩ := h.uncons
  exact ⟨v, by rw [q.nil_inv], h1⟩
theorem RpL.inv2 {d e : D} {vs : List V} (h : RpL B G H [d, e] vs) : ∃ v u, vs = [v, u] ∧ Rp B G H d v ∧ Rp B G H e u := by
  obtain ⟨v, r, rfl, h1, q⟩ := h.uncons
  obtain ⟨u, rfl, h2⟩ := q.inv1
  exact ⟨v, u, rfl, h1, h2⟩
/-- a list of ints, of bools, of texts -/
def intsD : List D → Option (List Int)
  | [] => some []
  | .int i :: r => (intsD r).map (i :: ·)
  | _ => none
def blsD : List D → Option (List Bool)
  | [] => some []
  | .bl b :: r => (blsD r).map (b :: ·)
  | _ => none
def strsD : List D → Option (List Str)
  | [] => some []
  | .str b :: r => (strsD r).map (b :: ·)
  | _ => none
theorem intsD_ok : ∀ {xs : List D} {vs : List V} {ns : List Int}, RpL B G H xs vs → intsD xs = some ns → vs = ns.map V.int
  | [], vs, ns, r, e => by cases e; exact r.nil_inv
  | d :: ds, vs, ns, r, e => by
    obtain ⟨v, q, rfl, h, t⟩ := r.uncons
    cases d with
    | int i =>
      unfold intsD at e
      cases e2 : intsD ds with
      | none => rw [e2] at e; cases e
      | some ms =>
        rw [e2] at e
        cases e
        rw [h.int_inv, intsD_ok t e2]; rfl
    | _ => cases e
theorem blsD_ok : ∀ {xs : List D} {vs : List V} {ns : List Bool}, RpL B G H xs vs → blsD xs = some ns → vs = ns.map V.bl
  | [], vs, ns, r, e => by cases e; exact r.nil_inv
  | d :: ds, vs, ns, r, e => by
    obtain ⟨v, q, rfl, h, t⟩ := r.uncons
    cases d with
    | bl i =>
      unfold blsD at e
      cases e2 : blsD ds with
      | none => rw [e2] at e; cases e
      | some ms =>
        rw [e2] at e
        cases e
        rw [h.bl_inv, blsD_ok t e2]; rfl
    | _ => cases e
theorem strsD_ok : ∀ {xs : List D} {vs : List V} {ns : List Str}, RpL B G H xs vs → strsD xs = some ns → vs = ns.map V.str
  | [], vs, ns, r, e => by cases e; exact r.nil_inv
  | d :: ds, vs, ns, r, e => by
    obtain ⟨v, q, rfl, h, t⟩ := r.uncons
    cases d with
    | str i =>
      unfold strsD at e
      cases e2 : strsD ds with
      | none => rw [e2] at e; cases e
      | some ms =>
        rw [e2] at e
        cases e
        rw [h.str_inv, strsD_ok t e2]; rfl
    | _ => cases e
end

/-! ### abs, max, min, divmod, len -/
def rAbs' : RC := fun ds G Q => match ds with
  | [.int i] => Q (.int (if i < 0 then -i else i)) G
  | _ => False
theorem sim_abs {B : Bd} : SimC B rAbs' (fun xs H Q => ∃ i, xs = [.int i] ∧ Q (.int (if i < 0 then -i else i)) H) := by
  intro F W σ H Q τ G QT' ET ds vs p r h
  unfold rAbs' at h
  split at h
  · obtain ⟨v, rfl, r1⟩ := r.inv1
    rw [r1.int_inv]
    exact ⟨_, rfl, p.int h⟩
  · exact h.elim
def rMax2' : RC := fun ds G Q => match ds with
  | [.int i, .int j] => Q (.int (if j > i then j else i)) G
  | _ => False
def rMin2' : RC := fun ds G Q => match ds with
  | [.int i, .int j] => Q (.int (if j < i then j else i)) G
  | _ => False
theorem sim_max2 {B : Bd} : SimC B rMax2' (fun xs H Q => ∃ i j, xs = [.int i, .int j] ∧ Q (.int (if j > i then j else i)) H) := by
  intro F W σ H Q τ G QT' ET ds vs p r h
  unfold rMax2' at h
  split at h
  · obtain ⟨v, u, rfl, r1, r2⟩ := r.inv2
    rw [r1.int_inv, r2.int_inv]
    exact ⟨_, _, rfl, p.int h⟩
  · exact h.elim
theorem sim_min2 {B : Bd} : SimC B rMin2' (fun xs H Q => ∃ i j, xs = [.int i, .int j] ∧ Q (.int (if j < i then j else i)) H) := by
  intro F W σ H Q τ G QT' ET ds vs p r h
  unfold rMin2' at h
  split at h
  · obtain ⟨v, u, rfl, r1, r2⟩ := r.inv2
    rw [r1.int_inv, r2.int_inv]
    exact ⟨_, _, rfl, p.int h⟩
  · exact h.elim
def rDvm : RC := fun ds G Q => match ds with
  | [.int i, .int j] => CDivP i j ∧ Q (.tup [.int (i / j), .int (i % j)]) G
  | _ => False
theorem sim_dvm {B : Bd} : SimC B rDvm (fun xs H Q => ∃ i j, xs = [.int i, .int j] ∧ CDivP i j ∧ ∀ p, H p = none → Q (.ref p) (upd H p (.tup [.int (i / j), .int (i % j)]))) := by
  intro F W σ H Q τ G QT' ET ds vs p r h
  unfold rDvm at h
  split at h
  · obtain ⟨v, u, rfl, r1, r2⟩ := r.inv2
    rw [r1.int_inv, r2.int_inv]
    exact ⟨_, _, rfl, h.1, fun t ht => p.tupN ht (RpL.cons rp_int (RpL.one rp_int)) h.2⟩
  · exact h.elim
/-- a value's length -/
def lenD (G : GH) : D → Option Nat
  | .str x => if x.length ≤ sizeLine then some x.length else none
  | d => match vQ G d with
    | some xs => some xs.length
    | none => match d with
      | .ref p => (match G p with
        | some (.dK kvs) => some kvs.length
        | some (.dT kvs) => some kvs.length
        | _ => none)
      | _ => none
def rLen' : RC := fun ds G Q => match ds with
  | [d] => (match lenD G d with
    | some n => Q (.int n) G
    | none => False)
  | _ => False
def rLenV (K : PySem.W.Frag) : List V → Hp → VK → Prop := fun vs H Q => (∃ x n, vs = [x] ∧ LenV K x H n ∧ Q (.int n) H) ∨ ((∃ a kvs, vs = [V.ref a] ∧ H a = some (.dK kvs) ∧ Q (.int kvs.length) H) ∨ rLenT vs H Q)
theorem cr_len {X : Cx} : CallR X (.builtin "len") (rLenV X.K) := CallR.or call_len (CallR.or call_lenD call_len_dT)
theorem sim_len {B : Bd} : SimC B rLen' (rLenV B.K) := by
  intro F W σ H Q τ G QT' ET ds vs p r h
  unfold rLen' at h
  split at h
  · rename_i d
    obtain ⟨v, rfl, r1⟩ := r.inv1
    split at h
    · rename_i n en
      unfold lenD at en
      split at en
      · split at en
        · rename_i hz
          cases en
          rw [r1.str_inv]
          exact .inl ⟨_, _, rfl, ⟨hz, rfl⟩, p.int h⟩
        · cases en
      · split at en
        · rename_i xs ex
          cases en
          obtain ⟨a, vs, rfl, ha, ra⟩ := vQ_ok p.wd r1 ex
          refine .inl ⟨_, xs.length, rfl, ?_, p.int h⟩
          rcases ha with ha | ha
          · exact .inl ⟨vs, ha, ra.length.symm⟩
          · exact .inr ⟨vs, ha, ra.length.symm⟩
        · split at en
          · rename_i q hq hq2
            rw [r1.ref_inv]
            split at en
            · rename_i kvs eg
              cases en
              obtain ⟨us, h1, h2⟩ := p.wd.cl q _ eg
              refine .inr (.inl ⟨q, us, rfl, h1, ?_⟩)
              rw [(RpG.k.mp h2).length]
              exact p.int h
            · rename_i kvs eg
              cases en
              obtain ⟨us, h1, h2⟩ := p.wd.cl q _ eg
              refine .inr (.inr ⟨q, us, rfl, h1, ?_⟩)
              rw [(RpG.t.mp h2).length]
              exact p.int h
            · cases en
          · cases en
    · exact h.elim
  · exact h.elim

/-! ### list, tuple -/
def rLst' : RC := fun ds G Q => match ds with
  | [d] => (match vQ G d with
    | some xs => Q (.lst xs) G
    | none => False)
  | _ => False
def rLstC' : RC := fun ds G Q => match ds with
  | [d] => (match vQ G d with
    | some xs => ∀ p, G p = none → Q (.ref p) (gup G p (.lst xs))
    | none => False)
  | _ => False
def rTup' : RC := fun ds G Q => match ds with
  | [.kt xs] => Q (.kt xs) G
  | [d] => (match vQ G d with
    | some xs => Q (.tup xs) G
    | none => False)
  | _ => False
abbrev rLstV (K : PySem.W.Frag) : List V → Hp → VK → Prop := fun xs H Q => ∃ p ys, xs = [.ref p] ∧ (SqL K H p ys ∨ SqT K H p ys) ∧ ∀ l, H l = none → Q (.ref l) (upd H l (.lst ys))
theorem sim_lst {B : Bd} : SimC B rLst' (rLstV B.K) := by
  intro F W σ H Q τ G QT' ET ds vs p r h
  unfold rLst' at h
  split at h
  · obtain ⟨v, rfl, r1⟩ := r.inv1
    split at h
    · rename_i xs ex
      obtain ⟨a, us, rfl, ha, ra⟩ := vQ_ok p.wd r1 ex
      exact ⟨a, us, rfl, ha, fun l hl => p.lstN hl ra h⟩
    · exact h.elim
  · exact h.elim
theorem sim_lstC {B : Bd} : SimC B rLstC' (rLstV B.K) := by
  intro F W σ H Q τ G QT' ET ds vs p r h
  unfold rLstC' at h
  split at h
  · obtain ⟨v, rfl, r1⟩ := r.inv1
    split at h
    · rename_i xs ex
      obtain ⟨a, us, rfl, ha, ra⟩ := vQ_ok p.wd r1 ex
      exact ⟨a, us, rfl, ha, fun l hl => p.lstC hl ra h⟩
    · exact h.elim
  · exact h.elim
theorem sim_tup {B : Bd} : SimC B rTup' (fun xs H Q => ∃ p ys, xs = [.ref p] ∧ ((SqL B.K H p ys ∧ ∀ l, H l = none → Q (.ref l) (upd H l (.tup ys))) ∨ (SqT B.K H p ys ∧ Q (.ref p) H))) := by
  intro F W σ H Q τ G QT' ET ds vs p r h
  unfold rTup' at h
  split at h
  · obtain ⟨v, rfl, r1⟩ := r.inv1
    obtain ⟨a, us, rfl, f, ra⟩ := id r1.kt_inv
    exact ⟨a, us, rfl, .inr ⟨.inr f, p.val r1 h⟩⟩
  · rename_i d hk
    obtain ⟨v, rfl, r1⟩ := r.inv1
    split at h
    · rename_i xs ex
      by_cases ht : ∃ ys, d = .tup ys
      · obtain ⟨ys, rfl⟩ := ht
        cases ex
        obtain ⟨a, us, rfl, f, ra⟩ := r1.tup_inv
        exact ⟨a, us, rfl, .inr ⟨SqT.of f, p.val r1 h⟩⟩
      · obtain ⟨a, us, rfl, f, ra⟩ := vQ_list p.wd r1 ex (fun ys e => ht ⟨ys, e⟩) (fun ys e => hk ys (by rw [e]))
        exact ⟨a, us, rfl, .inl ⟨f, fun l hl => p.tupN hl ra h⟩⟩
    · exact h.elim
  · exact h.elim

/-! ### any, all, sum, min, max, sorted of a list -/
def rAll' : RC := fun ds G Q => match ds with
  | [d] => (match vL G d with
    | some xs => (match blsD xs with
      | some bs => Q (.bl (bs.all id)) G
      | none => False)
    | none => False)
  | _ => False
def rAny' : RC := fun ds G Q => match ds with
  | [d] => (match vL G d with
    | some xs => (match blsD xs with
      | some bs => Q (.bl (bs.any id)) G
      | none => False)
    | none => False)
  | _ => False
theorem vL_sq {B : Bd} {G : GH} {H : Hp} {d : D} {v : V} (w : Wd B G H) (r : Rp B G H d v) {xs : List D} (e : vL G d = some xs) : ∃ a vs, v = .ref a ∧ SqL B.K H a vs ∧ RpL B G H xs vs := by
  obtain ⟨a, vs, h1, h2, h3⟩ := vL_ok w r e
  exact ⟨a, vs, h1, SqL.of h2, h3⟩
theorem sim_all {B : Bd} : SimC B rAll' (rAll B.K) := by
  intro F W σ H Q τ G QT' ET ds vs p r h
  unfold rAll' at h
  split at h
  · obtain ⟨v, rfl, r1⟩ := r.inv1
    split at h
    · rename_i xs ex
      obtain ⟨a, us, rfl, f, ra⟩ := vL_sq p.wd r1 ex
      split at h
      · rename_i bs eb
        rw [blsD_ok ra eb] at f
        exact ⟨a, bs, rfl, f, p.bl h⟩
      · exact h.elim
    · exact h.elim
  · exact h.elim
theorem sim_any {B : Bd} : SimC B rAny' (rAny B.K) := by
  intro F W σ H Q τ G QT' ET ds vs p r h
  unfold rAny' at h
  split at h
  · obtain ⟨v, rfl, r1⟩ := r.inv1
    split at h
    · rename_i xs ex
      obtain ⟨a, us, rfl, f, ra⟩ := vL_sq p.wd r1 ex
      split at h
      · rename_i bs eb
        rw [blsD_ok ra eb] at f
        exact ⟨a, bs, rfl, f, p.bl h⟩
      · exact h.elim
    · exact h.elim
  · exact h.elim
def rInts (k : List Int → (Int → Prop) → Prop) : RC := fun ds G Q => match ds with
  | [d] => (match vL G d with
    | some xs => (match intsD xs with
      | some ns => k ns fun m => Q (.int m) G
      | none => False)
    | none => False)
  | _ => False
def rSum' : RC := rInts fun ns Q => Q ns.sum
def rMaxL' : RC := rInts fun ns Q => 0 < ns.length ∧ ∀ m, m ∈ ns → (∀ y, y ∈ ns → y ≤ m) → Q m
def rMinL' : RC := rInts fun ns Q => 0 < ns.length ∧ ∀ m, m ∈ ns → (∀ y, y ∈ ns → m ≤ y) → Q m
theorem ints_inv {B : Bd} {W : WX} {σ : L2.St} {H : Hp} {Q : VK} {τ : Sl} {G : GH} {QT' : KD} {ET : KX} {ds : List D} {vs : List V} {k : List Int → (Int → Prop) → Prop} (p : Pt B W σ H Q τ G QT' ET) (r : RpL B G H ds vs) (h : rInts k ds G QT') : ∃ a ns, vs = [V.ref a] ∧ SqL B.K H a (ns.map V.int) ∧ k ns fun m => QT' (.int m) G := by
  unfold rInts at h
  split at h
  · obtain ⟨v, rfl, r1⟩ := r.inv1
    split at h
    · rename_i xs ex
      obtain ⟨a, us, rfl, f, ra⟩ := vL_sq p.wd r1 ex
      split at h
      · rename_i ns eb
        rw [intsD_ok ra eb] at f
        exact ⟨a, ns, rfl, f, h⟩
      · exact h.elim
    · exact h.elim
  · exact h.elim
theorem sim_sum {B : Bd} : SimC B rSum' (rSum B.K) := by
  intro F W σ H Q τ G QT' ET ds vs p r h
  obtain ⟨a, ns, rfl, f, q⟩ := ints_inv p r h
  exact ⟨a, ns, rfl, f, p.int q⟩
theorem sim_maxL {B : Bd} : SimC B rMaxL' (rMax B.K) := by
  intro F W σ H Q τ G QT' ET ds vs p r h
  obtain ⟨a, ns, rfl, f, q⟩ := ints_inv p r h
  exact ⟨a, ns, rfl, f, q.1, fun m h1 h2 => p.int (q.2 m h1 h2)⟩
theorem sim_minL {B : Bd} : SimC B rMinL' (rMin B.K) := by
  intro F W σ H Q τ G QT' ET ds vs p r h
  obtain ⟨a, ns, rfl, f, q⟩ := ints_inv p r h
  exact ⟨a, ns, rfl, f, q.1, fun m h1 h2 => p.int (q.2 m h1 h2)⟩

/-! ### isinstance -/
/-- an own class whose instances isinstance knows -/
structure ClsI (K : PySem.W.Frag) (C : Addr) : Prop where
  cl : Cls K C
  ha : PySem.W.findIn K (.ref C) "__class__" = some (some (.builtin "object.__class__"))
  hn : PySem.W.specialIn K (.builtin "object.__class__") "__get__" = some (some (.builtin "getset_descriptor.__get__"))
  htk : PySem.W.takesIn K (.builtin "object.__class__") = some true
  hm : PySem.W.mroIn K C (.type "object") = some true
/-- a tree's type -/
def tyD (Cs : List Addr) (G : GH) : D → Option Value
  | .non => some (.type "NoneType")
  | .bl _ => some (.type "bool")
  | .int _ => some (.type "int")
  | .str _ => some (.type "str")
  | .lst _ => some (.type "list")
  | .tup _ | .kt _ => some (.type "tuple")
  | .dK _ => some (.type "dict")
  | .ins C _ => if C ∈ Cs then some (.ref C) else none
  | .ref p => (match G p with
    | some (.lst _) => some (.type "list")
    | some (.dK _) | some (.dT _) | some (.dKl _) => some (.type "dict")
    | some (.ins C _) => if C ∈ Cs then some (.ref C) else none
    | _ => none)
  | _ => none
theorem tyD_ok {B : Bd} {G : GH} {H : Hp} {Cs : List Addr} (hc : ∀ C ∈ Cs, ClsI B.K C) (w : Wd B G H) {d : D} {v : V} (r : Rp B G H d v) {t : Value} (e : tyD Cs G d = some t) : TyX B.K H v t := by
  cases d with
  | non => cases e; rw [r.non_inv]; exact .base .non
  | bl b => cases e; rw [r.bl_inv]; exact .base (.bl b)
  | int i => cases e; rw [r.int_inv]; exact .base (.int i)
  | str x => cases e; rw [r.str_inv]; exact .base (.str x)
  | lst xs =>
    cases e
    obtain ⟨a, vs, rfl, f, _⟩ := r.lst_inv
    exact .base (.lst f.1)
  | tup xs =>
    cases e
    obtain ⟨a, vs, rfl, f, _⟩ := r.tup_inv
    exact .base (.tup f)
  | kt xs =>
    cases e
    obtain ⟨a, vs, rfl, ⟨o, its, n, h1, h2, _⟩, _⟩ := r.kt_inv
    exact .kTuple h1 h2
  | dK xs =>
    cases e
    unfold Rp at r
    obtain ⟨a, o, vs, rfl, f, _⟩ := r
    exact .fDict f.1
  | ins C xs =>
    unfold tyD at e
    dsimp only at e
    split at e
    · rename_i hC
      cases e
      unfold Rp at r
      obtain ⟨a, dx, vs, rfl, f, _⟩ := r
      have x := hc C hC
      exact .base (.ins f.1 x.cl x.ha x.hn x.htk x.hm)
    · cases e
  | ref p =>
    unfold tyD at e
    dsimp only at e
    rw [r.ref_inv]
    split at e
    · rename_i xs g
      cases e
      obtain ⟨vs, h, _⟩ := w.cl p _ g
      exact .base (.lst h)
    · rename_i xs g
      cases e
      obtain ⟨vs, h, _⟩ := w.cl p _ g
      exact .base (.dK h)
    · rename_i xs g
      cases e
      obtain ⟨vs, h, _⟩ := w.cl p _ g
      exact .base (.dT h)
    · rename_i xs g
      cases e
      obtain ⟨o, vs, h, _⟩ := w.cl p _ g
      exact .fDict h
    · rename_i C xs g
      split at e
      · rename_i hC
        cases e
        obtain ⟨dx, vs, h, _⟩ := w.cl p _ g
        have x := hc C hC
        exact .base (.ins h x.cl x.ha x.hn x.htk x.hm)
      · cases e
    · cases e
  | _ => cases e
/-- a class as a tree -/
def clD : D → Option Value
  | .ty n => some (.type n)
  | .ref C => some (.ref C)
  | _ => none
def clsD : List D → Option (List Value)
  | [] => some []
  | d :: r => match clD d, clsD r with
    | some u, some us => some (u :: us)
    | _, _ => none
theorem Rp.ty_inv {B : Bd} {G : GH} {H : Hp} {n : String} {v : V} (h : Rp B G H (.ty n) v) : v = .ty n := by simpa [Rp] using h
theorem clD_ok {B : Bd} {G : GH} {H : Hp} {d : D} {v : V} {u : Value} (r : Rp B G H d v) (e : clD d = some u) : ClsV v u := by
  cases d with
  | ty n => cases e; rw [r.ty_inv]; exact .ty n
  | ref C => cases e; rw [r.ref_inv]; exact .own C
  | _ => cases e
theorem clsD_ok {B : Bd} {G : GH} {H : Hp} : ∀ {ds : List D} {vs : List V} {us : List Value}, RpL B G H ds vs → clsD ds = some us → Paired ClsV vs us
  | [], vs, us, r, e => by cases e; rw [r.nil_inv]; exact .nil
  | d :: ds, vs, us, r, e => by
    obtain ⟨v, q, rfl, h, t⟩ := r.uncons
    unfold clsD at e
    split at e
    · rename_i u us' e1 e2
      cases e
      exact .cons (clD_ok h e1) (clsD_ok t e2)
    · cases e
abbrev KI2 := Value → Value → Option Bool
/-- one of several -/
def anyI (ki : KI2) (t : Value) : List Value → Option Bool
  | [] => some false
  | c :: r => match ki t c with
    | some true => some true
    | some false => anyI ki t r
    | none => none
theorem anyI_kit {K : PySem.W.Frag} {t : Value} : ∀ {us : List Value}, anyI (PySem.W.kitOne K) t us = PySem.W.kitAny K t us
  | [] => rfl
  | c :: r => by
    unfold anyI PySem.W.kitAny
    rw [anyI_kit]
    cases PySem.W.kitOne K t c with
    | none => rfl
    | some b => cases b <;> rfl
def rIsi' (Cs : List Addr) (ki : KI2) : RC := fun ds G Q => match ds with
  | [x, .tup cs] => (match tyD Cs G x, clsD cs with
    | some t, some us => (match anyI ki t us with
      | some b => Q (.bl b) G
      | none => False)
    | _, _ => False)
  | [x, c] => (match tyD Cs G x, clD c with
    | some t, some u => (match ki t u with
      | some b => Q (.bl b) G
      | none => False)
    | _, _ => False)
  | _ => False
theorem cr_isi {X : Cx} : CallR X (.builtin "isinstance") (fun vs H Q => rIsi X.K vs H Q ∨ rIsiT X.K vs H Q) := CallR.or call_isi call_isiT
theorem sim_isi {B : Bd} {Cs : List Addr} (hc : ∀ C ∈ Cs, ClsI B.K C) : SimC B (rIsi' Cs (PySem.W.kitOne B.K)) (fun vs H Q => rIsi B.K vs H Q ∨ rIsiT B.K vs H Q) := by
  intro F W σ H Q τ G QT' ET ds vs p r h
  unfold rIsi' at h
  split at h
  · obtain ⟨v, u, rfl, r1, r2⟩ := r.inv2
    split at h
    · rename_i t us e1 e2
      split at h
      · rename_i b eb
        obtain ⟨a, cs, rfl, f, rc⟩ := r2.tup_inv
        rw [anyI_kit] at eb
        exact .inr ⟨v, a, cs, t, us, b, rfl, f, clsD_ok rc e2, tyD_ok (B := B.hide F) hc p.wd r1 e1, eb, p.bl h⟩
      · exact h.elim
    · exact h.elim
  · obtain ⟨v, u, rfl, r1, r2⟩ := r.inv2
    split at h
    · rename_i t c e1 e2
      split at h
      · rename_i b eb
        exact .inl ⟨v, u, t, c, b, rfl, clD_ok r2 e2, tyD_ok (B := B.hide F) hc p.wd r1 e1, eb, p.bl h⟩
      · exact h.elim
    · exact h.elim
  · exact h.elim
/-- a built-in type as a value -/
theorem qe_tyN {X : Cx} {W : WX} {x : Str} {T : String} {pos : Pos} (hg : Gl X x) (hm : X.mg x = none) (hv : bootBuiltins x = some (.type T)) (hn : x ≠ "__name__" := by decide) (hd : (x == ("__debug__" : Str)) = false := by decide) : QE X W (.Name x pos) (eC (.ty T)) :=
  qe_c (v := .ty T) (pe_bltn hg hm hv rfl hn hd)

/-! ### the rules, ready -/
section
variable {X : Cx} {W : WX} {p pos : Pos} {e : Expr} {es : List Expr} {ta : A1}
def eAbs (ta : A1) : E1 := eB rAbs' ta
def eMax2 (ta : A1) : E1 := eB rMax2' ta
def eMin2 (ta : A1) : E1 := eB rMin2' ta
def eDvm (ta : A1) : E1 := eB rDvm ta
def eLen (ta : A1) : E1 := eB rLen' ta
def eList (ta : A1) : E1 := eB rLst' ta
def eListC (ta : A1) : E1 := eB rLstC' ta
def eTuple (ta : A1) : E1 := eB rTup' ta
def eAll (ta : A1) : E1 := eB rAll' ta
def eAny (ta : A1) : E1 := eB rAny' ta
def eSum (ta : A1) : E1 := eB rSum' ta
def eMaxL (ta : A1) : E1 := eB rMaxL' ta
def eMinL (ta : A1) : E1 := eB rMinL' ta
def eIsi (Cs : List Addr) (K : PySem.W.Frag) (ta : A1) : E1 := eB (rIsi' Cs (PySem.W.kitOne K)) ta
variable (ha : QA X W (e :: es) ta) (he : starEach (e :: es) X.env = (false, eval e X.env) :: starEach es X.env) (hpl : (backTo pos (starEach es X.env)).any (·.1) = false)
include ha he hpl
theorem qe_abs (hg : Gl X "abs") (hm : X.mg "abs" = none) : QE X W (.Call (.Name "abs" p) (e :: es) [] pos) (eAbs ta) := qe_bi sim_abs call_abs hg hm (by rfl) ha (he := he) (hpl := hpl)
theorem qe_max2 (hc : X.calm = true) (hg : Gl X "max") (hm : X.mg "max" = none) : QE X W (.Call (.Name "max" p) (e :: es) [] pos) (eMax2 ta) := qe_bi sim_max2 (call_max2 hc) hg hm (by rfl) ha (he := he) (hpl := hpl)
theorem qe_min2 (hc : X.calm = true) (hg : Gl X "min") (hm : X.mg "min" = none) : QE X W (.Call (.Name "min" p) (e :: es) [] pos) (eMin2 ta) := qe_bi sim_min2 (call_min2 hc) hg hm (by rfl) ha (he := he) (hpl := hpl)
theorem qe_dvm (hg : Gl X "divmod") (hm : X.mg "divmod" = none) : QE X W (.Call (.Name "divmod" p) (e :: es) [] pos) (eDvm ta) := qe_bi sim_dvm call_divmodW hg hm (by rfl) ha (he := he) (hpl := hpl)
theorem qe_len (hg : Gl X "len") (hm : X.mg "len" = none) : QE X W (.Call (.Name "len" p) (e :: es) [] pos) (eLen ta) := qe_bi sim_len cr_len hg hm (by rfl) ha (he := he) (hpl := hpl)
theorem qe_list (hg : Gl X "list") (hm : X.mg "list" = none) : QE X W (.Call (.Name "list" p) (e :: es) [] pos) (eList ta) := qe_bt sim_lst call_list_of hg hm (by rfl) ha (he := he) (hpl := hpl)
theorem qe_listC (hg : Gl X "list") (hm : X.mg "list" = none) : QE X W (.Call (.Name "list" p) (e :: es) [] pos) (eListC ta) := qe_bt sim_lstC call_list_of hg hm (by rfl) ha (he := he) (hpl := hpl)
theorem qe_tuple (hg : Gl X "tuple") (hm : X.mg "tuple" = none) : QE X W (.Call (.Name "tuple" p) (e :: es) [] pos) (eTuple ta) := qe_bt sim_tup call_tuple_of hg hm (by rfl) ha (he := he) (hpl := hpl)
theorem qe_all (hc : X.calm = true) (hg : Gl X "all") (hm : X.mg "all" = none) : QE X W (.Call (.Name "all" p) (e :: es) [] pos) (eAll ta) := qe_bi sim_all (cr_all hc) hg hm (by rfl) ha (he := he) (hpl := hpl)
theorem qe_any (hc : X.calm = true) (hg : Gl X "any") (hm : X.mg "any" = none) : QE X W (.Call (.Name "any" p) (e :: es) [] pos) (eAny ta) := qe_bi sim_any (cr_any hc) hg hm (by rfl) ha (he := he) (hpl := hpl)
theorem qe_sum (hc : X.calm = true) (hg : Gl X "sum") (hm : X.mg "sum" = none) : QE X W (.Call (.Name "sum" p) (e :: es) [] pos) (eSum ta) := qe_bi sim_sum (cr_sum hc) hg hm (by rfl) ha (he := he) (hpl := hpl)
theorem qe_maxL (hc : X.calm = true) (hg : Gl X "max") (hm : X.mg "max" = none) : QE X W (.Call (.Name "max" p) (e :: es) [] pos) (eMaxL ta) := qe_bi sim_maxL (cr_max hc) hg hm (by rfl) ha (he := he) (hpl := hpl)
theorem qe_minL (hc : X.calm = true) (hg : Gl X "min") (hm : X.mg "min" = none) : QE X W (.Call (.Name "min" p) (e :: es) [] pos) (eMinL ta) := qe_bi sim_minL (cr_min hc) hg hm (by rfl) ha (he := he) (hpl := hpl)
theorem qe_isi {Cs : List Addr} (hC : ∀ C ∈ Cs, ClsI X.K C) (hg : Gl X "isinstance") (hm : X.mg "isinstance" = none) : QE X W (.Call (.Name "isinstance" p) (e :: es) [] pos) (eIsi Cs X.K ta) := qe_bi (sim_isi (B := bd X) hC) cr_isi hg hm (by rfl) ha (he := he) (hpl := hpl)
end
end TL
end
section
/-! TL8: methods of lists and texts, stores. -/
namespace TL
open PySem PySem.Spec L2

/-- a method of a list: the cell's content and the arguments | what is handed back and the content then -/
abbrev RM := List D → List D → GH → Option (D × List D) 
def eLm (m : RM) (to : E1) (ta : A1) : E1 := fun τ G Q E => to τ G (fun x G1 => match x with
  | .ref p => (vL G1 (.ref p)).isSome = true ∧ ta τ G1 (fun ds G2 => match G2 p with
    | some (.lst xs) => (match m xs ds G2 with
      | some (d, ys) => Q d (gup G2 p (.lst ys))
      | none => False)
    | _ => False) E
  | _ => False) E
/-- at the lower level -/
def SimL (B : Bd) (m : RM) (rH : V → List V → Hp → VK → Prop) : Prop := ∀ (F : Addr → Prop) (G : GH) (H : Hp) (p : Addr) (xs ys : List D) (vs us : List V) (ds : List D) (d : D) (Q : VK), RpL (B.hide F) G H xs vs → RpL (B.hide F) G H ds us → Wd (B.hide F) G H → H p = some (.lst vs) →
  m xs ds G = some (d, ys) → (∀ v ws, Rp (B.hide F) G H d v → RpL (B.hide F) G H ys ws → Q v (upd H p (.lst ws))) → rH (.ref p) us H Q
section
variable {X : Cx} {W : WX} {o e : Expr} {es : List Expr} {to : E1} {ta : A1} {name : Str} {apos cpos : Pos} {id : String} {m : RM} {rH : V → List V → Hp → VK → Prop}
theorem lm_end {B : Bd} {F : Addr → Prop} {σ : L2.St} {H : Hp} {Q : VK} {τ : Sl} {G : GH} {QT' : KD} {ET : KX} {p : Addr} {us : List V} {ds : List D} (P : Pt (B.hide F) W σ H Q τ G QT' ET) (s : SimL B m rH) (r : RpL (B.hide F) G H ds us)
    (q : match G p with
    | some (.lst xs) => (match m xs ds G with
      | some (d, ys) => QT' d (gup G p (.lst ys))
      | none => False)
    | _ => False) : rH (.ref p) us H Q := by
  split at q
  · rename_i xs g
    split at q
    · rename_i d ys em
      obtain ⟨vs, h1, h2⟩ := P.wd.cl p _ g
      refine s F G H p xs ys vs us ds d Q h2 r P.wd h1 em fun v ws rd rw' => ?_
      have st := Stp.put (H := H) (o := .lst ws) (c' := .lst ys) g (nf_of h1)
      exact P.ok v d _ _ (rd.step P.wd st) (P.wd.put g (nf_of h1) ⟨ws, upd_same, rw'.step P.wd st⟩) st q
    · exact q.elim
  · exact q.elim
theorem qe_lm0 (s : SimL (bd X) m rH) (slot : Slot "list" name id) (hty : typeOf (.builtin id) = pure (.type "method_descriptor")) (hm : MtR X id rH) (ho : QE X W o to)
    (hbase : attributeBase o name X.env (eval o X.env) = eval o X.env := by rfl) (hline : (apos.endLine == cpos.line) = true := by rfl) : QE X W (.Call (.Attribute o name apos) [] [] cpos) (eLm m to aNil) :=
  PE.imp (pe_bm0 PySem.F.plainAttrs_list slot hty hm ho hbase hline) fun σ H Q ⟨F, τ, G, QT', ET, P, q⟩ => by
    refine LE.bind (PT := P) (k := fun x τ G1 Q E => match x with
      | .ref p => (vL G1 (.ref p)).isSome = true ∧ aNil τ G1 (fun ds G2 => match G2 p with
        | some (.lst xs) => (match m xs ds G2 with
          | some (d, ys) => Q d (gup G2 p (.lst ys))
          | none => False)
        | _ => False) E
      | _ => False) q fun v x G1 H1 p1 r1 s1 q1 => ?_
    split at q1
    · rename_i p
      obtain ⟨h1, q2⟩ := q1
      cases ev : vL G1 (.ref p) with
      | none => rw [ev] at h1; cases h1
      | some xs =>
        obtain ⟨a, vs, e1, e2, _⟩ := vL_ok p1.wd r1 ev
        have e3 := r1.ref_inv
        subst e3
        cases e1
        exact ⟨.inl ⟨rfl, vs, SqL.of e2⟩, lm_end (ds := []) p1 s RpL.nil q2⟩
    · exact q1.elim
theorem qe_lm (s : SimL (bd X) m rH) (slot : Slot "list" name id) (hty : typeOf (.builtin id) = pure (.type "method_descriptor")) (hm : MtR X id rH) (ho : QE X W o to) (ha : QA X W (e :: es) ta)
    (hbase : attributeBase o name X.env (eval o X.env) = eval o X.env := by rfl)
    (hfew : ((backTo cpos (starEach (e :: es) X.env)).all (fun x => !x.1) && (backToKw cpos (keywordEach [] X.env)).all (fun x => x.1.isSome)
      && decide ((e :: es).length + ([] : List Keyword).length + (if ([] : List Keyword).isEmpty then 0 else 1) < 30)) = true := by rfl)
    (hline : (apos.endLine == cpos.line) = true := by rfl) (hs : starEach (e :: es) X.env = (false, eval e X.env) :: starEach es X.env := by rfl) (hplain : (backTo cpos (starEach es X.env)).any (·.1) = false := by rfl) :
    QE X W (.Call (.Attribute o name apos) (e :: es) [] cpos) (eLm m to ta) :=
  PE.imp (pe_bm PySem.F.plainAttrs_list slot hty hm ho ha hbase hfew hline hs hplain) fun σ H Q ⟨F, τ, G, QT', ET, P, q⟩ => by
    refine LE.bind (PT := P) (k := fun x τ G1 Q E => match x with
      | .ref p => (vL G1 (.ref p)).isSome = true ∧ ta τ G1 (fun ds G2 => match G2 p with
        | some (.lst xs) => (match m xs ds G2 with
          | some (d, ys) => Q d (gup G2 p (.lst ys))
          | none => False)
        | _ => False) E
      | _ => False) q fun v x G1 H1 p1 r1 s1 q1 => ?_
    split at q1
    · rename_i p
      obtain ⟨h1, q2⟩ := q1
      cases ev : vL G1 (.ref p) with
      | none => rw [ev] at h1; cases h1
      | some xs =>
        obtain ⟨a, vs, e1, e2, _⟩ := vL_ok p1.wd r1 ev
        have e3 := r1.ref_inv
        subst e3
        cases e1
        refine ⟨.inl ⟨rfl, vs, SqL.of e2⟩, ?_⟩
        exact LA.bind (P := p1) (k := fun ds G2 Q E => match G2 p with
          | some (.lst xs) => (match m xs ds G2 with
            | some (d, ys) => Q d (gup G2 p (.lst ys))
            | none => False)
          | _ => False) q2 fun us ds G2 H2 p2 r2 s2 q3 => lm_end p2 s r2 q3
    · exact q1.elim
end
def mAppend : RM := fun xs ds _ => match ds with
  | [y] => if xs.length < sizeLine then some (.non, xs ++ [y]) else none
  | _ => none
def mExtend : RM := fun xs ds G => match ds with
  | [y] => (match vL G y with
    | some zs => if xs.length + zs.length ≤ sizeLine then some (.non, xs ++ zs) else none
    | none => none)
  | _ => none
def mPop : RM := fun xs ds _ => match ds with
  | [] => (match xs[xs.length - 1]? with
    | some y => some (y, xs.dropLast)
    | none => none)
  | _ => none
def mPopAt : RM := fun xs ds _ => match ds with
  | [.int i] => if -(2 ^ 63) ≤ i ∧ i < 2 ^ 63 then (match seqIndex? i xs.length with
    | some k => (match xs[k]? with
      | some y => some (y, xs.eraseIdx k)
      | none => none)
    | none => none) else none
  | _ => none
def mReverse : RM := fun xs ds _ => match ds with
  | [] => some (.non, xs.reverse)
  | _ => none
def mClear : RM := fun _ ds _ => match ds with
  | [] => some (.non, [])
  | _ => none
theorem sl_append {B : Bd} : SimL B mAppend rAppend := by
  intro F G H p xs ys vs us ds d Q rx rd w hp em k
  unfold mAppend at em
  split at em
  · split at em
    · rename_i hz
      cases em
      obtain ⟨v, rfl, r1⟩ := rd.inv1
      exact ⟨p, vs, v, rfl, rfl, hp, by rw [rx.length]; exact hz, k _ _ rp_non (rx.append (RpL.one r1))⟩
    · cases em
  · cases em
theorem sl_extend {B : Bd} : SimL B mExtend rExtend := by
  intro F G H p xs ys vs us ds d Q rx rd w hp em k
  unfold mExtend at em
  split at em
  · split at em
    · rename_i zs ez
      split at em
      · rename_i hz
        cases em
        obtain ⟨v, rfl, r1⟩ := rd.inv1
        obtain ⟨b, ws, rfl, hb, rb⟩ := vL_ok w r1 ez
        exact ⟨p, b, vs, ws, rfl, rfl, hp, hb, by rw [rx.length, rb.length]; exact hz, k _ _ rp_non (rx.append rb)⟩
      · cases em
    · cases em
  · cases em
theorem RpL.dropLast {B : Bd} {G : GH} {H : Hp} {xs : List D} {vs : List V} (r : RpL B G H xs vs) : RpL B G H xs.dropLast vs.dropLast := by
  rw [List.dropLast_eq_take, List.dropLast_eq_take, r.length]
  exact r.take _
theorem RpL.eraseIdx {B : Bd} {G : GH} {H : Hp} {xs : List D} {vs : List V} (i : Nat) (r : RpL B G H xs vs) : RpL B G H (xs.eraseIdx i) (vs.eraseIdx i) := by
  rw [List.eraseIdx_eq_take_drop_succ, List.eraseIdx_eq_take_drop_succ]
  exact (r.take _).append (r.drop _)
theorem sl_pop {B : Bd} : SimL B mPop rPop := by
  intro F G H p xs ys vs us ds d Q rx rd w hp em k
  unfold mPop at em
  split at em
  · split at em
    · rename_i y ey
      cases em
      rw [rd.nil_inv]
      obtain ⟨v, ev, r1⟩ := rx.get ey
      rw [← rx.length] at ev
      exact ⟨p, vs, v, rfl, rfl, hp, ev, k _ _ r1 rx.dropLast⟩
    · cases em
  · cases em
theorem sl_popAt {B : Bd} : SimL B mPopAt rPopAt := by
  intro F G H p xs ys vs us ds d Q rx rd w hp em k
  unfold mPopAt at em
  split at em
  · split at em
    · rename_i hi
      split at em
      · rename_i j ej
        split at em
        · rename_i y ey
          cases em
          obtain ⟨v, rfl, r1⟩ := rd.inv1
          rw [r1.int_inv]
          obtain ⟨u, eu, ru⟩ := rx.get ey
          exact ⟨p, vs, _, j, u, rfl, rfl, hp, hi.1, hi.2, by rw [rx.length]; exact ej, eu, k _ _ ru (rx.eraseIdx j)⟩
        · cases em
      · cases em
    · cases em
  · cases em
theorem sl_reverse {B : Bd} : SimL B mReverse rReverse := by
  intro F G H p xs ys vs us ds d Q rx rd w hp em k
  unfold mReverse at em
  split at em
  · cases em
    rw [rd.nil_inv]
    exact ⟨p, vs, rfl, rfl, hp, k _ _ rp_non rx.reverse⟩
  · cases em
theorem sl_clear {B : Bd} : SimL B mClear rClear := by
  intro F G H p xs ys vs us ds d Q rx rd w hp em k
  unfold mClear at em
  split at em
  · cases em
    rw [rd.nil_inv]
    exact ⟨p, vs, rfl, rfl, hp, k _ _ rp_non RpL.nil⟩
  · cases em

/-! ### o[i] = v -/
/-- the cell with v put at i -/
def putC (G : GH) (o i v : D) : Option GH := match o with
  | .ref p => (match G p with
    | some (.lst xs) => (match i with
      | .int k => (match ixN xs.length k with
        | some j => some (gup G p (.lst (xs.set j v)))
        | none => none)
      | _ => none)
    | some (.dK kvs) => (match keyD i with
      | some k => if kvs.length < sizeLine then some (gup G p (.dK (putD kvs k v))) else none
      | none => none)
    | some (.dT kvs) => (match keyT i with
      | some k => if kvs.length < sizeLine then some (gup G p (.dT (putD kvs k v))) else none
      | none => none)
    | _ => none)
  | _ => none
def rSetV : TSet := fun o i v H Q => rSetL o i v H Q ∨ rSetD o i v H Q
theorem ps_setV {X : Cx} (hu : X.A.units + 1 < cLine) : PSet X rSetV := fun pins s σ H o i v ov iv u Q I ro ri rv h => h.elim (set_list pins s σ H o i v ov iv u Q I ro ri rv) (set_dict hu pins s σ H o i v ov iv u Q I ro ri rv)
theorem RpL.set {B : Bd} {G : GH} {H : Hp} {d : D} {v : V} (r : Rp B G H d v) : ∀ {xs : List D} {vs : List V} (i : Nat), RpL B G H xs vs → RpL B G H (xs.set i d) (vs.set i v)
  | [], vs, i, h => by rw [h.nil_inv]; exact RpL.nil
  | x :: xs, vs, 0, h => by
    obtain ⟨u, q, rfl, _, t⟩ := h.uncons
    exact RpL.cons r t
  | x :: xs, vs, i + 1, h => by
    obtain ⟨u, q, rfl, h1, t⟩ := h.uncons
    exact RpL.cons h1 (RpL.set r i t)
theorem putC_ok {B : Bd} {G G' : GH} {H : Hp} {o i v : D} {ov iv vv : V} {Q : Hp → Prop} (w : Wd B G H) (ro : Rp B G H o ov) (ri : Rp B G H i iv) (rv : Rp B G H v vv) (e : putC G o i v = some G')
    (k : ∀ H', Wd B G' H' → Stp G H G' H' → Q H') : rSetV ov iv vv H Q := by
  unfold putC at e
  split at e
  · rename_i p
    rw [ro.ref_inv]
    split at e
    · rename_i xs g
      split at e
      · rename_i j
        rw [ri.int_inv]
        split at e
        · rename_i n en
          cases e
          obtain ⟨vs, h1, h2⟩ := w.cl p _ g
          have st := Stp.put (H := H) (o := .lst (vs.set n vv)) (c' := .lst (xs.set n v)) g (nf_of h1)
          exact .inl ⟨p, vs, j, n, rfl, rfl, h1, by rw [h2.length]; exact en, k _ (w.put g (nf_of h1) ⟨_, upd_same, (RpL.set rv n h2).step w st⟩) st⟩
        · cases e
      · cases e
    · rename_i kvs g
      split at e
      · rename_i key ek
        split at e
        · rename_i hz
          cases e
          obtain ⟨vs, h1, h2⟩ := w.cl p _ g
          have st := Stp.put (H := H) (o := .dK (putK vs key vv)) (c' := .dK (putD kvs key v)) g (nf_of h1)
          have hl := (RpG.k.mp h2).length
          refine .inr ⟨p, _, rfl, .inl ⟨vs, key, h1, keyD_ok ri ek, by rw [hl]; exact hz, rfl⟩, k _ (w.put g (nf_of h1) ⟨_, upd_same, RpG.k.mpr (((RpG.k.mp h2).put key rv).mono w st)⟩) st⟩
        · cases e
      · cases e
    · rename_i kvs g
      split at e
      · rename_i key ek
        split at e
        · rename_i hz
          cases e
          obtain ⟨vs, h1, h2⟩ := w.cl p _ g
          have st := Stp.put (H := H) (o := .dT (putK vs key vv)) (c' := .dT (putD kvs key v)) g (nf_of h1)
          have hl := (RpG.t.mp h2).length
          obtain ⟨b, e1, hb⟩ := keyT_ok ri ek
          refine .inr ⟨p, _, rfl, .inr ⟨vs, key, b, h1, e1, hb, by rw [hl]; exact hz, rfl⟩, k _ (w.put g (nf_of h1) ⟨_, upd_same, RpG.t.mpr (((RpG.t.mp h2).put key rv).mono w st)⟩) st⟩
        · cases e
      · cases e
    · cases e
  · cases e
section
variable {X : Cx} {W : WX} {pos : Pos}
/-- o[i] = e -/
def sPut (to ti te : E1) : S1 := fun DT E τ G => te τ G (fun v G1 => to τ G1 (fun o G2 => ti τ G2 (fun i G3 => match putC G3 o i v with
  | some G4 => DT.nx τ G4
  | none => False) (fun c f g => E c f τ g)) (fun c f g => E c f τ g)) (fun c f g => E c f τ g)
theorem qs_put {o i e : Expr} {to ti te : E1} {tpos : Pos} (hu : X.A.units + 1 < cLine) (ho : QE X W o to) (hi : QE X W i ti) (he : QE X W e te) (hs : swapsWithSole [.Subscript o i tpos] e pos.line X.env = pure false := by rfl) (hw : swappedStores [.Subscript o i tpos] e X.env = pure none := by rfl)
    (h1 : (assignEach [.Subscript o i tpos] X.env).map (·.2) = [assign (.Subscript o i tpos) X.env] := by rfl)
    (ha : ∀ v, assign (.Subscript o i tpos) X.env v = (do
      let ov ← holding [v] (eval o X.env)
      let iv ← holding [v, ov] (eval i X.env)
      standAt tpos
      holding [v, ov, iv] (setItem ov iv v)
      release [v, ov, iv] []) := by intro _; rfl) : QS X W (.Assign [.Subscript o i tpos] e pos) (sPut to ti te) :=
  PS.imp (ps_asg he (pg_sub ho hi (ps_setV hu) ha) hs hw h1) fun D' σ H ⟨F, τ, G, DT, KT, P, q⟩ => by
    refine LE.inS P (k := fun v τ G1 => to τ G1 (fun o G2 => ti τ G2 (fun i G3 => match putC G3 o i v with
      | some G4 => DT.nx τ G4
      | none => False) (fun c f g => KT c f τ g)) (fun c f g => KT c f τ g)) q fun vv v G1 H1 p1 rv s1 q1 => ?_
    refine LE.inS p1 (k := fun o τ G2 => ti τ G2 (fun i G3 => match putC G3 o i v with
      | some G4 => DT.nx τ G4
      | none => False) (fun c f g => KT c f τ g)) q1 fun ov o G2 H2 p2 ro s2 q2 => ?_
    refine LE.inS p2 (k := fun i τ G3 => match putC G3 o i v with
      | some G4 => DT.nx τ G4
      | none => False) q2 fun iv i G3 H3 p3 ri s3 q3 => ?_
    split at q3
    · rename_i G4 e4
      exact putC_ok p3.wd (ro.step p2.wd s3) ri ((rv.step p1.wd s2).step p2.wd s3) e4 fun H' w' s' => p3.nx σ τ G4 H' (p3.sl.step p3.wd s') w' s' q3
    · exact q3.elim
/-- x op= e: ints -/
def sAug (i : Nat) (f : Int → Int → Int) (te : E1) : S1 := fun DT E τ G => match τ[i]? with
  | some (some (.int n)) => te τ G (fun d G1 => match d with
    | .int m => DT.nx (τ.set i (some (.int (f n m)))) G1
    | _ => False) (fun c f g => E c f τ g)
  | _ => False
theorem qs_aug {i : Nat} {x : Str} {e : Expr} {te : E1} {op : Operator} {f : Int → Int → Int} {pos' : Pos} (hN : X.N.Nodup) (hi : X.N[i]? = some x) (hx : Loc X.env.scope x) (he : QE X W e te) (ho : PIp X op (ipI f)) (hf : X.fn x = true ∨ X.env.scope.names.lookup x = some .local := by first | exact .inl rfl | exact .inr rfl | assumption) :
    QS X W (.AugAssign (.Name x pos') op e pos) (sAug i f te) :=
  PS.imp (ps_aug hN hi hx he ho hf) fun D' σ H ⟨F, τ, G, DT, KT, P, q⟩ => by
    unfold sAug at q
    split at q
    · rename_i n en
      obtain ⟨v, ev, rv⟩ := P.sl.2 i _ en
      rw [rv.int_inv] at ev
      refine ⟨_, ev, ?_⟩
      refine LE.inS P (k := fun d τ G1 => match d with
        | .int m => DT.nx (τ.set i (some (.int (f n m)))) G1
        | _ => False) q fun u d G1 H1 p1 r1 s1 q1 => ?_
      split at q1
      · rename_i m
        rw [r1.int_inv]
        exact ⟨n, m, rfl, rfl, p1.nx _ _ G1 H1 (p1.sl.set rp_int) p1.wd Stp.refl q1⟩
      · exact q1.elim
    · exact q.elim
/-- o[i], x = e: a pair -/
def sPutNm (to ti te : E1) (j : Nat) : S1 := fun DT E τ G => te τ G (fun d G1 => match d with
  | .tup [v, y] => to τ G1 (fun o G2 => ti τ G2 (fun i G3 => match putC G3 o i v with
    | some G4 => DT.nx (τ.set j (some y)) G4
    | none => False) (fun c f g => E c f τ g)) (fun c f g => E c f τ g)
  | _ => False) (fun c f g => E c f τ g)
theorem qs_putNm {o i e : Expr} {to ti te : E1} {tpos : Pos} {j : Nat} {x : Str} {px tp : Pos} {kk : Nat} (hu : X.A.units + 1 < cLine) (hc : X.calm = true) (hN : X.N.Nodup) (hj : X.N[j]? = some x) (hx : Loc X.env.scope x) (ho : QE X W o to) (hi : QE X W i ti) (he : QE X W e te)
    (hf : X.fn x = true ∨ X.env.scope.names.lookup x = some .local := by first | exact .inl rfl | exact .inr rfl | assumption)
    (hs : swapsWithSole [.Tuple [.Subscript o i tpos, .Name x px] kk tp] e pos.line X.env = pure false := by rfl) (hw : swappedStores [.Tuple [.Subscript o i tpos, .Name x px] kk tp] e X.env = pure none := by rfl)
    (h1 : (assignEach [.Tuple [.Subscript o i tpos, .Name x px] kk tp] X.env).map (·.2) = [assign (.Tuple [.Subscript o i tpos, .Name x px] kk tp) X.env] := by rfl)
    (ha : ∀ v, assign (.Subscript o i tpos) X.env v = (do
      let ov ← holding [v] (eval o X.env)
      let iv ← holding [v, ov] (eval i X.env)
      standAt tpos
      holding [v, ov, iv] (setItem ov iv v)
      release [v, ov, iv] []) := by intro _; rfl)
    (hn : (assignEach [.Subscript o i tpos, .Name x px] X.env).length = 2 := by rfl) (hst : (assignEach [.Subscript o i tpos, .Name x px] X.env).findIdx? (·.1) = none := by rfl)
    (h2 : (assignEach [.Subscript o i tpos, .Name x px] X.env).map (·.2) = assign (.Subscript o i tpos) X.env :: (assignEach [.Name x px] X.env).map (·.2) := by rfl) (h3 : (assignEach [.Name x px] X.env).map (·.2) = assign (.Name x px) X.env :: (assignEach [] X.env).map (·.2) := by rfl) :
    QS X W (.Assign [.Tuple [.Subscript o i tpos, .Name x px] kk tp] e pos) (sPutNm to ti te j) :=
  PS.imp (ps_asg he (pg_tup hc (pgs_cons (pg_sub ho hi (ps_setV hu) ha) (pgs_cons (pg_name hN hj hx hf) pgs_nil h3) h2) hn hst) hs hw h1) fun D' σ H ⟨F, τ, G, DT, KT, P, q⟩ => by
    refine LE.inS P (k := fun d τ G1 => match d with
      | .tup [v, y] => to τ G1 (fun o G2 => ti τ G2 (fun i G3 => match putC G3 o i v with
        | some G4 => DT.nx (τ.set j (some y)) G4
        | none => False) (fun c f g => KT c f τ g)) (fun c f g => KT c f τ g)
      | _ => False) q fun dv d G1 H1 p1 rd s1 q1 => ?_
    split at q1
    · rename_i v y
      obtain ⟨a, vs, rfl, f, r⟩ := rd.tup_inv
      obtain ⟨vv, yv, rfl, rv, ry⟩ := r.inv2
      refine ⟨a, [vv, yv], rfl, SqT.of f, rfl, vv, [yv], rfl, ?_⟩
      refine LE.inS p1 (k := fun o τ G2 => ti τ G2 (fun i G3 => match putC G3 o i v with
        | some G4 => DT.nx (τ.set j (some y)) G4
        | none => False) (fun c f g => KT c f τ g)) q1 fun ov o G2 H2 p2 ro s2 q2 => ?_
      refine LE.inS p2 (k := fun i τ G3 => match putC G3 o i v with
        | some G4 => DT.nx (τ.set j (some y)) G4
        | none => False) q2 fun iv i G3 H3 p3 ri s3 q3 => ?_
      split at q3
      · rename_i G4 e4
        refine putC_ok p3.wd (ro.step p2.wd s3) ri ((rv.step p1.wd s2).step p2.wd s3) e4 fun H' w' s' => ⟨yv, [], rfl, rfl, ?_⟩
        exact p3.nx _ _ G4 H' ((p3.sl.step p3.wd s').set (((ry.step p1.wd s2).step p2.wd s3).step p3.wd s')) w' s' q3
      · exact q3.elim
    · exact q1.elim
end
end TL
end
section
/-! TL9: texts: join, split, partition, upper, backwards; f-strings; repr of data. -/
namespace TL
open PySem PySem.Spec L2

/-- a method of a text -/
abbrev RS := Str → List D → GH → KD → Prop
def eSm (r : RS) (to : E1) (ta : A1) : E1 := fun τ G Q E => to τ G (fun x G1 => match x with
  | .str a => ta τ G1 (fun ds G2 => r a ds G2 Q) E
  | _ => False) E
def SimS (B : Bd) (r : RS) (rH : V → List V → Hp → VK → Prop) : Prop := ∀ (F : Addr → Prop) (W : WX) (σ : L2.St) (H : Hp) (Q : VK) (τ : Sl) (G : GH) (QT' : KD) (ET : KX) (a : Str) (ds : List D) (vs : List V), Pt (B.hide F) W σ H Q τ G QT' ET → RpL (B.hide F) G H ds vs → r a ds G QT' → rH (.str a) vs H Q
section
variable {X : Cx} {W : WX} {o e : Expr} {to te : E1} {apos pos : Pos} {r : RS} {rH : V → List V → Hp → VK → Prop}
/-- one argument, as a list -/
def aOne (te : E1) : A1 := fun τ G Q E => te τ G (fun x G1 => Q [x] G1) E
theorem le_m1 {B : Bd} {σ : L2.St} {H : Hp} {Q : VK} (s : SimS B r rH) (h : LE B W (eSm r to (aOne te)) σ H Q) : tM1 rH (LE B W to) (LE B W te) σ H Q := by
  obtain ⟨F, τ, G, QT', ET, p, t⟩ := h
  refine LE.bind (PT := p) (k := fun x τ G1 Q E => match x with
    | .str a => aOne te τ G1 (fun ds G2 => r a ds G2 Q) E
    | _ => False) t fun v x G1 H1 p1 r1 s1 q1 => ?_
  split at q1
  · rename_i a
    rw [r1.str_inv]
    refine ⟨⟨a, rfl⟩, ?_⟩
    refine LE.bind (PT := p1) (k := fun y τ G2 Q E => r a [y] G2 Q) q1 fun u y G2 H2 p2 r2 s2 q2 => ?_
    exact s F W σ H2 Q τ G2 QT' ET a [y] [u] p2 (RpL.one r2) q2
  · exact q1.elim
theorem le_m0 {B : Bd} {σ : L2.St} {H : Hp} {Q : VK} (s : SimS B r rH) (h : LE B W (eSm r to aNil) σ H Q) : tM0 rH (LE B W to) σ H Q := by
  obtain ⟨F, τ, G, QT', ET, p, t⟩ := h
  refine LE.bind (PT := p) (k := fun x τ G1 Q E => match x with
    | .str a => r a [] G1 Q
    | _ => False) t fun v x G1 H1 p1 r1 s1 q1 => ?_
  split at q1
  · rename_i a
    rw [r1.str_inv]
    exact ⟨⟨a, rfl⟩, s F W σ H1 Q τ G1 QT' ET a [] [] p1 RpL.nil q1⟩
  · exact q1.elim
def rJoin : RS := fun a ds G Q => match ds with
  | [d] => (match vQ G d with
    | some xs => (match strsD xs with
      | some ys => (ys.map (·.length)).sum + ys.length * a.length ≤ 16777216 ∧ Q (.str (Txt.join a ys)) G
      | none => False)
    | none => False)
  | _ => False
def rSplit : RS := fun a ds G Q => match ds with
  | [.str b] => (b.length == 0) = false ∧ a.length + 2 ≤ sizeLine ∧ Q (.lst ((Txt.split a b).map D.str)) G
  | _ => False
def rPart : RS := fun a ds G Q => match ds with
  | [.str b] => (b.length == 0) = false ∧ a.length ≤ sizeLine ∧ Q (.tup [.str (Txt.partition a b).1, .str (Txt.partition a b).2.1, .str (Txt.partition a b).2.2]) G
  | _ => False
def rUpper : RS := fun a ds G Q => match ds with
  | [] => a.length ≤ 5592405 ∧ Q (.str (Txt.upper a)) G
  | _ => False
theorem rpL_strs {B : Bd} {G : GH} {H : Hp} : ∀ ys : List Str, RpL B G H (ys.map D.str) (ys.map V.str)
  | [] => RpL.nil
  | _ :: r => RpL.cons rp_str (rpL_strs r)
theorem qe_join (ho : QE X W o to) (he : QE X W e te) (hs : starEach [e] X.env = [(false, eval e X.env)] := by rfl) (hbase : attributeBase o "join" X.env (eval o X.env) = eval o X.env := by rfl) (hline : (apos.endLine == pos.line) = true := by rfl) :
    QE X W (.Call (.Attribute o "join" apos) [e] [] pos) (eSm rJoin to (aOne te)) := PE.imp (pe_join ho he hs hbase hline) fun σ H Q h => le_m1 (fun F W σ H Q τ G QT' ET a ds vs p r h => by
  unfold rJoin at h
  split at h
  · obtain ⟨v, rfl, r1⟩ := r.inv1
    split at h
    · rename_i xs ex
      obtain ⟨b, us, rfl, hb, rb⟩ := vQ_ok p.wd r1 ex
      split at h
      · rename_i ys ey
        rw [strsD_ok rb ey] at hb
        exact ⟨a, b, ys, rfl, rfl, hb, h.1, p.str h.2⟩
      · exact h.elim
    · exact h.elim
  · exact h.elim) h
theorem qe_split (ho : QE X W o to) (he : QE X W e te) (hs : starEach [e] X.env = [(false, eval e X.env)] := by rfl) (hbase : attributeBase o "split" X.env (eval o X.env) = eval o X.env := by rfl) (hline : (apos.endLine == pos.line) = true := by rfl) :
    QE X W (.Call (.Attribute o "split" apos) [e] [] pos) (eSm rSplit to (aOne te)) := PE.imp (pe_split ho he hs hbase hline) fun σ H Q h => le_m1 (fun F W σ H Q τ G QT' ET a ds vs p r h => by
  unfold rSplit at h
  split at h
  · obtain ⟨v, rfl, r1⟩ := r.inv1
    rw [r1.str_inv]
    exact ⟨a, _, rfl, rfl, h.1, h.2.1, fun q hq => p.lstN hq (rpL_strs _) h.2.2⟩
  · exact h.elim) h
theorem qe_part (ho : QE X W o to) (he : QE X W e te) (hs : starEach [e] X.env = [(false, eval e X.env)] := by rfl) (hbase : attributeBase o "partition" X.env (eval o X.env) = eval o X.env := by rfl) (hline : (apos.endLine == pos.line) = true := by rfl) :
    QE X W (.Call (.Attribute o "partition" apos) [e] [] pos) (eSm rPart to (aOne te)) := PE.imp (pe_partition ho he hs hbase hline) fun σ H Q h => le_m1 (fun F W σ H Q τ G QT' ET a ds vs p r h => by
  unfold rPart at h
  split at h
  · obtain ⟨v, rfl, r1⟩ := r.inv1
    rw [r1.str_inv]
    exact ⟨a, _, rfl, rfl, h.1, h.2.1, fun q hq => p.tupN hq (RpL.cons rp_str (RpL.cons rp_str (RpL.one rp_str))) h.2.2⟩
  · exact h.elim) h
theorem qe_upper (ho : QE X W o to) (hbase : attributeBase o "upper" X.env (eval o X.env) = eval o X.env := by rfl) (hline : (apos.endLine == pos.line) = true := by rfl) :
    QE X W (.Call (.Attribute o "upper" apos) [] [] pos) (eSm rUpper to aNil) := PE.imp (pe_upper ho hbase hline) fun σ H Q h => le_m0 (fun F W σ H Q τ G QT' ET a ds vs p r h => by
  unfold rUpper at h
  split at h
  · rw [r.nil_inv]
    exact ⟨a, rfl, rfl, h.1, p.str h.2⟩
  · exact h.elim) h

/-! ### x[::-1], a text -/
def revS (x : Str) : Str := ⟨((Builtin.Str.strSliceIndices none none (-1) x.length).filterMap (x.cps[·]?)).toArray⟩
def eRevS (te : E1) : E1 := fun τ G Q E => te τ G (fun x G1 => match x with
  | .str z => (revS z).length ≤ sizeLine ∧ Q (.str (revS z)) G1
  | _ => False) E
def tRevS (te : TE) : TE := fun σ H Q => te σ H fun x H1 => ∃ z, x = .str z ∧ (revS z).length ≤ sizeLine ∧ Q (.str (revS z)) H1
theorem pe_revS {te : TE} {k : Nat} {p1 p2 p3 : Pos} (he : PE X e te) : PE X (.Subscript e (.Slice none none (some (.UnaryOp .USub (.Constant (.int 1) k p1) p2)) p3) pos) (tRevS te) := by
  refine ⟨fun pins s σ H Q I h => PyProof.Rows.Subscript_ (thn (he.run pins s σ H _ I h) fun v s1 ⟨x, H1, I1, r1, z, ex, hz, q⟩ => ?_)⟩
  subst ex
  obtain ⟨t, rfl⟩ := r1
  have step : PO X (some (.UnaryOp .USub (.Constant (.int 1) k p1) p2)) (tPart (tUn (rU fun i => .int (-i)) (tC (.int 1)))) := po_some (pe_un un_neg pe_int)
  refine wpAny_Slice (thn (po_none.run pins s1 σ H1 (fun o H2 => o = none ∧ H2 = H1) I1 ⟨rfl, rfl⟩) fun vl s2 ⟨l, H2, I2, pl, el, e2⟩ => thn (po_none.run pins s2 σ H2 (fun o H3 => o = none ∧ H3 = H2) I2 ⟨rfl, rfl⟩) fun vu s3 ⟨u, H3, I3, pu, eu, e3⟩ => thn (step.run pins s3 σ H3 (fun o H4 => o = some (-1) ∧ H4 = H3) I3 ⟨1, rfl, -1, rfl, rfl, rfl⟩) fun vs s4 ⟨o, H4, I4, ps, eo, e4⟩ => ?_)
  subst el e2 eu e3 eo e4
  obtain ⟨l', rfl, hl'⟩ := IsPart.raw pl
  obtain ⟨u', rfl, hu'⟩ := IsPart.raw pu
  obtain ⟨w', rfl, hw'⟩ := IsPart.raw ps
  have hl0 : l'.map (·.1) = none := hl'
  have hu0 : u'.map (·.1) = none := hu'
  have hw0 : w'.map (·.1) = some (-1) := hw'
  refine PyProof.Rows.tail_any (ops := [.ref s4.heap.objs.size, .str z t]) (typeIs_str _ _ _) F.slot_str_getitem.lookup ?_ (by with_unfolding_all rfl)
  refine wpAny_getItem_str_slice (l := l') (u := u') (st := w') ⟨_, Heap.get?_push_size _ rfl, rfl, rfl⟩ (by rw [hw0]; rfl) ?_
  have I5 : Inv X pins σ H4 { s4 with heap := s4.heap.push { cls := .type "slice", data := .fields #[partValue l', partValue u', partValue w'] } } := I4.kept (t' := s4.toks) fun b ob q => Heap.get?_push_of_some _ q
  unfold sliceMade slicePicked
  rw [hl0, hu0, hw0]
  rw [if_neg (by simp)]
  exact ⟨hz, .str _, H4, I5.tok _, ⟨_, rfl⟩, q⟩
theorem qe_revS {k : Nat} {p1 p2 p3 : Pos} (he : QE X W e te) : QE X W (.Subscript e (.Slice none none (some (.UnaryOp .USub (.Constant (.int 1) k p1) p2)) p3) pos) (eRevS te) :=
  PE.imp (pe_revS he) fun σ H Q ⟨F, τ, G, QT', ET, P, q⟩ => by
    refine LE.bind (PT := P) (k := fun x τ G1 Q E => match x with
      | .str z => (revS z).length ≤ sizeLine ∧ Q (.str (revS z)) G1
      | _ => False) q fun v x G1 H1 p1 r1 s1 q1 => ?_
    split at q1
    · rw [r1.str_inv]
      exact ⟨_, rfl, q1.1, p1.str q1.2⟩
    · exact q1.elim

/-! ### f-strings -/
def eFmt (te : E1) : E1 := fun τ G Q E => te τ G (fun x G1 => match x with
  | .str y => y.length ≤ sizeLine ∧ Q (.str y) G1
  | .int i => i.natAbs.log2 < 1920 ∧ Q (.str (toString i)) G1
  | _ => False) E
theorem qe_fmt (he : QE X W e te) : QE X W (.FormattedValue e (-1) none pos) (eFmt te) := PE.imp (pe_fmt he) fun σ H Q ⟨F, τ, G, QT', ET, P, q⟩ => by
  refine LE.bind (PT := P) (k := fun x τ G1 Q E => match x with
    | .str y => y.length ≤ sizeLine ∧ Q (.str y) G1
    | .int i => i.natAbs.log2 < 1920 ∧ Q (.str (toString i)) G1
    | _ => False) q fun v x G1 H1 p1 r1 s1 q1 => ?_
  split at q1
  · rw [r1.str_inv]; exact .inl ⟨_, rfl, q1.1, p1.str q1.2⟩
  · rw [r1.int_inv]; exact .inr ⟨_, rfl, q1.1, p1.str q1.2⟩
  · exact q1.elim
inductive QJ (X : Cx) (W : WX) : List Expr → List E1 → Prop where
  | nil : QJ X W [] []
  | cons {e : Expr} {t : E1} {es : List Expr} {ts : List E1} (h : QE X W e t) (r : QJ X W es ts) : QJ X W (e :: es) (t :: ts)
def eJs : List E1 → Str → E1
  | [], acc, _, G, Q, _ => Q (.str acc) G
  | t :: ts, acc, τ, G, Q, E => t τ G (fun x G1 => match x with
    | .str y => (acc ++ y).length ≤ sizeLine ∧ eJs ts (acc ++ y) τ G1 Q E
    | _ => False) E
theorem QJ.pj {es : List Expr} {ts : List E1} (h : QJ X W es ts) : PJ X es (ts.map (LE (bd X) W)) := by
  induction h with
  | nil => exact .nil
  | cons h r ih => exact .cons h ih
theorem le_js {B : Bd} : ∀ {ts : List E1} {acc : Str} {F : Addr → Prop} {σ : L2.St} {H : Hp} {Q : VK} {τ : Sl} {G : GH} {QT' : KD} {ET : KX}, Pt (B.hide F) W σ H Q τ G QT' ET → eJs ts acc τ G QT' ET → tJs (ts.map (LE B W)) acc σ H fun out H1 => Q (.str out) H1
  | [], acc, F, σ, H, Q, τ, G, QT', ET, p, q => p.str q
  | t :: ts, acc, F, σ, H, Q, τ, G, QT', ET, p, q => by
    refine LE.bind (PT := p) (k := fun x τ G1 Q E => match x with
      | .str y => (acc ++ y).length ≤ sizeLine ∧ eJs ts (acc ++ y) τ G1 Q E
      | _ => False) q fun v x G1 H1 p1 r1 s1 q1 => ?_
    split at q1
    · rw [r1.str_inv]
      exact ⟨_, rfl, q1.1, le_js p1 q1.2⟩
    · exact q1.elim
theorem qe_js {v1 v2 : Expr} {rest : List Expr} {ts : List E1} (h : QJ X W (v1 :: v2 :: rest) ts) : QE X W (.JoinedStr (v1 :: v2 :: rest) pos) (eJs ts Str.empty) :=
  PE.imp (pe_joined h.pj) fun σ H Q ⟨F, τ, G, QT', ET, P, q⟩ => le_js P q
theorem qe_js1 (he : QE X W e te) : QE X W (.JoinedStr [e] pos) te := pe_joined1 he

/-! ### repr of data -/
/-- the text that repr tells -/
def showD (G : GH) (d : D) : Str := (toPy (vD G d)).shown
def okShow (G : GH) (d : D) : Prop := Pl (vD G d) 50 ∧ (toPy (vD G d)).showable = true ∧ (showD G d).length ≤ sizeLine
end
end TL
end
section
/-! TL10: repr of data; own __eq__ (== and !=), own __repr__, own __len__. -/
namespace TLK
open PySem PySem.W PyProof.Rows Builtin
section
variable {prog : Program} {w : World} {A : Around} {E : Value → Shared → Prop} {s : Shared} {K : Frag} {x C L f : Addr} {h₀ : Heap} {m : Str → Option Value} {ox : Obj} {od : Option Obj} {b tb : Value}
/-- a special method that is object's own slot -/
theorem ifSlot {M : Model} {name : Str} {id : String} {args : List Value} {Q : Option Value → Shared → Prop} (X : K.In s.heap) (I : InstAt s.heap x ox C od) (hs : findIn K (.ref C) name = some (some (.builtin id))) (S : Slot "object" name id)
    (h : wpAny M A (call (.builtin id) (.ref x :: args)) (fun v => Q (some v)) E s) : wpAny M A (callSpecialIfBound? (.ref x) name args) Q E s := by
  simp only [callSpecialIfBound?, bindSpecialIfBound?]
  refine wpAny_holding (wpAny_bind (wpAny_bind (wpAny_bind (I.type.here ((looks_findIn X hs).here ?_)))))
  simp only [S.bind]
  have fin : wpAny M A (call (.builtin id) ([.ref x] ++ args) >>= fun v => pure (some v)) Q E s := wpAny_bind (wpAny_mono h (fun v s' h' => wpAny_pure h') fun _ _ h' => h')
  refine wpAny_bind (wpAny_askSetting (wpAny_ite ?_))
  split
  · exact wpAny_bind (wpAny_pure (wpAny_pure fin))
  · exact wpAny_tryCatch (wpAny_bind (wpAny_pure (wpAny_pure fin)))
/-- object.__ne__ asks the own __eq__ -/
theorem objNe (X : K.In s.heap) (I : InstAt s.heap x ox C od) (hu : A.units < cLine) (hs : findIn K (.ref C) "__eq__" = some (some (.ref f))) (hf : isFn K (.ref f) = true) {Q : Fin → Shared → Prop}
    (h : wpAny (model prog w) A (call (.ref f) [.ref x, b]) (fun v s' => ∃ r, v = .bool r ∧ Q (.done (.ret (.bool (!r)))) s') E s) : wpAny (model prog w) A (Builtin.«object.__ne__» ⟨[.ref x, b], []⟩) Q E s := by
  obtain ⟨hp, g, d, t, os⟩ := s
  unfold Builtin.«object.__ne__»
  repeat (first
    | with_reducible refine wpAny_cRoomFor hu ?_
    | (refine wpAny_bind (m := callSpecialIfBound? (.ref x) (Str.ofString "__eq__") [b]) (ifBound_K X I hs hf (wpAny_mono h (fun v s' hr => by
        obtain ⟨r, rfl, hq⟩ := hr
        repeat (first | exact hq | exact wpAny_pure hq | exact wpAny_truthy_bool hq | (refine wpAny_bind (m := truthy (.bool _)) (wpAny_truthy_bool ?_)) | wp_step)) fun _ _ e => e)))
    | wp_step)
theorem ne_K {Q : Value → Shared → Prop} (hu : A.units + 1 < cLine) (fr : Fr h₀ L s.heap m) (X₀ : K.In h₀) (I : InstAt s.heap x ox C od) (hb : Looks (model prog w) s.heap (typeOf b) tb) (hn : notFirst K C tb = true)
    (hne : findIn K (.ref C) "__ne__" = some (some (.builtin "object.__ne__"))) (hm : mroIn K C (.type "object") = some true) (hs : findIn K (.ref C) "__eq__" = some (some (.ref f))) (hf : isFn K (.ref f) = true)
    (h : wpAny (model prog w) A.in1 (call (.ref f) [.ref x, b]) (fun v s' => ∃ r, v = .bool r ∧ Q (.bool (!r)) s') E s) : wpAny (model prog w) A (richCompare .NotEq (.ref x) b) Q E s := by
  have X := X₀.keeps fr.keep
  have one : wpAny (model prog w) A (tryCompare (.ref x) (cmpInfo .NotEq).2.1 b) (fun r s' => ∃ v, r = some v ∧ Q v s') E s := by
    rw [show (cmpInfo .NotEq).2.1 = ("__ne__" : Str) from by rw [cmpInfo_NotEq]]
    simp only [tryCompare]
    refine wpAny_bind (ifSlot X I hne F.cmp_object.ne (wpAny_call (codeAny_call_builtin F.cmp_object.ne.plain F.cmpEntry_ne
      (check_slot (i := "object.__ne__") (owner := "object") (n := "__ne__") F.cmpKind_ne F.cmpSplit_ne (I.type.andThen (looks_mroIn X hm)) (F.cmpArgs_ne _ _)
        (objNe (A := A.in1) X I hu hs hf (wpAny_mono h (fun v s' hv => ?_) fun _ _ e => e))))))
    obtain ⟨r, rfl, hq⟩ := hv
    first | exact ⟨r, rfl, wpAny_pure ⟨_, rfl, hq⟩⟩ | exact ⟨r, rfl, wpAny_pure (wpAny_pure ⟨_, rfl, hq⟩)⟩ | exact ⟨r, rfl, ⟨_, rfl, hq⟩⟩
  unfold richCompare
  simp only [oneThing_ref]
  refine wpAny_holding (wpAny_bind (wpAny_cRoomFor (Nat.lt_of_succ_lt hu) ?_))
  refine wpAny_bind (I.type.here (wpAny_bind (hb.here ?_)))
  split
  · rename_i q
    have e : subIn K tb (.ref C) = some false := by
      rcases Bool.or_eq_true_iff.mp hn with e | e
      · rw [beq_iff_eq.mp e] at q; simp at q
      · exact beq_iff_eq.mp e
    refine wpAny_bind ((looks_subIn X e).here ?_)
    simp only [Bool.false_eq_true, if_false]
    refine wpAny_bind (wpAny_mono one (fun r s' z => ?_) fun _ _ e => e)
    obtain ⟨v, rfl, hq⟩ := z
    exact wpAny_pure hq
  · refine wpAny_bind (wpAny_pure ?_)
    simp only [Bool.false_eq_true, if_false]
    refine wpAny_bind (wpAny_mono one (fun r s' z => ?_) fun _ _ e => e)
    obtain ⟨v, rfl, hq⟩ := z
    exact wpAny_pure hq
end
end TLK
namespace TL
open PySem PySem.Spec L2
section
variable {X : Cx} {W : WX} {k : Nat} {f C : Addr} {fd : FuncData} {ps : List Str} {sp : SpT}
/-- a def called from within (an operator, a built-in): no exception -/
theorem run_in {A : Around} {pins : List (Addr × Obj)} {σ : L2.St} {H : Hp} {s : Shared} {Q : VK} {us : List Value} {vs : List V} {E : Value → Shared → Prop} (F : FnG X.prog X.w X.K X.mg X.base k f fd ps sp) (hgd : A.guards = some []) (hfr : A.frames = X.A.frames) (hr : Room k A) (hb : Binds X.K fd ps [])
    (I : Inv X pins σ H s) (r : Vals vs us) (h : LSp (bd X) sp vs H Q (fun _ _ _ => False)) (hE : ∀ e s', X.xe e s' → E e s') : wpAny (model X.prog X.w) A (call (.ref f) us) (EP X pins σ Q) E s := by
  have e0 : Env0 X.prog X.w X.K X.mg X.base A X.stack s H := by
    have e := I.env0
    exact ⟨by rw [hfr]; exact e.frames, e.mod, e.bs, e.bsz, e.funs, e.frf, e.hok, e.bare⟩
  obtain ⟨Fh, ds, G, QT2, ET2, rz, wz, hz, _⟩ := id h
  have hl : us.length = ps.length := by rw [← r.length, rz.length]; exact F.len _ _ _ _ hz
  have b := hb s us I.kIn (by simpa using hl)
  rw [List.append_nil] at b
  refine wpAny_call (codeAny_mono (F.run A X.stack s H ⟨us, []⟩ us vs _ _ hr hgd e0 b r h) fun r s' hq => ?_)
  cases r with
  | error e => exact hE e s' (passAt (takes_none5 (X := X)) σ pins H s e s' I hq)
  | ok fl =>
    cases fl with
    | ret u => exact I.after hq
    | next => exact False.elim hq
    | brk => exact False.elim hq
    | cont => exact False.elim hq
theorem Pt.spE {B : Bd} {F : Addr → Prop} {W : WX} {σ : L2.St} {H : Hp} {Q : VK} {τ : Sl} {G : GH} {QT' : KD} {ET : KX} (p : Pt (B.hide F) W σ H Q τ G QT' ET) {ds : List D} {vs : List V} {QT2 : KD} {Q2 : VK} (r : RpL (B.hide F) G H ds vs) (h : sp ds G QT2 EF)
    (k : ∀ v d G' H', Rp (B.hide F) G' H' d v → Wd (B.hide F) G' H' → Stp G H G' H' → QT2 d G' → Q2 v H') : LSp B sp vs H Q2 (fun _ _ _ => False) :=
  ⟨F, ds, G, QT2, EF, r, p.wd, h, k, fun _ _ _ _ _ _ _ _ h => h⟩

/-! ### own == -/
def rOEqV (B : Bd) (K : PySem.W.Frag) (C : Addr) (Cs : List Addr) (sp : SpT) (neg : Bool) : R2 := fun x y H Q => ∃ a dx fs t, x = .ref a ∧ H a = some (.ins C dx fs) ∧ TyX K H y t ∧ PySem.W.notFirst K C t = true ∧
  LSp B sp [x, y] H (fun v H' => ∃ r, v = .bl r ∧ Q (.bl (neg != r)) H') (fun _ _ _ => False)
/-- a class with an own __eq__ at f, none of __ne__ -/
structure OwnEq (K : PySem.W.Frag) (C f : Addr) : Prop where
  eq : PySem.W.findIn K (.ref C) "__eq__" = some (some (.ref f))
  ne : PySem.W.findIn K (.ref C) "__ne__" = some (some (.builtin "object.__ne__"))
  hf : PySem.W.isFn K (.ref f) = true
  hm : PySem.W.mroIn K C (.type "object") = some true
theorem or_oeq {Cs : List Addr} (F : FnG X.prog X.w X.K X.mg X.base k f fd ps sp) (hgd : X.A.guards = some []) (hr : Room k X.A) (hb : Binds X.K fd ps []) (O : OwnEq X.K C f) : OpR X (compareOp .Eq) (rOEqV (bd X) X.K C Cs sp false) := by
  intro pins s σ H x y v u Q I rx ry ⟨a, dx, fs, t, ex, ha, ty, nf, h⟩
  subst ex
  cases rx
  obtain ⟨mA, J, _⟩ := ins_get I.hok ha
  obtain ⟨od, J, _⟩ := J.look
  obtain ⟨P, Z, pz, _⟩ := kit_of I ry ty
  obtain ⟨m, hF⟩ := I.fr
  show wpAny (model X.prog X.w) X.A (richCompare .Eq (.ref a) u) (EP X pins σ Q) X.xe s
  refine PySem.W.cmp_K (op := .Eq) (tb := t) (by have := hr.un; omega) hF I.ok.mod.kin J (Z.ty _ _ I.kIn pz) nf O.eq O.hf ?_
  refine wpAny_mono (run_in F hgd rfl hr hb I (.cons (show RelV (V.ref a) (Value.ref a) from rfl) (.cons ry .nil)) h fun _ _ h => h) (fun w s' hq => ?_) fun _ _ h => h
  obtain ⟨z, H', I', rz, b, rfl, q⟩ := hq
  cases rz
  exact ⟨V.bl b, H', I', rfl, by simpa using q⟩
theorem or_one {Cs : List Addr} (F : FnG X.prog X.w X.K X.mg X.base k f fd ps sp) (hgd : X.A.guards = some []) (hr : Room (k + 1) X.A) (hb : Binds X.K fd ps []) (O : OwnEq X.K C f) : OpR X (compareOp .NotEq) (rOEqV (bd X) X.K C Cs sp true) := by
  intro pins s σ H x y v u Q I rx ry ⟨a, dx, fs, t, ex, ha, ty, nf, h⟩
  subst ex
  cases rx
  obtain ⟨mA, J, _⟩ := ins_get I.hok ha
  obtain ⟨od, J, _⟩ := J.look
  obtain ⟨P, Z, pz, _⟩ := kit_of I ry ty
  obtain ⟨m, hF⟩ := I.fr
  show wpAny (model X.prog X.w) X.A (richCompare .NotEq (.ref a) u) (EP X pins σ Q) X.xe s
  refine TLK.ne_K (tb := t) (by have := hr.un; omega) hF I.ok.mod.kin J (Z.ty _ _ I.kIn pz) nf O.ne O.hm O.eq O.hf ?_
  refine wpAny_mono (run_in (A := X.A.in1) F (by simpa using hgd) rfl hr.in1 hb I (.cons (show RelV (V.ref a) (Value.ref a) from rfl) (.cons ry .nil)) h fun _ _ h => h) (fun w s' hq => ?_) fun _ _ h => h
  obtain ⟨z, H', I', rz, b, rfl, q⟩ := hq
  cases rz
  exact ⟨b, rfl, V.bl (!b), H', I', rfl, by simpa using q⟩
def rOEq (K : PySem.W.Frag) (C : Addr) (Cs : List Addr) (sp : SpT) (neg : Bool) : R2T := fun x y G Q _ => match vI G x, tyD Cs G y with
  | some (C', _), some t => C' = C ∧ PySem.W.notFirst K C t = true ∧ sp [x, y] G (fun d G3 => match d with
    | .bl r => Q (.bl (neg != r)) G3
    | _ => False) EF
  | _, _ => False
theorem sim_oeq {B : Bd} {Cs : List Addr} {neg : Bool} (hc : ∀ C ∈ Cs, ClsI B.K C) : Sim2 B (rOEq B.K C Cs sp neg) (rOEqV B B.K C Cs sp neg) := by
  intro F W σ H Q τ G QT' ET x y v u p rx ry h
  unfold rOEq at h
  split at h
  · rename_i C' fs t e1 e2
    obtain ⟨rfl, nf, h⟩ := h
    obtain ⟨a, dx, vs, rfl, h1, h2⟩ := vI_ok p.wd rx e1
    refine ⟨a, dx, vs, t, rfl, h1, tyD_ok (B := B.hide F) hc p.wd ry e2, nf, p.spE (RpL.cons rx (RpL.one ry)) h fun v' d G' H' r' w' s' q => ?_⟩
    split at q
    · exact ⟨_, r'.bl_inv, (p.next w' s').bl q⟩
    · exact q.elim
  · exact h.elim
def eOEq (K : PySem.W.Frag) (C : Addr) (Cs : List Addr) (sp : SpT) (neg : Bool) (ta tb : E1) : E1 := eOp (rOEq K C Cs sp neg) ta tb
section
variable {pos : Pos} {a b : Expr} {ta tb : E1} {Cs : List Addr} (hc : ∀ C ∈ Cs, ClsI X.K C) (F : FnG X.prog X.w X.K X.mg X.base k f fd ps sp) (cn : Cn X W) (hr : Room (k + 1) X.A) (hb : Binds X.K fd ps []) (O : OwnEq X.K C f) (h1 : QE X W a ta) (h2 : QE X W b tb)
include hc F cn hr hb O h1 h2
theorem qe_oeq : QE X W (.Compare a [.Eq] [b] pos) (eOEq X.K C Cs sp false ta tb) := qe_cmp (sim_oeq (B := bd X) hc) (or_oeq (Cs := Cs) F cn.grd (hr.mono (Nat.le_succ k)) hb O) h1 h2
theorem qe_one' : QE X W (.Compare a [.NotEq] [b] pos) (eOEq X.K C Cs sp true ta tb) := qe_cmp (sim_oeq (B := bd X) hc) (or_one (Cs := Cs) F cn.grd hr hb O) h1 h2
theorem qt_oeq : QT X W (.Compare a [.Eq] [b] pos) (tBl (eOEq X.K C Cs sp false ta tb)) := qt_cmp (sim_oeq (B := bd X) hc) (or_oeq (Cs := Cs) F cn.grd (hr.mono (Nat.le_succ k)) hb O) h1 h2
theorem qt_one' : QT X W (.Compare a [.NotEq] [b] pos) (tBl (eOEq X.K C Cs sp true ta tb)) := qt_cmp (sim_oeq (B := bd X) hc) (or_one (Cs := Cs) F cn.grd hr hb O) h1 h2
end

/-! ### repr -/
def rReprV (K : PySem.W.Frag) : List V → Hp → VK → Prop := fun vs H Q => ∃ x d, vs = [x] ∧ Dp K H x d ∧ d.showable = true ∧ d.hasDict = false ∧ d.depth ≤ 60 ∧ d.shown.length ≤ sizeLine ∧ Q (.str d.shown) H
theorem cr_repr (hgd : X.A.guards = some []) (hu : X.A.units + 66 < cLine) : CallR X (.builtin "repr") (rReprV X.K) := by
  intro pins s σ H xs us Q I r ⟨x, d, e, hd, h1, h2, h3, h4, q⟩
  subst e
  obtain ⟨u, rfl, rx⟩ := vals1 r
  have fin : ∀ t s', (∃ h' tk, s' = { s with heap := h', toks := tk } ∧ ∀ b o, s.heap.get? b = some o → h'.get? b = some o) → EP X pins σ Q (.str d.shown t) s' := by
    rintro t s' ⟨h', tk, rfl, hk⟩
    exact ⟨.str d.shown, H, I.kept hk, ⟨t, rfl⟩, q⟩
  have byRef : ∀ a, u = .ref a → wpAny (model X.prog X.w) X.A (call (.builtin "repr") [u]) (EP X pins σ Q) X.xe s := by
    rintro a rfl
    obtain ⟨as, rd⟩ := Dp.reads I d x _ hd rx
    exact repr_of_reads' rd h1 (PyData.noDict_hsm h2) hgd (by omega) (fun _ _ h => h) (fun h' t tk hk => fin t _ ⟨h', tk, rfl, hk⟩) h4
  cases hd with
  | non => cases rx; exact PySem.P.repr_of_none (fin _ _ ⟨s.heap, _, rfl, fun _ _ h => h⟩)
  | bl b => cases rx; exact PySem.P.repr_of_bool (fin _ _ ⟨s.heap, _, rfl, fun _ _ h => h⟩)
  | int i =>
    obtain ⟨t, rfl⟩ := rx
    exact PySem.P.repr_of_int (by simpa [PyData.showable] using h1) (fin _ _ ⟨s.heap, _, rfl, fun _ _ h => h⟩)
  | str y =>
    obtain ⟨t, rfl⟩ := rx
    exact PySem.P.repr_of_str (fin _ _ ⟨s.heap, _, rfl, fun _ _ h => h⟩) h4
  | lst _ _ => exact byRef _ (by cases rx; rfl)
  | tup _ _ => exact byRef _ (by cases rx; rfl)
end
end TL
end
section
/-! TL10b: repr lifted, {e!r}, own __repr__, own __len__. -/
namespace TL
open PySem PySem.Spec L2
section
variable {X : Cx} {W : WX} {k : Nat} {f C : Addr} {fd : FuncData} {ps : List Str} {sp : SpT} {p pos : Pos} {e : Expr} {es : List Expr} {ta : A1} {te : E1}
theorem show_facts {B : Bd} {G : GH} {H : Hp} {d : D} {v : V} (w : Wd B G H) (r : Rp B G H d v) (h : okShow G d) : Dp B.K H v (toPy (vD G d)) ∧ (toPy (vD G d)).showable = true ∧ (toPy (vD G d)).hasDict = false ∧ (toPy (vD G d)).depth ≤ 60 ∧ (showD G d).length ≤ sizeLine := by
  obtain ⟨h1, h2, h3⟩ := h
  have l := pl_lay h1
  exact ⟨vD_dp w r h1, h2, PyData.hasDict_of_canLay _ l.1, by omega, h3⟩
def rRepr' : RC := fun ds G Q => match ds with
  | [d] => okShow G d ∧ Q (.str (showD G d)) G
  | _ => False
theorem sim_repr {B : Bd} : SimC B rRepr' (rReprV B.K) := by
  intro F W σ H Q τ G QT' ET ds vs p r h
  unfold rRepr' at h
  split at h
  · obtain ⟨v, rfl, r1⟩ := r.inv1
    obtain ⟨h1, h2, h3, h4, h5⟩ := show_facts p.wd r1 h.1
    exact ⟨v, _, rfl, h1, h2, h3, h4, h5, p.str h.2⟩
  · exact h.elim
def eRepr (ta : A1) : E1 := eB rRepr' ta
theorem qe_repr (cn : Cn X W) (hu : X.A.units + 66 < cLine) (ha : QA X W (e :: es) ta) (he : starEach (e :: es) X.env = (false, eval e X.env) :: starEach es X.env) (hpl : (backTo pos (starEach es X.env)).any (·.1) = false) (hg : Gl X "repr") (hm : X.mg "repr" = none) :
    QE X W (.Call (.Name "repr" p) (e :: es) [] pos) (eRepr ta) := qe_bi sim_repr (cr_repr cn.grd hu) hg hm (by rfl) ha (he := he) (hpl := hpl)
/-! {e!r} -/
def tFmtD (K : PySem.W.Frag) (te : TE) : TE := fun σ H Q => te σ H fun x H1 => ∃ d, Dp K H1 x d ∧ d.showable = true ∧ d.hasDict = false ∧ d.depth ≤ 60 ∧ d.shown.length ≤ sizeLine ∧ Q (.str d.shown) H1
theorem pe_fmtD {te : TE} (hgd : X.A.guards = some []) (hu : X.A.units + 66 < cLine) (he : PE X e te) : PE X (.FormattedValue e 114 none pos) (tFmtD X.K te) := by
  refine ⟨fun pins s σ H Q I h => wpAny_FormattedValue_repr (thn (he.run pins s σ H _ I h) fun u s1 ⟨x, H1, I1, rx, d, hd, h1, h2, h3, h4, q⟩ => ?_)⟩
  have fin : ∀ (h' : Heap) (tk : Tok) (t : Tok), (∀ b o, s1.heap.get? b = some o → h'.get? b = some o) → wpAny (model X.prog X.w) X.A (formatField (.str d.shown t) Str.empty) (EP X pins σ Q) X.xe { s1 with heap := h', toks := tk } := fun h' tk t hk =>
    wpAny_formatField_str ⟨V.str d.shown, H1, I1.kept hk, ⟨_, rfl⟩, q⟩ ⟨V.str d.shown, H1, I1.kept hk, ⟨_, rfl⟩, q⟩ h4
  have byRef : ∀ a, u = .ref a → wpAny (model X.prog X.w) X.A (pyReprObj u) (fun r s₂ => wpAny (model X.prog X.w) X.A (formatField r Str.empty) (EP X pins σ Q) X.xe s₂) X.xe s1 := by
    rintro a rfl
    obtain ⟨as, rd⟩ := Dp.reads I1 d x _ hd rx
    exact pyReprObj_of_reads rd h1 (PyData.noDict_hsm h2) hgd (by omega) (fun _ _ h => h) (fun h' t tk hk => fin h' tk t hk) h4
  cases hd with
  | non => cases rx; exact pyReprObj_none (fin s1.heap _ _ fun _ _ h => h)
  | bl b => cases rx; exact pyReprObj_bool (fin s1.heap _ _ fun _ _ h => h)
  | int i =>
    obtain ⟨t, rfl⟩ := rx
    exact pyReprObj_int (by simpa [PyData.showable] using h1) (fin s1.heap _ _ fun _ _ h => h)
  | str y =>
    obtain ⟨t, rfl⟩ := rx
    exact pyReprObj_str (fin s1.heap _ _ fun _ _ h => h) h4
  | lst _ _ => exact byRef _ (by cases rx; rfl)
  | tup _ _ => exact byRef _ (by cases rx; rfl)
def eFmtR (te : E1) : E1 := fun τ G Q E => te τ G (fun d G1 => okShow G1 d ∧ Q (.str (showD G1 d)) G1) E
theorem qe_fmtR (cn : Cn X W) (hu : X.A.units + 66 < cLine) (he : QE X W e te) : QE X W (.FormattedValue e 114 none pos) (eFmtR te) :=
  PE.imp (pe_fmtD cn.grd hu he) fun σ H Q ⟨F, τ, G, QT', ET, P, q⟩ => by
    refine LE.bind (PT := P) (k := fun d τ G1 Q E => okShow G1 d ∧ Q (.str (showD G1 d)) G1) q fun v d G1 H1 p1 r1 s1 q1 => ?_
    obtain ⟨h1, h2, h3, h4, h5⟩ := show_facts p1.wd r1 q1.1
    exact ⟨_, h1, h2, h3, h4, h5, p1.str q1.2⟩
/-! ### own __repr__, own __len__ -/
def rOwn1V (B : Bd) (C : Addr) (sp : SpT) (k : V → Hp → VK → Prop) : List V → Hp → VK → Prop := fun vs H Q => ∃ a dx fs, vs = [V.ref a] ∧ H a = some (.ins C dx fs) ∧ LSp B sp [V.ref a] H (fun v H' => k v H' Q) (fun _ _ _ => False)
def kStr : V → Hp → VK → Prop := fun v H Q => ∃ y, v = .str y ∧ Q (.str y) H
def kLen : V → Hp → VK → Prop := fun v H Q => ∃ n : Int, v = .int n ∧ 0 ≤ n ∧ n < 2 ^ 63 ∧ Q (.int n) H
theorem cr_oRepr (F : FnG X.prog X.w X.K X.mg X.base k f fd ps sp) (hgd : X.A.guards = some []) (hr : Room (k + 1) X.A) (hb : Binds X.K fd ps []) (hs : PySem.W.findIn X.K (.ref C) "__repr__" = some (some (.ref f))) (hf : PySem.W.isFn X.K (.ref f) = true) :
    CallR X (.builtin "repr") (rOwn1V (bd X) C sp kStr) := by
  intro pins s σ H xs us Q I r ⟨a, dx, fs, ex, ha, h⟩
  subst ex
  rw [Vals.ref1 r]
  obtain ⟨mA, J, _⟩ := ins_get I.hok ha
  obtain ⟨od, J, _⟩ := J.look
  obtain ⟨m, hF⟩ := I.fr
  refine PySem.W.repr_K (by have := hr.un; show X.A.units + 1 < cLine; omega) hF I.ok.mod.kin J hs hf ?_
  refine wpAny_mono (run_in (A := X.A.in1) F (by simpa using hgd) rfl hr.in1 hb I (.cons (show RelV (V.ref a) (Value.ref a) from rfl) .nil) h fun _ _ h => h) (fun w s' hq => ?_) fun _ _ h => h
  obtain ⟨z, H', I', rz, y, rfl, q⟩ := hq
  obtain ⟨t, rfl⟩ := rz
  exact ⟨V.str y, H', I', ⟨t, rfl⟩, q⟩
theorem cr_oLen (F : FnG X.prog X.w X.K X.mg X.base k f fd ps sp) (hgd : X.A.guards = some []) (hr : Room (k + 1) X.A) (hb : Binds X.K fd ps []) (hs : PySem.W.findIn X.K (.ref C) "__len__" = some (some (.ref f))) (hf : PySem.W.isFn X.K (.ref f) = true) :
    CallR X (.builtin "len") (rOwn1V (bd X) C sp kLen) := by
  intro pins s σ H xs us Q I r ⟨a, dx, fs, ex, ha, h⟩
  subst ex
  rw [Vals.ref1 r]
  obtain ⟨mA, J, _⟩ := ins_get I.hok ha
  obtain ⟨od, J, _⟩ := J.look
  obtain ⟨m, hF⟩ := I.fr
  refine PySem.W.len_K hF I.ok.mod.kin J hs hf ?_
  refine wpAny_mono (run_in (A := X.A.in1) F (by simpa using hgd) rfl hr.in1 hb I (.cons (show RelV (V.ref a) (Value.ref a) from rfl) .nil) h fun _ _ h => h) (fun w s' hq => ?_) fun _ _ h => h
  obtain ⟨z, H', I', rz, n, rfl, h1, h2, q⟩ := hq
  obtain ⟨t, rfl⟩ := rz
  exact ⟨⟨h1, h2⟩, V.int n, H', I'.tok _, ⟨_, rfl⟩, q⟩
def rOwn1 (C : Addr) (sp : SpT) (k : D → GH → KD → Prop) : RC := fun ds G Q => match ds with
  | [x] => (match vI G x with
    | some (C', _) => C' = C ∧ sp [x] G (fun d G3 => k d G3 Q) EF
    | none => False)
  | _ => False
def kStrT : D → GH → KD → Prop := fun d G Q => match d with
  | .str y => Q (.str y) G
  | _ => False
def kLenT : D → GH → KD → Prop := fun d G Q => match d with
  | .int n => 0 ≤ n ∧ n < 2 ^ 63 ∧ Q (.int n) G
  | _ => False
theorem sim_own1 {B : Bd} {kT : D → GH → KD → Prop} {kV : V → Hp → VK → Prop} (hk : ∀ (F : Addr → Prop) (W : WX) (σ : L2.St) (H : Hp) (Q : VK) (τ : Sl) (G : GH) (QT' : KD) (ET : KX) (d : D) (v : V), Pt (B.hide F) W σ H Q τ G QT' ET → Rp (B.hide F) G H d v → kT d G QT' → kV v H Q) : SimC B (rOwn1 C sp kT) (rOwn1V B C sp kV) := by
  intro F W σ H Q τ G QT' ET ds vs p r h
  unfold rOwn1 at h
  split at h
  · obtain ⟨v, rfl, r1⟩ := r.inv1
    split at h
    · rename_i C' fs e1
      obtain ⟨rfl, h⟩ := h
      obtain ⟨a, dx, us, rfl, h1, h2⟩ := vI_ok p.wd r1 e1
      exact ⟨a, dx, us, rfl, h1, p.spE (RpL.one r1) h fun v' d G' H' r' w' s' q => hk F W σ H' Q τ G' QT' ET d v' (p.next w' s') r' q⟩
    · exact h.elim
  · exact h.elim
theorem sim_kStr {B : Bd} : ∀ (F : Addr → Prop) (W : WX) (σ : L2.St) (H : Hp) (Q : VK) (τ : Sl) (G : GH) (QT' : KD) (ET : KX) (d : D) (v : V), Pt (B.hide F) W σ H Q τ G QT' ET → Rp (B.hide F) G H d v → kStrT d G QT' → kStr v H Q := by
  intro F W σ H Q τ G QT' ET d v p r h
  unfold kStrT at h
  split at h
  · exact ⟨_, r.str_inv, p.str h⟩
  · exact h.elim
theorem sim_kLen {B : Bd} : ∀ (F : Addr → Prop) (W : WX) (σ : L2.St) (H : Hp) (Q : VK) (τ : Sl) (G : GH) (QT' : KD) (ET : KX) (d : D) (v : V), Pt (B.hide F) W σ H Q τ G QT' ET → Rp (B.hide F) G H d v → kLenT d G QT' → kLen v H Q := by
  intro F W σ H Q τ G QT' ET d v p r h
  unfold kLenT at h
  split at h
  · exact ⟨_, r.int_inv, h.1, h.2.1, p.int h.2.2⟩
  · exact h.elim
def eReprO (C : Addr) (sp : SpT) (ta : A1) : E1 := eB (rOwn1 C sp kStrT) ta
def eLenO (C : Addr) (sp : SpT) (ta : A1) : E1 := eB (rOwn1 C sp kLenT) ta
theorem qe_reprO (F : FnG X.prog X.w X.K X.mg X.base k f fd ps sp) (cn : Cn X W) (hr : Room (k + 1) X.A) (hb : Binds X.K fd ps []) (hs : PySem.W.findIn X.K (.ref C) "__repr__" = some (some (.ref f))) (hf : PySem.W.isFn X.K (.ref f) = true)
    (ha : QA X W (e :: es) ta) (he : starEach (e :: es) X.env = (false, eval e X.env) :: starEach es X.env) (hpl : (backTo pos (starEach es X.env)).any (·.1) = false) (hg : Gl X "repr") (hm : X.mg "repr" = none) : QE X W (.Call (.Name "repr" p) (e :: es) [] pos) (eReprO C sp ta) :=
  qe_bi (sim_own1 sim_kStr) (cr_oRepr F cn.grd hr hb hs hf) hg hm (by rfl) ha (he := he) (hpl := hpl)
theorem qe_lenO (F : FnG X.prog X.w X.K X.mg X.base k f fd ps sp) (cn : Cn X W) (hr : Room (k + 1) X.A) (hb : Binds X.K fd ps []) (hs : PySem.W.findIn X.K (.ref C) "__len__" = some (some (.ref f))) (hf : PySem.W.isFn X.K (.ref f) = true)
    (ha : QA X W (e :: es) ta) (he : starEach (e :: es) X.env = (false, eval e X.env) :: starEach es X.env) (hpl : (backTo pos (starEach es X.env)).any (·.1) = false) (hg : Gl X "len") (hm : X.mg "len" = none) : QE X W (.Call (.Name "len" p) (e :: es) [] pos) (eLenO C sp ta) :=
  qe_bi (sim_own1 sim_kLen) (cr_oLen F cn.grd hr hb hs hf) hg hm (by rfl) ha (he := he) (hpl := hpl)
end
end TL
end
section
/-! TL11: dict comprehensions, keyword calls. -/
namespace TL
open PySem PySem.Spec L2

/-! ### dict comprehensions -/
section
variable {B : Bd} {G G' : GH} {H H' : Hp} {D0 : Addr}
theorem Fz.turnK {l : Fzs} (h : Fz l H) {o : HO} {xs : List (Key × V)} (hd : H D0 = some (.dK xs)) : Fz l (upd H D0 o) := fun p hp => by
  rw [upd_ne fun z => by have := h p hp; rw [z, hd] at this; cases this]
  exact h p hp
theorem RpG.tr {κ : Type} [DecidableEq κ] {F' : Addr → Prop} (t : Tr B F' G H G' H') : ∀ {ds : List (κ × D)} {vs : List (κ × V)}, RpG B G H ds vs → RpG (B.hide F') G' H' ds vs := by
  intro ds vs h
  unfold RpG at h ⊢
  induction h with
  | nil => exact .nil
  | cons p _ ih => exact .cons ⟨p.1, p.2.tr t⟩ ih
end
section
variable (t : TgN) (tt : T1) (tk te : E1) (τ : Sl) (gd : GH → Prop) (Q : List (Key × D) → GH → Prop)
def eDcL : List D → List (Key × D) → GH → Prop
  | [], acc, G => Q acc G
  | d :: r, acc, G => acc.length < sizeLine ∧ match gT t d τ G with
    | some τ1 => tt τ1 G (fun b G2 => if b = true then tk τ1 G2 (fun y G3 => match keyD y with
      | some k => te τ1 G3 (fun z G4 => gd G4 ∧ eDcL r (putD acc k z) G4) EF
      | none => False) EF else gd G2 ∧ eDcL r acc G2) EF
    | none => False
end
/-- {tk: te for t in ti if tt}, as a cell -/
def eDcC (ti : I1) (t : TgN) (tt : T1) (tk te : E1) (vs : List Nat) : E1 := fun τ G Q E => ti τ G (fun xs gd G1 => eDcL t tt tk te (wipeT τ vs) gd (fun acc G2 => ∀ p, G2 p = none → Q (.ref p) (gup G2 p (.dK acc))) xs [] G1) E
section
variable {X : Cx} {W : WX} {pos : Pos}
theorem dc_sim {K : PySem.W.Frag} {B : Bd} (hK : B.K = K) {F : Addr → Prop} {σ : L2.St} {τ : Sl} {G1 : GH} {H1 : Hp} {J : It} {ys : List D} {vs0 : List V} {xs : List D} {gd : GH → Prop} {fz : Fzs} {t : TgN} {tt : T1} {tk te : E1} {vs : List Nat} {QT' : List (Key × D) → GH → Prop} {Q : VK}
    (ins : t.ins vs) (sl : RpS (B.hide F) G1 H1 σ τ) (wd : Wd (B.hide F) G1 H1) (ok : ItOk (B.hide F) J ys vs0 xs gd fz) (ry : RpL (B.hide F) G1 H1 ys vs0) (g1 : gd G1) (f1 : Fz fz H1)
    (q : eDcL t tt tk te (wipeT τ vs) gd QT' xs [] G1)
    (fin : ∀ (D0 : Addr) (acc : List (Key × D)) (vacc : List (Key × V)) (G : GH) (H : Hp), H1 D0 = none → Stp G1 H1 G H → H D0 = some (.dK vacc) → RpG ((B.hide F).plus D0) G H acc vacc → Wd ((B.hide F).plus D0) G H → QT' acc G → Q (.ref D0) H) :
    ∀ D, H1 D = none → ∃ W : Nat → Nat → Hp → Prop, (∃ m, W 0 m (upd H1 D (.dK []))) ∧ ∀ i m H, W i m H →
  (J.stop i H ∧ Q (.ref D) H) ∨ (J.go i H ∧ ∃ Nx : Hp → Prop, (∀ H', Nx H' → ∃ m', m' < m ∧ W (i + 1) m' H') ∧ ∀ x H', J.yld i H x H' → gV K t x (L2.wipe σ vs) H' fun σ2 H2 => L2.wipe σ2 vs = L2.wipe σ vs ∧ LT B WF tt σ2 H2 fun b H3 =>
    if b = true then LE B WF tk σ2 H3 fun y H4 => LE B WF te σ2 H4 fun z H5 => ∃ kvs k, y = kV k ∧ H5 D = some (.dK kvs) ∧ kvs.length < sizeLine ∧ Nx (upd H5 D (.dK (putK kvs k z))) else Nx H3) := by
  subst hK
  intro D0 hD
  have tr0 : Tr (B.hide F) ((B.hide F).plus D0).F G1 H1 G1 (upd H1 D0 (.dK [])) := Tr.hide hD
  refine ⟨fun i m H' => i ≤ xs.length ∧ m = xs.length - i ∧ ∃ acc vacc G', H' D0 = some (.dK vacc) ∧ RpG ((B.hide F).plus D0) G' H' acc vacc ∧ RpS ((B.hide F).plus D0) G' H' (L2.wipe σ vs) (wipeT τ vs) ∧ RpL ((B.hide F).plus D0) G' H' ys vs0 ∧ Wd ((B.hide F).plus D0) G' H' ∧ Stp G1 H1 G' H' ∧ gd G' ∧ Fz fz H' ∧ eDcL t tt tk te (wipeT τ vs) gd QT' (xs.drop i) acc G',
    ⟨xs.length, Nat.zero_le _, rfl, [], [], G1, upd_same, (show Paired _ _ _ from .nil), (sl.wipe vs).tr tr0, ry.tr tr0, wd.hide hD, Stp.refl.turn hD, g1, f1.fresh hD, q⟩, ?_⟩
  rintro i m H' ⟨hi, rfl, acc, vacc, G', hd', ra, rs, ry', w', s', g', f', q'⟩
  have hF : ((B.hide F).plus D0).F D0 := .inr rfl
  have nD : ∀ {G H}, Wd ((B.hide F).plus D0) G H → G D0 = none := fun w => (w.hd D0 hF).1
  by_cases he : i = xs.length
  · subst he
    rw [List.drop_length] at q'
    exact .inl ⟨ok.stop _ G' H' ry' w' g' f', fin D0 acc vacc G' H' hD s' hd' ra w' q'⟩
  · have hl : i < xs.length := by omega
    obtain ⟨d, e1, e2⟩ := drop_at hl
    rw [e2] at q'
    refine .inr ⟨ok.go _ G' H' i ry' w' g' f' hl, _, fun H2 h => h, fun v H2 hy => ?_⟩
    obtain ⟨rd, w2, s2⟩ := ok.yld _ G' H' i d v H2 ry' w' g' f' e1 hy
    unfold eDcL at q'
    obtain ⟨hz, q'⟩ := q'
    split at q'
    · rename_i τ1 e3
      have hz' : vacc.length < sizeLine := by rw [ra.length]; exact hz
      refine gT_ok (B := (B.hide F).plus D0) w2 e3 rd (rs.step w' s2) fun σ2 r2 own => ⟨(own vs ins).trans wipe_wipe, ?_⟩
      refine ⟨((B.hide F).plus D0).F, τ1, G', _, EF, ⟨r2, w2, fun b G3 H3 w3 s3 q3 => ?_, fun _ _ _ _ _ _ _ _ h => h⟩, q'⟩
      have s13 := s2.trans s3
      cases b with
      | false =>
        rw [if_neg (by decide)] at q3
        rw [if_neg (by decide)]
        exact ⟨_, by omega, by omega, rfl, acc, vacc, G3, s13.keep D0 _ hd' (nD w'), ra.mono w' s13, rs.step w' s13, ry'.step w' s13, w3, s'.trans s13, q3.1, f'.step s13, q3.2⟩
      | true =>
        rw [if_pos rfl] at q3
        rw [if_pos rfl]
        refine ⟨((B.hide F).plus D0).F, τ1, G3, _, EF, ⟨r2.step w2 s3, w3, fun y d4 G4 H4 r4 w4 s4 q4 => ?_, fun _ _ _ _ _ _ _ _ h => h⟩, q3⟩
        split at q4
        · rename_i k ek
          refine ⟨((B.hide F).plus D0).F, τ1, G4, _, EF, ⟨(r2.step w2 s3).step w3 s4, w4, fun z d5 G5 H5 r5 w5 s5 q5 => ?_, fun _ _ _ _ _ _ _ _ h => h⟩, q4⟩
          have s15 := (s13.trans s4).trans s5
          have hd5 : H5 D0 = some (.dK vacc) := s15.keep D0 _ hd' (nD w')
          have tr5 : Tr ((B.hide F).plus D0) ((B.hide F).plus D0).F G5 H5 G5 (upd H5 D0 (.dK (putK vacc k z))) := Tr.turnO hF hd5 fun _ => nofun
          refine ⟨vacc, k, keyD_ok r4 ek, hd5, hz', _, by omega, by omega, rfl, putD acc k d5, putK vacc k z, G5, upd_same, ?_, RpS.tr (B := (B.hide F).plus D0) tr5 (rs.step w' s15), (ry'.step w' s15).tr tr5, w5.turnO hF hd5 (fun _ => nofun), (s'.trans s15).turn hD, q5.1, (f'.step s15).turnK hd5, q5.2⟩
          exact RpG.tr (B := (B.hide F).plus D0) tr5 ((ra.mono w' s15).put k r5)
        · exact q4.elim
    · exact q'.elim
theorem fin_dctC {B : Bd} {F : Addr → Prop} {W : WX} {σ : L2.St} {H : Hp} {Q : VK} {τ : Sl} {G G1 : GH} {H1 : Hp} {QT' : KD} {ET : KX} (P : Pt (B.hide F) W σ H Q τ G QT' ET) (wd : Wd (B.hide F) G1 H1) (s1 : Stp G H G1 H1) :
    ∀ (D0 : Addr) (acc : List (Key × D)) (vacc : List (Key × V)) (G : GH) (H : Hp), H1 D0 = none → Stp G1 H1 G H → H D0 = some (.dK vacc) → RpG ((B.hide F).plus D0) G H acc vacc → Wd ((B.hide F).plus D0) G H → (∀ p, G p = none → QT' (.ref p) (gup G p (.dK acc))) → Q (.ref D0) H := by
  intro D0 acc vacc G' H' hn s hd ra w q
  have gn := (w.hd D0 (.inr rfl)).1
  refine P.ok _ _ (gup G' D0 (.dK acc)) H' rp_ref (w.showC ⟨vacc, hd, RpG.k.mpr (ra.tr (Tr.showC (B := B.hide F) (D0 := D0)))⟩ (wd.of_none hn).2) (s1.trans ⟨s.keep, s.frz, fun a e => ?_⟩) (q D0 gn)
  by_cases z : a = D0
  · rw [z]; exact .inr hn
  · rw [gup_ne z] at e; exact s.new a e
theorem qe_dcC {kx vx tg iter : Expr} {ifs : List Expr} {scope : Scope} {own : List (Str × Nat)} {ti : I1} {t : TgN} {tt : T1} {tk te : E1} (hc : X.calm = true) (hN : X.N.Nodup) (hi : QI X W tg iter ti) (ok : BlkOk X.N X.env.scope scope own) (ins : t.ins (own.map (·.2)))
    (hg : ∀ (s : Shared) (H : Hp) (C : Addr) (cl : List (Str × Addr)) (fp : List Addr), PG (X.blk s H scope (compEnvC scope cl C X.env) fp) tg (gV X.K t))
    (ht : ∀ (s : Shared) (H : Hp) (C : Addr) (cl : List (Str × Addr)) (fp : List Addr), QTs (X.blk s H scope (compEnvC scope cl C X.env) fp) WF ifs tt)
    (hk : ∀ (s : Shared) (H : Hp) (C : Addr) (cl : List (Str × Addr)) (fp : List Addr), QE (X.blk s H scope (compEnvC scope cl C X.env) fp) WF kx tk)
    (he : ∀ (s : Shared) (H : Hp) (C : Addr) (cl : List (Str × Addr)) (fp : List Addr), QE (X.blk s H scope (compEnvC scope cl C X.env) fp) WF vx te)
    (hs : ∀ x, foldedSetIterable iter X.env x = pure x := by intro _; rfl) : QE X W (.DictComp kx vx [⟨tg, iter, ifs, 0⟩] scope pos) (eDcC ti t tt tk te (own.map (·.2))) :=
  PE.imp (pe_dc (tt := LT (bd X) WF tt) (tk := LE (bd X) WF tk) (tv := LE (bd X) WF te) hc hN hi ok hg ht hk he hs) fun σ H Q ⟨F, τ, G, QT', ET, P, q⟩ =>
    ⟨F, τ, G, _, ET, ⟨P.sl, P.wd, fun J ys vs0 xs gd fz G1 H1 ok ry g1 f1 w1 s1 q1 => dc_sim (B := bd X) rfl ins (P.sl.step P.wd s1) w1 ok ry g1 f1 q1 (fin_dctC P w1 s1), P.ex⟩, q⟩
end

/-! ### keyword calls -/
def QK (X : Cx) (W : WX) (kws : List Keyword) (t : A1) : Prop := PK X kws (LA (bd X) W t)
section
variable {X : Cx} {W : WX} {k n : Nat} {f C : Addr} {fd : FuncData} {ps ks : List Str} {sp : SpT} {x : Str} {p pos kpos : Pos} {e : Expr} {es : List Expr} {kws : List Keyword} {t tk : A1} {te : E1} {nm : Option Str} {g : List Value → List Value → List Value} {gV : List V → List V → List V} {gD : List D → List D → List D}
theorem PK.imp {t t' : TA} (h : PK X kws t) (i : ∀ σ H Q, t' σ H Q → t σ H Q) : PK X kws t' := ⟨fun pos pins s σ H Q I hw => h.run pos pins s σ H Q I (i _ _ _ hw)⟩
theorem qk_nil : QK X W [] aNil := PK.imp pk_nil fun σ H Q ⟨F, τ, G, QT', ET, p, t⟩ => p.ok [] [] G H RpL.nil p.wd Stp.refl t
theorem qk_cons (he : QE X W e te) (hr : QK X W kws t) : QK X W (⟨nm, e, kpos⟩ :: kws) (aCons te t) := PK.imp (pk_cons he hr) fun σ H Q ⟨F, τ, G, QT', ET, p, t⟩ => by
  refine ⟨F, τ, G, _, ET, ⟨p.sl, p.wd, fun v d G1 H1 r w s q => ?_, p.ex⟩, t⟩
  exact ⟨F, τ, G1, _, ET, ⟨p.sl.step p.wd s, w, fun vs ds G2 H2 r2 w2 s2 q2 => p.ok (v :: vs) (d :: ds) G2 H2 (RpL.cons (r.step w s2) r2) w2 (s.trans s2) q2, fun c d fs G2 H2 r2 w2 s2 q2 => p.ex c d fs G2 H2 r2 w2 (s.trans s2) q2⟩, q⟩
/-- how the trees are put in order: positional ones, then the keywords' -/
structure KBT (K : PySem.W.Frag) (B : Bd) (fd : FuncData) (ps : List Str) (n : Nat) (ks : List Str) (g : List Value → List Value → List Value) (gV : List V → List V → List V) (gD : List D → List D → List D) : Prop where
  b : KBn K fd ps n ks g gV
  d : ∀ {F : Addr → Prop} {G : GH} {H : Hp} {ds es : List D} {vs zs : List V}, RpL (B.hide F) G H ds vs → RpL (B.hide F) G H es zs → RpL (B.hide F) G H (gD ds es) (gV vs zs)
def eCallK (n m : Nat) (sp : SpT) (gD : List D → List D → List D) (t tk : A1) : E1 := fun τ G Q E => t τ G (fun ds G1 => tk τ G1 (fun es G2 => ds.length = n ∧ es.length = m ∧ sp (gD ds es) G2 Q E) E) E
theorem run_gK {pins : List (Addr × Obj)} {σ : L2.St} {H : Hp} {s : Shared} {Q : VK} {us ws : List Value} {vs zs : List V} (F : FnG X.prog X.w X.K X.mg X.base k f fd ps sp) (cn : Cn X W) (hr : Room k X.A) (hb : KBn X.K fd ps n ks g gV)
    (I : Inv X pins σ H s) (r : Vals vs us) (rz : Vals zs ws) (l1 : vs.length = n) (l2 : zs.length = ks.length) (h : LSp (bd X) sp (gV vs zs) H Q (fun c d H' => W c d σ H')) : wpAny (model X.prog X.w) X.A (call (.ref f) us (ks.zip ws)) (EP X pins σ Q) X.xe s :=
  run_g (args := ⟨us, ks.zip ws⟩) F cn hr (hb.to s us ws I.kIn (r.length.symm.trans l1) (rz.length.symm.trans l2)) I (hb.rel r rz) h
theorem qe_callK (F : FnG X.prog X.w X.K X.mg X.base k f fd ps sp) (cn : Cn X W) (hr : Room k X.A) (hg : Gl X x) (hm : X.mg x = some (.ref f)) (hk : PySem.W.keepIn X.K (.ref f) = true) (hb : KBT X.K (bd X) fd ps n ks g gV gD)
    (ha : QA X W (e :: es) t) (hkw : QK X W kws tk) (hall : (backToKw pos (keywordEach kws X.env)).all (·.1.isSome) = true := by rfl) (hks : (backToKw pos (keywordEach kws X.env)).filterMap (·.1) = ks := by rfl)
    (hdb : (x == ("__debug__" : Str)) = false := by decide) (he : starEach (e :: es) X.env = (false, eval e X.env) :: starEach es X.env := by rfl)
    (hpl : ((backTo pos (starEach (e :: es) X.env)).any (·.1) || (backToKw pos (keywordEach kws X.env)).any (·.1.isNone)) = false := by rfl) : QE X W (.Call (.Name x p) (e :: es) kws pos) (eCallK n ks.length sp gD t tk) := by
  refine ⟨fun pins s σ H Q I ⟨Fh, τ, G, QT', ET, P, q⟩ => ?_⟩
  refine wpAny_Call_Name_kw (ld_glob I hg hm ?_ hdb)
  refine PySem.W.callWith_KW (h₀ := X.base) I.ok.mod.kin hk hall (thn (ha.run pos pins s σ H (fun vs H1 => LA (bd X) W tk σ H1 (fun zs H2 => vs.length = n ∧ zs.length = ks.length ∧ LSp (bd X) sp (gV vs zs) H2 Q (fun c d H' => W c d σ H'))) I ?_) fun us s1 ⟨vs, H1, I1, r, q1⟩ => ?_) hpl he
  · refine LA.bind (P := P) (k := fun ds G1 Q E => tk τ G1 (fun es G2 => ds.length = n ∧ es.length = ks.length ∧ sp (gD ds es) G2 Q E) E) q fun vs ds G1 H1 p1 r s1 q1 => ?_
    refine LA.bind (P := p1) (k := fun es G2 Q E => ds.length = n ∧ es.length = ks.length ∧ sp (gD ds es) G2 Q E) q1 fun zs es G2 H2 p2 r2 s2 q2 => ?_
    exact ⟨r.length.trans q2.1, r2.length.trans q2.2.1, p2.lsp (hb.d (r.step p1.wd s2) r2) q2.2.2⟩
  · refine thn (hkw.run pos pins s1 σ H1 _ I1 q1) fun ws s2 ⟨zs, H2, I2, rz, l1, l2, q2⟩ => ⟨I2.kIn, ?_⟩
    rw [hks]
    exact run_gK F cn hr hb.b I2 r rz l1 l2 q2
theorem qe_callK0 (F : FnG X.prog X.w X.K X.mg X.base k f fd ps sp) (cn : Cn X W) (hr : Room k X.A) (hg : Gl X x) (hm : X.mg x = some (.ref f)) (hk : PySem.W.keepIn X.K (.ref f) = true) (hb : KBT X.K (bd X) fd ps 0 ks g gV gD)
    (hkw : QK X W kws tk) (hall : (backToKw pos (keywordEach kws X.env)).all (·.1.isSome) = true := by rfl) (hks : (backToKw pos (keywordEach kws X.env)).filterMap (·.1) = ks := by rfl)
    (hdb : (x == ("__debug__" : Str)) = false := by decide) (hpl : ((backTo pos (starEach [] X.env)).any (·.1) || (backToKw pos (keywordEach kws X.env)).any (·.1.isNone)) = false := by rfl) : QE X W (.Call (.Name x p) [] kws pos) (eCallK 0 ks.length sp gD aNil tk) := by
  refine ⟨fun pins s σ H Q I ⟨Fh, τ, G, QT', ET, P, q⟩ => ?_⟩
  refine wpAny_Call_Name_kw (ld_glob I hg hm ?_ hdb)
  refine PySem.W.callWith_KW0 (h₀ := X.base) I.ok.mod.kin hk hall (thn (hkw.run pos pins s σ H (fun zs H2 => zs.length = ks.length ∧ LSp (bd X) sp (gV [] zs) H2 Q (fun c d H' => W c d σ H')) I ?_) fun ws s2 ⟨zs, H2, I2, rz, l2, q2⟩ => ⟨I2.kIn, ?_⟩) hpl
  · refine LA.bind (P := P) (k := fun es G2 Q E => ([] : List D).length = 0 ∧ es.length = ks.length ∧ sp (gD [] es) G2 Q E) q fun zs es G2 H2 p2 r2 s2 q2 => ?_
    exact ⟨r2.length.trans q2.2.1, p2.lsp (hb.d RpL.nil r2) q2.2.2⟩
  · rw [hks]
    exact run_gK (us := []) (vs := []) F cn hr hb.b I2 .nil rz rfl l2 q2
end
end TL
end
section
/-! TLE: the law's end; the head's facts, widened. -/
namespace TL
open PySem PySem.Spec L2
open PyProof.Rows (AllBare IntsAre)

/-- no cell, nothing hidden -/
abbrev G0 : GH := fun _ => none
def scrD (ns : List Int) : D := .scr (ns.map D.int)
theorem rpL_ints {B : Bd} {G : GH} {H : Hp} : ∀ ns : List Int, RpL B G H (ns.map D.int) (ns.map V.int)
  | [] => RpL.nil
  | _ :: r => RpL.cons rp_int (rpL_ints r)
/-- the promise at the script, whatever of it is tracked -/
theorem lsp_script {P : Program} {w : World} {K : PySem.W.Frag} {sp : SpT} {H : Hp} {a : Addr} {ns : List Int} (hS : SqL K H a (ns.map V.int)) (h : sp [scrD ns] G0 (fun d _ => d = .bl true) EF) :
    LSp ⟨K, P, w, fun _ => False⟩ sp [V.ref a] H (fun v _ => v = .bl true) (fun _ _ _ => False) := by
  refine ⟨fun _ => False, [scrD ns], G0, _, EF, RpL.one ?_, ⟨fun b c e => (by cases e), fun b (f : False) => f.elim⟩, h, fun v d G' H' r _ _ q => ?_, fun _ _ _ _ _ _ _ _ q => q⟩
  · unfold scrD Rp
    refine ⟨a, ns.map V.int, rfl, ?_, rpL_ints ns⟩
    rcases hS with hS | hS
    · exact .inl ⟨hS, rfl, fun (f : False) => f⟩
    · exact .inr hS
  · rw [q] at r
    exact r.bl_inv
/-- the call of the law from a heap in which at most the script is tracked -/
theorem end_core {P : Program} {w : World} {K : PySem.W.Frag} {mg mb : Str → Option Value} {k : Nat} {fa a : Addr} {fd : FuncData} {x : Str} {sp : SpT} {s : Shared} {its : List Value} {ns : List Int} {H : Hp}
    (inK : K.In s.heap) (glo : s.heap.Ns mainGlobals mg) (blt : s.heap.Ns builtinsNs mb) (boot : ∀ y : Str, y ≠ "__name__" → mb y = bootBuiltins y) (nol : s.heap.NoLimit) (gen : s.gens = #[])
    (lay : s.heap.get? a = some { cls := .type "list", data := .seq its.toArray }) (room : Room k callerA) (F : ∀ b : Heap, K.In b → b.Ns mainGlobals mg → FnG P w K mg b k fa fd [x] sp)
    (bnd : ∀ (s : Shared) (u : Value), BindsTo s fd ⟨[u], []⟩ [(x, u)]) (only : Only H) (hS : SqL K H a (ns.map V.int)) (ok : HOk P w H s.heap) (just : ∀ b, H b ≠ none → b = a) (outK : H a ≠ none → K.lookup a = none)
    (hsp : sp [scrD ns] G0 (fun d _ => d = .bl true) EF) :
    codeAny (model P w) callerA (.call (.ref fa) ⟨[.ref a], []⟩) (fun r s' => r = .ok (.ret (.bool true)) ∧ OldK s.heap s'.heap ∧ s'.os = s.os ∧ AllBare s'.gens) s := by
  -- an object that is no list of the script stands in the base
  have low : ∀ {b : Addr} {o : Obj}, s.heap.get? b = some o → (b = a → H a = none) → (hidT s.heap H).get? b = some o := fun {b o} e z => hidT_get e (by
    cases q : H b with
    | none => rfl
    | some u =>
      have ea := just b (by rw [q]; simp)
      rw [ea] at q
      rw [z ea] at q; cases q)
  have dictLow : ∀ {b : Addr} {m : Str → Option Value}, s.heap.Ns b m → (hidT s.heap H).Ns b m := fun {b m} y => by
    obtain ⟨o, es, ep, e, d, r⟩ := y
    refine ⟨o, es, ep, low e fun z => ?_, d, r⟩
    exfalso
    rw [z, lay] at e
    cases e
    exact (nofun : Data.seq its.toArray 0 = Data.dict es ep → False) d
  have kLow : K.In (hidT s.heap H) := fun b o e => low (inK b o e) fun z => by
    cases q : H a with
    | none => rfl
    | some u =>
      have := outK (by rw [q]; simp)
      rw [← z, e] at this; cases this
  have modu : Mod K mg (hidT s.heap H) := by
    refine ⟨kLow, dictLow glo, ⟨mb, dictLow blt, boot⟩, ?_⟩
    obtain ⟨mc, l1, l2⟩ := nol
    exact ⟨mc, dictLow l1, l2⟩
  have start : Env0 P w K mg (hidT s.heap H) callerA [] s H :=
    { frames := rfl, mod := modu, bs := fun b o e => of_hidT e, bsz := Nat.le_of_eq (hidT_size _ _), funs := trivial, frf := fun b hb => (by cases (show b ∈ ([] : List Addr) from hb)), hok := ok, bare := .of_eq gen }
  have go := (F (hidT s.heap H) kLow (dictLow glo)).run callerA [] s H ⟨[.ref a], []⟩ [.ref a] [V.ref a] _ _ room rfl start (bnd s (.ref a)) (.cons (show RelV (V.ref a) (Value.ref a) from rfl) .nil) (lsp_script (P := P) (w := w) hS hsp)
  refine codeAny_mono go fun r s' h => ?_
  match r, h with
  | .error e, ⟨_, _, _, _, _, _, _, _, _, _, _, _, no⟩ => exact no.elim
  | .ok (.ret u), ⟨v, H', os, bare, un, ok', rv, ev⟩ =>
    rw [show v = V.bl true from ev] at rv
    obtain rfl : u = Value.bool true := rv
    refine ⟨rfl, OldK.of_keep fun b o e => ?_, os, bare⟩
    rcases only b with q | ⟨ob, xs, q⟩
    · exact un.keep b o e q (fun z => by cases (show b ∈ ([] : List Addr) from z)) (by simp)
    · have same := (ok b _ q).1
      have then_ := (ok' b _ (un.frzs b ob _ q)).1
      rw [e] at same
      cases same
      exact then_
theorem end_call {P : Program} {w : World} {K : PySem.W.Frag} {mg mb : Str → Option Value} {k : Nat} {fa a : Addr} {fd : FuncData} {x : Str} {sp : SpT} {s : Shared} {its : List Value} {ns : List Int}
    (inK : K.In s.heap) (glo : s.heap.Ns mainGlobals mg) (blt : s.heap.Ns builtinsNs mb) (boot : ∀ y : Str, y ≠ "__name__" → mb y = bootBuiltins y) (nol : s.heap.NoLimit) (gen : s.gens = #[])
    (lay : s.heap.get? a = some { cls := .type "list", data := .seq its.toArray }) (hi : IntsAre its ns) (hl : ns.length ≤ sizeLine) (room : Room k callerA) (F : ∀ b : Heap, K.In b → b.Ns mainGlobals mg → FnG P w K mg b k fa fd [x] sp)
    (bnd : ∀ (s : Shared) (u : Value), BindsTo s fd ⟨[u], []⟩ [(x, u)]) (hsp : sp [scrD ns] G0 (fun d _ => d = .bl true) EF) :
    codeAny (model P w) callerA (.call (.ref fa) ⟨[.ref a], []⟩) (fun r s' => r = .ok (.ret (.bool true)) ∧ OldK s.heap s'.heap ∧ s'.os = s.os ∧ AllBare s'.gens) s := by
  have rel := vals_ints hi
  have size := hi.length
  cases q : K.lookup a with
  | some o =>
    have e := inK a o q
    rw [lay] at e
    cases e
    refine end_core (H := fun _ => none) inK glo blt boot nol gen lay room F bnd (fun _ => .inl rfl) ?_ (fun b u z => by cases (show (none : Option HO) = some u from z)) (fun b z => absurd rfl z) (fun z => absurd rfl z) hsp
    exact .inr ⟨_, its.toArray, 0, q, rfl, rfl, rfl, by rw [List.size_toArray, size]; exact hl, by simpa using rel⟩
  | none =>
    let H : Hp := fun b => if b = a then some (.frz { cls := .type "list", data := .seq its.toArray } (.lst (ns.map V.int))) else none
    have atA : H a = some (.frz { cls := .type "list", data := .seq its.toArray } (.lst (ns.map V.int))) := if_pos rfl
    have off : ∀ {b}, b ≠ a → H b = none := fun n => if_neg n
    refine end_core (H := H) inK glo blt boot nol gen lay room F bnd (fun b => ?_) (.inl (.inr ⟨_, atA⟩)) (fun b u z => ?_) (fun b z => ?_) (fun _ => q) hsp
    · by_cases eb : b = a
      · rw [eb]; exact .inr ⟨_, _, atA⟩
      · exact .inl (off eb)
    · by_cases eb : b = a
      · subst eb
        rw [atA] at z
        cases z
        exact ⟨lay, by rw [List.length_map]; exact hl, its, 0, rel, lay⟩
      · rw [off eb] at z; cases z
    · by_cases eb : b = a
      · exact eb
      · exact absurd (off eb) z
/-- THE END of a law: what it is to say of every script of at most n ints -/
theorem walk_ofG {l : PySem.W.OpenLaw} {n k : Nat} {q : Program} {loose : List Str} {XP : (Str → Option Value) → Heap → Prop} {YP : World → Heap → Prop} {d : DefRec} {x : Str} (hn : l.most = some n) (hn2 : n ≤ sizeLine) (hdf : d.params.defaults = []) (room : Room k callerA)
    (F : ∀ (w : World) (mg : Str → Option Value) (fa : Addr) (h : Heap), YP w h → h.Ns mainGlobals mg → mg d.name = some (.ref fa) → ∃ (K : PySem.W.Frag) (fd : FuncData) (sp : SpT), K.In h ∧ (∀ (s : Shared) (u : Value), BindsTo s fd ⟨[u], []⟩ [(x, u)]) ∧
      (∀ ns : List Int, ns.length ≤ n → sp [scrD ns] G0 (fun d _ => d = .bl true) EF) ∧ ∀ b : Heap, K.In b → b.Ns mainGlobals mg → FnG l.prog w K mg b k fa fd [x] sp) :
    PySem.W.WalkO q loose XP YP l.row.toRowW d [] (fun f vs => PySem.call f vs) := by
  refine Att.attach_call hn hdf fun w s0 s mg mb fa o pm cd doc a its ns gr y ho hd hcd hmg lay hi hlen gen => ?_
  obtain ⟨K, fd, sp, inK, bnd, say, hF⟩ := F w mg fa _ y gr.T.g hmg
  exact end_call inK gr.T.g gr.T.b gr.T.builtins gr.T.nolimit gen lay hi (Nat.le_trans hlen hn2) room hF bnd (say ns hlen)
end TL

/-! ### the head's facts, widened by checks of one's own -/
namespace TLH
open PySem PySem.Spec L2 He
abbrev Ck := PySem.W.Frag → Bool
abbrev AlX : Type := Bool × AlD
def obsX (n : Nat) (fa : List Fa) (fn : List DefD) (ck : List Ck) (g : Addr → Option Obj) : AlX := let K := frG g (sysModules :: PySem.cStatics :: asD g n); (ck.all fun c => c K, obsD fa fn K)
def SaysX (fa : List Fa) (fn : List DefD) (ck : List Ck) (K : PySem.W.Frag) : Prop := SaysD fa fn K ∧ ∀ c ∈ ck, c K = true
def hookX (n : Nat) (fa : List Fa) (fn : List DefD) (ck : List Ck) : PySem.W.Hook where
  α := AlX
  obs := fun s => obsX n fa fn ck s.heap.get?
  val := fun _ => (true, valD fn)
  says := fun _ h => ∃ K : PySem.W.Frag, K.In h ∧ SaysX fa fn ck K
  of := fun _ _ e => ⟨_, frG_in, congrArg Prod.snd e, List.all_eq_true.mp (congrArg Prod.fst e)⟩
  keeps := fun _ _ _ ⟨K, hK, c⟩ k => ⟨K, PySem.W.Frag.In.keeps hK k, c⟩
theorem obsX_eq {n : Nat} {fa : List Fa} {fn : List DefD} {ck : List Ck} {g : Addr → Option Obj} {s : Shared} (h : ∀ a, g a = s.heap.get? a) : obsX n fa fn ck g = (hookX n fa fn ck).obs s := by
  have e : g = s.heap.get? := funext h
  rw [e]; rfl
theorem SaysX.ck {fa : List Fa} {fn : List DefD} {ck : List Ck} {K : PySem.W.Frag} (c : SaysX fa fn ck K) (i : Nat) {f : Ck} (h : ck[i]? = some f := by rfl) : f K = true := c.2 f (List.mem_of_getElem? h)
end TLH
end
section
/-! TL12: name = [comprehension]; a, b = x, y; calls by what is known of a def. -/
namespace TL
open PySem PySem.Spec L2
section
variable {X : Cx} {W : WX} {pos : Pos}
theorem qs_setLc {i : Nat} {y : Str} {py spos : Pos} {elt tg iter : Expr} {ifs : List Expr} {scope : Scope} {own : List (Str × Nat)} {ti : I1} {t : TgN} {tt : T1} {te : E1} (hc : X.calm = true) (hN : X.N.Nodup) (hy : X.N[i]? = some y) (hyl : X.env.scope.names.lookup y = some .local)
    (hsw : swapsWith (.ListComp elt [⟨tg, iter, ifs, 0⟩] scope pos) (some (.Name y py)) spos.line X.env = pure true) (hi : QI X W tg iter ti) (ok : BlkOk X.N X.env.scope scope own) (ins : t.ins (own.map (·.2)))
    (hg : ∀ (s : Shared) (H : Hp) (C : Addr) (cl : List (Str × Addr)) (fp : List Addr), PG (X.blk s H scope (compEnvC scope cl C X.env) fp) tg (gV X.K t))
    (ht : ∀ (s : Shared) (H : Hp) (C : Addr) (cl : List (Str × Addr)) (fp : List Addr), QTs (X.blk s H scope (compEnvC scope cl C X.env) fp) WF ifs tt)
    (he : ∀ (s : Shared) (H : Hp) (C : Addr) (cl : List (Str × Addr)) (fp : List Addr), QE (X.blk s H scope (compEnvC scope cl C X.env) fp) WF elt te)
    (hs : ∀ x, foldedSetIterable iter X.env x = pure x := by intro _; rfl) : QS X W (.Assign [.Name y py] (.ListComp elt [⟨tg, iter, ifs, 0⟩] scope pos) spos) (sSet i (eLc ti t tt te (own.map (·.2)))) :=
  PS.imp (ps_setLc (tt := LT (bd X) WF tt) (te := LE (bd X) WF te) hc hN hy hyl hsw hi ok hg ht he hs) fun D' σ H ⟨F, τ, G, DT, KT, P, q⟩ => by
    have P' : Pt ((bd X).hide F) W σ H (fun x H1 => D'.nx (σ.set i (some x)) H1) τ G (fun d G1 => DT.nx (τ.set i (some d)) G1) (fun c f g => KT c f τ g) :=
      ⟨P.sl, P.wd, fun v d G1 H1 r w s q => P.nx _ _ G1 H1 ((P.sl.step P.wd s).set r) w s q, fun c d fs G1 H1 r w s q => P.ex c d fs σ τ G1 H1 (P.sl.step P.wd s) r w s q⟩
    exact ⟨F, τ, G, _, _, ⟨P'.sl, P'.wd, fun J ys vs0 xs gd fz G1 H1 ok ry g1 f1 w1 s1 q1 => lc_sim (B := bd X) rfl ins (P'.sl.step P'.wd s1) w1 ok ry g1 f1 q1 (fin_lst P' w1 s1), P'.ex⟩, q⟩
theorem qs_setLcC {i : Nat} {y : Str} {py spos : Pos} {elt tg iter : Expr} {ifs : List Expr} {scope : Scope} {own : List (Str × Nat)} {ti : I1} {t : TgN} {tt : T1} {te : E1} (hc : X.calm = true) (hN : X.N.Nodup) (hy : X.N[i]? = some y) (hyl : X.env.scope.names.lookup y = some .local)
    (hsw : swapsWith (.ListComp elt [⟨tg, iter, ifs, 0⟩] scope pos) (some (.Name y py)) spos.line X.env = pure true) (hi : QI X W tg iter ti) (ok : BlkOk X.N X.env.scope scope own) (ins : t.ins (own.map (·.2)))
    (hg : ∀ (s : Shared) (H : Hp) (C : Addr) (cl : List (Str × Addr)) (fp : List Addr), PG (X.blk s H scope (compEnvC scope cl C X.env) fp) tg (gV X.K t))
    (ht : ∀ (s : Shared) (H : Hp) (C : Addr) (cl : List (Str × Addr)) (fp : List Addr), QTs (X.blk s H scope (compEnvC scope cl C X.env) fp) WF ifs tt)
    (he : ∀ (s : Shared) (H : Hp) (C : Addr) (cl : List (Str × Addr)) (fp : List Addr), QE (X.blk s H scope (compEnvC scope cl C X.env) fp) WF elt te)
    (hs : ∀ x, foldedSetIterable iter X.env x = pure x := by intro _; rfl) : QS X W (.Assign [.Name y py] (.ListComp elt [⟨tg, iter, ifs, 0⟩] scope pos) spos) (sSet i (eLcC ti t tt te (own.map (·.2)))) :=
  PS.imp (ps_setLc (tt := LT (bd X) WF tt) (te := LE (bd X) WF te) hc hN hy hyl hsw hi ok hg ht he hs) fun D' σ H ⟨F, τ, G, DT, KT, P, q⟩ => by
    have P' : Pt ((bd X).hide F) W σ H (fun x H1 => D'.nx (σ.set i (some x)) H1) τ G (fun d G1 => DT.nx (τ.set i (some d)) G1) (fun c f g => KT c f τ g) :=
      ⟨P.sl, P.wd, fun v d G1 H1 r w s q => P.nx _ _ G1 H1 ((P.sl.step P.wd s).set r) w s q, fun c d fs G1 H1 r w s q => P.ex c d fs σ τ G1 H1 (P.sl.step P.wd s) r w s q⟩
    exact ⟨F, τ, G, _, _, ⟨P'.sl, P'.wd, fun J ys vs0 xs gd fz G1 H1 ok ry g1 f1 w1 s1 q1 => lc_sim (B := bd X) rfl ins (P'.sl.step P'.wd s1) w1 ok ry g1 f1 q1 (fin_lstC P' w1 s1), P'.ex⟩, q⟩
/-- a, b = x, y (plain local names) -/
def sPar (i j : Nat) (ta : A1) : S1 := fun DT E τ G => ta τ G (fun ds G1 => match ds with
  | [x, y] => DT.nx ((τ.set i (some x)).set j (some y)) G1
  | _ => False) (fun c f g => E c f τ g)
theorem qs_par {i j : Nat} {x y : Str} {a b : Expr} {ta : A1} {px py pt : Pos} {kt k2 pt2} (hc : X.calm = true) (hN : X.N.Nodup) (hi : X.N[i]? = some x) (hj : X.N[j]? = some y) (hij : i ≠ j)
    (hx : X.env.scope.names.lookup x = some .local) (hy : X.env.scope.names.lookup y = some .local) (ha : QA X W [a, b] ta)
    (hw : swappedStores [.Tuple [.Name x px, .Name y py] kt pt] (.Tuple [a, b] k2 pt2) X.env = pure (some [x, y]))
    (hs : swapsWithSole [.Tuple [.Name x px, .Name y py] kt pt] (.Tuple [a, b] k2 pt2) pos.line X.env = pure false := by rfl) : QS X W (.Assign [.Tuple [.Name x px, .Name y py] kt pt] (.Tuple [a, b] k2 pt2) pos) (sPar i j ta) :=
  PS.imp (ps_par hc hN hi hj hij hx hy ha hw hs) fun D' σ H ⟨F, τ, G, DT, KT, P, q⟩ =>
    LA.inS P (k := fun ds τ G1 => match ds with
      | [x, y] => DT.nx ((τ.set i (some x)).set j (some y)) G1
      | _ => False) q fun vs ds G1 H1 p1 r s1 q1 => by
      split at q1
      · obtain ⟨v, u, rfl, r1, r2⟩ := r.inv2
        exact ⟨v, u, rfl, p1.nx _ _ G1 H1 ((p1.sl.set r1).set r2) p1.wd Stp.refl q1⟩
      · exact q1.elim
theorem RpL.inv3 {B : Bd} {G : GH} {H : Hp} {d e f : D} {vs : List V} (h : RpL B G H [d, e, f] vs) : ∃ v u w, vs = [v, u, w] ∧ Rp B G H d v ∧ Rp B G H e u ∧ Rp B G H f w := by
  obtain ⟨v, r, rfl, h1, q⟩ := h.uncons
  obtain ⟨u, w, rfl, h2, h3⟩ := q.inv2
  exact ⟨v, u, w, rfl, h1, h2, h3⟩
def sPar3 (i j l : Nat) (ta : A1) : S1 := fun DT E τ G => ta τ G (fun ds G1 => match ds with
  | [x, y, z] => DT.nx (((τ.set i (some x)).set j (some y)).set l (some z)) G1
  | _ => False) (fun c f g => E c f τ g)
end
section
variable {P : Program} {w : World} {K : PySem.W.Frag} {mg : Str → Option Value} {base : Heap}
/-- what a body does, as a promise -/
def spOf (N : List Str) (n : Nat) (t : S1) : SpT := fun ds G Q E => ds.length = n ∧ t { nx := fun _ G' => Q .non G', rt := Q } (fun c f _ g => E c f g) (startT N ds) G
/-- the module's name x is a def that keeps sp -/
def Cal (P : Program) (w : World) (K : PySem.W.Frag) (mg : Str → Option Value) (base : Heap) (x : Str) (k : Nat) (ps : List Str) (sp : SpT) : Prop :=
  ∃ f fd, mg x = some (.ref f) ∧ PySem.W.keepIn K (.ref f) = true ∧ Binds K fd ps [] ∧ FnG P w K mg base k f fd ps sp
theorem Cal.imp {x : Str} {k : Nat} {ps : List Str} {sp sp' : SpT} (c : Cal P w K mg base x k ps sp) (h : ∀ ds G Q E, sp' ds G Q E → sp ds G Q E) : Cal P w K mg base x k ps sp' := by
  obtain ⟨f, fd, h1, h2, h3, h4⟩ := c
  exact ⟨f, fd, h1, h2, h3, h4.imp h⟩
/-- C has the method m, that keeps sp -/
def CalM (P : Program) (w : World) (K : PySem.W.Frag) (mg : Str → Option Value) (base : Heap) (C : Addr) (m : Str) (k : Nat) (ps : List Str) (sp : SpT) : Prop :=
  ∃ f fd, Meth K C m f ∧ Binds K fd ps [] ∧ FnG P w K mg base k f fd ps sp
theorem CalM.imp {C : Addr} {m : Str} {k : Nat} {ps : List Str} {sp sp' : SpT} (c : CalM P w K mg base C m k ps sp) (h : ∀ ds G Q E, sp' ds G Q E → sp ds G Q E) : CalM P w K mg base C m k ps sp' := by
  obtain ⟨f, fd, h1, h2, h4⟩ := c
  exact ⟨f, fd, h1, h2, h4.imp h⟩
/-- x is the class C, its __init__ keeps sp; dds: the defaults that are put behind the arguments -/
def CalC (P : Program) (w : World) (K : PySem.W.Frag) (mg : Str → Option Value) (base : Heap) (x : Str) (C : Addr) (k : Nat) (ps : List Str) (sp : SpT) (dds : List D) : Prop :=
  ∃ f fd dvs ds, mg x = some (.ref C) ∧ Mk K C f ∧ Binds K fd ps ds ∧ Vals dvs ds ∧ Dfl ⟨K, P, w, fun _ => False⟩ dds dvs ∧ FnG P w K mg base k f fd ps sp
theorem CalC.imp {x : Str} {C : Addr} {k : Nat} {ps : List Str} {sp sp' : SpT} {dds : List D} (c : CalC P w K mg base x C k ps sp dds) (h : ∀ ds G Q E, sp' ds G Q E → sp ds G Q E) : CalC P w K mg base x C k ps sp' dds := by
  obtain ⟨f, fd, dvs, ds, h1, h2, h3, h4, h5, h6⟩ := c
  exact ⟨f, fd, dvs, ds, h1, h2, h3, h4, h5, h6.imp h⟩
end
section
variable {X : Cx} {W : WX} {k : Nat} {C : Addr} {ps : List Str} {sp : SpT} {dds : List D} {x m : Str} {p pos apos : Pos} {e o : Expr} {es : List Expr} {ta : E1} {t : A1}
theorem hu66 {A : Around} {k : Nat} (hr : Room k A) : A.units + 66 < cLine := by have := hr.un; omega
theorem qc_call (c : Cal X.prog X.w X.K X.mg X.base x k ps sp) (cn : Cn X W) (hr : Room k X.A) (hg : Gl X x) (ha : QA X W (e :: es) t) (hdb : (x == ("__debug__" : Str)) = false := by decide) (he : starEach (e :: es) X.env = (false, eval e X.env) :: starEach es X.env := by rfl) (hpl : (backTo pos (starEach es X.env)).any (·.1) = false := by rfl) :
    QE X W (.Call (.Name x p) (e :: es) [] pos) (eCall sp [] t) := by
  obtain ⟨f, fd, h1, h2, h3, h4⟩ := c
  exact qe_call h4 cn hr hg h1 h2 h3 .nil Dfl.nil ha hdb he hpl
theorem qc_call0 (c : Cal X.prog X.w X.K X.mg X.base x k ps sp) (cn : Cn X W) (hr : Room k X.A) (hg : Gl X x) (hdb : (x == ("__debug__" : Str)) = false := by decide) : QE X W (.Call (.Name x p) [] [] pos) (eCall sp [] aNil) := by
  obtain ⟨f, fd, h1, h2, h3, h4⟩ := c
  exact qe_call0 h4 cn hr hg h1 h2 h3 .nil Dfl.nil hdb
theorem qc_meth {pl : Sem Bool} (he : QE X W o ta) (c : Cls X.K C) (cm : CalM X.prog X.w X.K X.mg X.base C m k ps sp) (cn : Cn X W) (hr : Room k X.A) (ha : QA X W (e :: es) t)
    (hst : starEach (e :: es) X.env = (false, eval e X.env) :: starEach es X.env := by rfl) (hpl : (backTo pos (starEach es X.env)).any (·.1) = false := by rfl)
    (ht : eval (.Call (.Attribute o m apos) (e :: es) [] pos) X.env = (do
      let ov ← eval o X.env
      standAt apos.atName
      let (g, first) ← holding [ov] (getMethod ov m pl)
      callWith pos g first (backTo pos (starEach (e :: es) X.env)) (backToKw pos (keywordEach [] X.env))) := by rfl) : QE X W (.Call (.Attribute o m apos) (e :: es) [] pos) (eMeth C m sp [] ta t) := by
  obtain ⟨f, fd, h1, h3, h4⟩ := cm
  exact qe_meth he c h1 h4 cn hr h3 .nil Dfl.nil ha hst hpl ht
theorem qc_meth0 {pl : Sem Bool} (he : QE X W o ta) (c : Cls X.K C) (cm : CalM X.prog X.w X.K X.mg X.base C m k ps sp) (cn : Cn X W) (hr : Room k X.A)
    (ht : eval (.Call (.Attribute o m apos) [] [] pos) X.env = (do
      let ov ← eval o X.env
      standAt apos.atName
      let (g, first) ← holding [ov] (getMethod ov m pl)
      callWith pos g first (backTo pos (starEach [] X.env)) (backToKw pos (keywordEach [] X.env))) := by rfl) : QE X W (.Call (.Attribute o m apos) [] [] pos) (eMeth C m sp [] ta aNil) := by
  obtain ⟨f, fd, h1, h3, h4⟩ := cm
  exact qe_meth0 he c h1 h4 cn hr h3 .nil Dfl.nil ht
theorem qc_make (c : CalC X.prog X.w X.K X.mg X.base x C k ps sp dds) (cn : Cn X W) (hr : Room (k + 1) X.A) (hg : Gl X x) (ha : QA X W (e :: es) t) (hdb : (x == ("__debug__" : Str)) = false := by decide) (he : starEach (e :: es) X.env = (false, eval e X.env) :: starEach es X.env := by rfl) (hpl : (backTo pos (starEach es X.env)).any (·.1) = false := by rfl) :
    QE X W (.Call (.Name x p) (e :: es) [] pos) (eMake C sp dds t) := by
  obtain ⟨f, fd, dvs, ds, h1, h2, h3, h4, h5, h6⟩ := c
  exact qe_make h2 h6 cn hr hg h1 h3 h4 h5 ha hdb he hpl
end
end TL
end
section
/-! TL12b: enumerate, over lists, tuples, texts, from any number. -/
namespace TLK
open PySem PySem.Spec Builtin
set_option maxHeartbeats 4000000 in
/-- enumerate.__new__ of one thing that begins -/
theorem enumNew1 {v : Value} {o : Obj} {Hh : Heap → Prop} (Bg : Begins v o Hh) :
    Meets (Builtin.«enumerate.__new__» ⟨[.type "enumerate", v], []⟩) (fun _ R s => Hh s.heap ∧
      R (.ok (.ret (.ref (s.heap.push o).objs.size))) { s with heap := (s.heap.push o).push { cls := .type "enumerate", data := .fields #[.none, .bool false, .ref s.heap.objs.size, rawInt 0, .none, .none] } }) :=
  .of_wp fun prog w A R s h => by
    obtain ⟨hp, g, d, tk, os⟩ := s
    obtain ⟨h1, h⟩ := h
    have sub := sub_enumerate
    have begin_ : ∀ {A' : Around} {E Q : Value → Shared → Prop}, Q (.ref hp.objs.size) ⟨hp.push o, g, d, tk, os⟩ → wpAny (model prog w) A' (pyIter v) Q E ⟨hp, g, d, tk, os⟩ :=
      fun q => Bg.iter prog w _ _ ⟨hp, g, d, tk, os⟩ _ h1 q
    wp_walk using begin_
    refine wpAny_stack_any fun st => wpAny_pure ?_
    split
    · rename_i c _ _ _ _ _
      cases (c == Value.type "enumerate") <;> (wp_walk using begin_; exact ⟨_, rfl, h⟩)
    · wp_walk using begin_; exact ⟨_, rfl, h⟩
section
variable {prog : Program} {w : World} {A : Around} {E : Value → Shared → Prop} {s : Shared}
theorem enumCall1 {v : Value} {o : Obj} {Hh : Heap → Prop} {Q : Value → Shared → Prop} (Bg : Begins v o Hh) (h1 : Hh s.heap)
    (h : ∀ h', IsEnum h' (s.heap.objs.size + 1) s.heap.objs.size 0 .none → h'.get? s.heap.objs.size = some o → (∀ b o, s.heap.get? b = some o → h'.get? b = some o) → Q (.ref (s.heap.objs.size + 1)) { s with heap := h' }) :
    wpAny (model prog w) A (call (.type "enumerate") [v]) Q E s := by
  refine callType_new F.called_enumerate (by decide) (F.typeCall_enumerate_1 _) (F.newCall_enumerate_1 _) (fun obj => F.args_object_init_2 obj _) F.entry_enumerate_new (enumNew1 Bg) ⟨h1, ?_⟩
  have hz : (s.heap.push o).objs.size = s.heap.objs.size + 1 := Heap.size_push ..
  show _ ∧ _
  rw [hz]
  have he : IsEnum ((s.heap.push o).push { cls := .type "enumerate", data := .fields #[.none, .bool false, .ref s.heap.objs.size, rawInt 0, .none, .none] }) (s.heap.objs.size + 1) s.heap.objs.size 0 .none := by
    have g := Heap.get?_push_size (s.heap.push o) (o := { cls := .type "enumerate", data := .fields #[.none, .bool false, .ref s.heap.objs.size, rawInt 0, .none, .none] }) rfl
    rw [hz] at g
    exact g
  exact ⟨⟨_, he, rfl⟩, h _ he (Heap.get?_push_of_some _ (Heap.get?_push_size _ Bg.free)) fun b ob x => Heap.get?_push_of_some _ (Heap.get?_push_of_some _ x)⟩
end
end TLK
namespace TL
open PySem PySem.Spec L2
def JeL (K : PySem.W.Frag) (c : Int) (l : Lf) : It :=
  ⟨fun i H => ∃ xs x, l.has K H xs ∧ xs[i]? = some x, fun i H v H' => ∃ T x, v = .ref T ∧ H T = none ∧ H' = upd H T (.tup [.int (c + (i : Nat)), x]) ∧ ∀ xs, l.has K H xs → xs[i]? = some x, fun i H => ∃ xs, l.has K H xs ∧ xs.length = i⟩
theorem turn_enumL {P : Program} {w : World} {K : PySem.W.Frag} {elts : List Expr} {kk : Nat} {tpos : Pos} {N : Nat} {c : Int} {l : Lf} (h1 : ∀ b ∈ l.ads, b < N) :
    Turn P w K (.Tuple elts kk tpos) (JeL K c l) [N + 1, N] (N + 1) (fun i h => (∃ old, IsEnum h (N + 1) N (c + (i : Nat)) old) ∧ l.at_ N i h) where
  mem := by simp
  obj := fun i h ⟨⟨old, z1⟩, z2⟩ b hb => by
    have e : b = N + 1 ∨ b = N := by simpa using hb
    rcases e with e | e <;> subst e
    · exact ⟨_, z1, fun v q => nomatch q⟩
    · exact Lf.at_obj (lf := l) z2
  keep := fun i h h' ⟨⟨old, z1⟩, z2⟩ k => ⟨⟨old, k _ (by simp) _ z1⟩, Lf.at_mono (lf := l) z2 fun o => k _ (by simp) o⟩
  item := by
    intro X hP hw hK hc i pins s σ H E I hf ⟨⟨old, z1⟩, z2⟩ hg
    subst hP hw hK
    obtain ⟨xs, x, q1, e1⟩ := hg
    have a1 : N ∉ l.ads := fun q => Nat.lt_irrefl _ (h1 N q)
    have a2 : N + 1 ∉ N :: l.ads := fun q => by
      rcases List.mem_cons.mp q with q | q
      · exact absurd q (Nat.succ_ne_self N)
      · exact absurd (h1 _ q) (Nat.not_lt.mpr (Nat.le_succ N))
    obtain ⟨P1, S1, D1, s1, k1, p1⟩ := Lf.draws I q1 (A := X.A.in1) (I.ok.hd hc) a1 z2
    have W := GoesN.enumFrom (elts := elts) (x1 := kk) (pos := tpos) c D1 (N + 1) (Nat.succ_ne_self N) a2 (by simp)
    refine W.goes i s _ E (List.getElem?_eq_some_iff.mp e1).1 ⟨⟨old, z1⟩, s1⟩ fun v h' tk ⟨T, t, u, ev, hT, r1, tp⟩ ⟨y1, y2⟩ hk htk => ?_
    subst ev
    obtain ⟨x', f1, g1⟩ := p1 i u r1
    refine ⟨.ref T, _, pair_new I hf hk hT (show RelV (V.int (c + (i : Nat))) (Value.int (c + (i : Nat)) t) from ⟨t, rfl⟩) g1 tp, rfl, ⟨T, x', rfl, I.hok.fresh hT, rfl, fun l' hl => by rw [Lf.inj I hl q1]; exact f1⟩, ⟨y1, k1 _ _ y2⟩, fun b hb => ?_⟩
    obtain ⟨o, eo, _⟩ : ∃ o, s.heap.get? b = some o ∧ ∀ v, o.data ≠ .cell v := by
      have e : b = N + 1 ∨ b = N := by simpa using hb
      rcases e with e | e <;> subst e
      · exact ⟨_, z1, fun v q => nomatch q⟩
      · exact Lf.at_obj (lf := l) z2
    rw [upd_ne (Nat.ne_of_lt (Nat.lt_of_lt_of_le (Heap.lt_size eo) hT))]
    exact (hf b hb).1
  done := by
    intro X hP hw hK hc i pins s σ H E I hf ⟨⟨old, z1⟩, z2⟩ hg
    subst hP hw hK
    obtain ⟨xs, q1, e1⟩ := hg
    subst e1
    have a1 : N ∉ l.ads := fun q => Nat.lt_irrefl _ (h1 N q)
    have a2 : N + 1 ∉ N :: l.ads := fun q => by
      rcases List.mem_cons.mp q with q | q
      · exact absurd q (Nat.succ_ne_self N)
      · exact absurd (h1 _ q) (Nat.not_lt.mpr (Nat.le_succ N))
    obtain ⟨P1, S1, D1, s1, k1, p1⟩ := Lf.draws I q1 (A := X.A.in1) (I.ok.hd hc) a1 z2
    have W := GoesN.enumFrom (elts := elts) (x1 := kk) (pos := tpos) c D1 (N + 1) (Nat.succ_ne_self N) a2 (by simp)
    exact W.stops s _ E ⟨⟨old, z1⟩, s1⟩ fun h' tk hk htk => I.turnedL (ch := [N + 1, N]) hk hf
  self := fun A i s Q E st h => let ⟨⟨_, he⟩, _⟩ := st; wpAny_pyIter_enum he h
def iEnumV (K : PySem.W.Frag) (c : Int) (ta : TA) : TI := fun σ H R => ta σ H fun vs H1 => ∃ l xs, vs = [Lf.v l] ∧ Lf.has K H1 l xs ∧ R (JeL K c l) H1
theorem enum_pie {X : Cx} {pins : List (Addr × Obj)} {σ : L2.St} {H : Hp} {s : Shared} {R : It → Hp → Prop} {h' : Heap} {o : Obj} {l : Lf} {xs : List V} {c : Int} {elts : List Expr} {kk : Nat} {tpos : Pos} (I : Inv X pins σ H s) (hx : l.has X.K H xs) (c1 : ∀ it h', h'.get? it = some o → l.at_ it 0 h')
    (he : IsEnum h' (s.heap.objs.size + 1) s.heap.objs.size c .none) (ho : h'.get? s.heap.objs.size = some o) (hk : ∀ b o, s.heap.get? b = some o → h'.get? b = some o) (q : R (JeL X.K c l) H) :
    PIE X pins σ (.Tuple elts kk tpos) R (.ref (s.heap.objs.size + 1)) { s with heap := h' } := by
  have I2 : Inv X pins σ H { s with heap := h' } := I.kept (t' := s.toks) hk
  refine ⟨s.heap.objs.size + 1, _, _, _, H, rfl, I2, turn_enumL (Lf.lt I hx), ⟨⟨.none, by simpa using he⟩, c1 _ _ ho⟩, fun b hb => ?_, q⟩
  have hle : s.heap.objs.size ≤ b := by
    have : b = s.heap.objs.size + 1 ∨ b = s.heap.objs.size := by simpa using hb
    rcases this with z | z <;> (rw [z]; first | exact Nat.le_add_right _ _ | exact Nat.le_refl _)
  exact I.fpOk hle (I.hok.fresh hle)
section
variable {X : Cx} {W : WX} {e : Expr} {p pos tpos kpos : Pos} {elts : List Expr} {kk : Nat}
theorem pi_enumV {ta : TA} (hg : Gl X "enumerate") (hm : X.mg "enumerate" = none) (ha : PA X [e] ta) (hs : starEach [e] X.env = [(false, eval e X.env)] := by rfl) :
    PI X (.Tuple elts kk tpos) (.Call (.Name "enumerate" p) [e] [] pos) (iEnumV X.K 0 ta) := by
  refine ⟨fun pins s σ H R I h => PyProof.Rows.Call_ (ld_blt I hg hm PyProof.Rows.boot_enumerate (PyProof.Rows.callWith_type1 (thn (ha.run pos pins s σ H _ I h) fun us s1 ⟨vs, H1, I1, r1, l, xs, ex, hx, q⟩ => ?_) hs rfl))⟩
  subst ex
  obtain ⟨u, rfl, ru⟩ := Vals.one r1
  obtain ⟨o, H01, B1, b1, c1⟩ := Lf.begins I1 hx ru
  exact TLK.enumCall1 B1 b1 fun h' he ho hk => wpAny_pyIter_enum he (enum_pie I1 hx c1 he ho hk q)
def enumD (c : Int) : List D → List D
  | [] => []
  | x :: r => .tup [.int c, x] :: enumD (c + 1) r
theorem enumD_length : ∀ (xs : List D) (c : Int), (enumD c xs).length = xs.length
  | [], _ => rfl
  | _ :: r, c => by simp [enumD, enumD_length r]
theorem enumD_get : ∀ {xs : List D} {c : Int} {i : Nat} {d : D}, (enumD c xs)[i]? = some d → ∃ x, xs[i]? = some x ∧ d = .tup [.int (c + (i : Nat)), x]
  | [], c, i, d, h => by simp [enumD] at h
  | x :: r, c, 0, d, h => by
    simp [enumD] at h
    exact ⟨x, rfl, by rw [← h]; simp⟩
  | x :: r, c, i + 1, d, h => by
    have h' : (enumD (c + 1) r)[i]? = some d := by simpa [enumD] using h
    obtain ⟨y, h1, h2⟩ := enumD_get h'
    refine ⟨y, by simpa using h1, ?_⟩
    rw [h2]
    congr 3
    push_cast
    omega
theorem itOk_enum {B : Bd} {d : D} {v : V} {xs : List D} {c : Int} : ItOk B (JeL B.K c (lfOf d v)) [d] [v] (enumD c xs) (fun G => vIt G d = some xs) [] where
  go F G H i ry w g _ hi := by
    obtain ⟨_, e, r⟩ := ry.inv1
    cases e
    obtain ⟨_, vs, h, q⟩ := vIt_ok w r g
    rw [enumD_length, ← q.length] at hi
    exact ⟨vs, _, h, List.getElem?_eq_getElem hi⟩
  yld F G H i z z' H' ry w g _ ex hy := by
    obtain ⟨_, e, r⟩ := ry.inv1
    cases e
    obtain ⟨_, vs, h, q⟩ := vIt_ok w r g
    obtain ⟨T, a, rfl, hT, rfl, k⟩ := hy
    obtain ⟨x, f, rfl⟩ := enumD_get ex
    obtain ⟨u, e1, r1⟩ := q.get f
    have e2 := k vs h
    rw [e1] at e2; cases e2
    exact ⟨rp_pair w hT rp_int r1, w.fresh hT, Stp.fresh hT⟩
  stop F G H ry w g _ := by
    obtain ⟨_, e, r⟩ := ry.inv1
    cases e
    obtain ⟨_, vs, h, q⟩ := vIt_ok w r g
    exact ⟨vs, h, by rw [enumD_length, q.length]⟩
def iEnum' (c : Int) (ta : A1) : I1 := fun τ G Q E => ta τ G (fun ds G1 => match ds with
  | [x] => (match vIt G1 x with
    | some xs => Q (enumD c xs) (fun G2 => vIt G2 x = some xs) G1
    | none => False)
  | _ => False) E
theorem le_enum {B : Bd} {c : Int} {ta : A1} {σ : L2.St} {H : Hp} {R : It → Hp → Prop} (h : LI B W (iEnum' c ta) σ H R) : iEnumV B.K c (LA B W ta) σ H R := by
  obtain ⟨F, τ, G, QT', ET, P, q⟩ := h
  refine LA.toI P (k := fun ds G1 Q E => match ds with
    | [x] => (match vIt G1 x with
      | some xs => Q (enumD c xs) (fun G2 => vIt G2 x = some xs) G1
      | none => False)
    | _ => False) q fun vs ds G1 H1 r w s q => ?_
  split at q
  · rename_i x
    split at q
    · rename_i xs e1
      obtain ⟨v, rfl, r1⟩ := r.inv1
      obtain ⟨ev, vs, h1, q1⟩ := vIt_ok w r1 e1
      exact ⟨lfOf x v, vs, by rw [← ev], h1, P.ok _ [x] [v] _ _ [] G1 H1 (itOk_enum (B := B.hide F)) (RpL.one r1) e1 Fz.nil w s q⟩
    · exact q.elim
  · exact q.elim
theorem qi_enum {ta : A1} (hg : Gl X "enumerate") (hm : X.mg "enumerate" = none) (ha : QA X W [e] ta) (hs : starEach [e] X.env = [(false, eval e X.env)] := by rfl) : QI X W (.Tuple elts kk tpos) (.Call (.Name "enumerate" p) [e] [] pos) (iEnum' 0 ta) :=
  PI.imp (pi_enumV hg hm ha hs) fun σ H R h => le_enum h
end
end TL
end
section
/-! TL13: (a, *b, ..) = xs; dict of pairs; enumerate(xs, start=k); (a, b, c) = x, y, z. -/
namespace TLK
open PySem PySem.Spec PySem.W Builtin
/-- a list taken apart, the middle in a new list -/
theorem starItems {prog : Program} {w : World} {A : Around} {E : Value → Shared → Prop} {s : Shared} {l : Addr} {its : Array Value} {n i : Nat} {Q : List Value → Shared → Prop} (hl : s.heap.IsList l its) (hh : A.handled = none) (hi : i < n) (hn : n ≤ its.size + 1) (hz : its.size ≤ 16384)
    (hQ : ∀ (h' : Heap) (tk : Tok), (∀ b o, s.heap.get? b = some o → h'.get? b = some o) →
      Q (its.toList.take i ++ [.ref h'.objs.size] ++ (its.toList.drop i).drop (its.size + 1 - n)) { s with heap := h'.push { cls := .type "list", data := .seq ((its.toList.drop i).take (its.size + 1 - n)).toArray }, toks := tk }) :
    wpAny (model prog w) A (unpackItems (.ref l) n (some i)) Q E s := by
  have lt : l < s.heap.objs.size := by obtain ⟨o, ho, _⟩ := hl; exact Heap.lt_size ho
  have ne : l ≠ s.heap.objs.size := Nat.ne_of_lt lt
  have len1 : (its.toList.take i).length = i := by rw [List.length_take, Array.length_toList]; omega
  have len2 : (its.toList.drop i).length = its.size - i := by rw [List.length_drop, Array.length_toList]
  unfold unpackItems notIterableAtAll
  refine wpAny_bind (wpAny_bind (wpAny_specialOf hl.typeIs slot_list_iter.lookup (wpAny_pure ?_)))
  simp only [Bool.false_eq_true, if_false]
  refine wpAny_bind (wpAny_holding (wpAny_pyIter_list hl (wpAny_bind (wpAny_holding (kun_draw ne i 0 _ _ ⟨_, Heap.get?_push_size _ rfl, rfl, rfl⟩ (hl.push _) (by omega) fun h1 it1 sb1 => ?_)))))
  have l1 : h1.IsList l its := (hl.push _).extBut sb1.extBut ne
  rw [Nat.zero_add] at it1
  rw [List.drop_zero, if_neg (show ¬ ((its.toList.take i).length < i) by omega)]
  obtain ⟨oi, ho1, _⟩ := id it1
  obtain ⟨ol, ho2, _⟩ := id l1
  refine wpAny_bind (wpAny_holding (kun_collect (s := { s with heap := h1 }) (T := "list_iterator") (.inr (.inr (.inl rfl))) (Walks.list (A := A.in1) hh s.heap.objs.size l ne its) (fun j u st => st.1.typeIs) (k := i) (by omega) ⟨it1, l1⟩ (Heap.lt_size ho1) (Heap.lt_size ho2) (fun h2 tk hk => ?_) (by rw [sizeLine_eq]; omega)))
  have mid : (its.toList.drop i).length - (n - 1 - i) = its.size + 1 - n := by rw [len2]; omega
  show wpAny _ _ (if (its.toList.drop i).length < n - 1 - i then _ else _) _ _ _
  rw [if_neg (by rw [len2]; omega)]
  show wpAny _ _ (newList ((its.toList.drop i).take ((its.toList.drop i).length - (n - 1 - i))) >>= fun d => pure (its.toList.take i ++ [d] ++ (its.toList.drop i).drop ((its.toList.drop i).length - (n - 1 - i)))) _ _ _
  rw [mid]
  have old : ∀ b o, s.heap.get? b = some o → h2.get? b = some o := fun b o e =>
    hk b o (Nat.ne_of_lt (Heap.lt_size e)) (sb1.extBut b o (Nat.ne_of_lt (Heap.lt_size e)) (Heap.get?_push_of_some _ e))
  exact wpAny_bind (wpAny_newList (s := { s with heap := h2, toks := tk }) (wpAny_pure (hQ h2 tk old)))
end TLK
namespace TL
open PySem PySem.Spec L2
def gStar (K : PySem.W.Frag) (l : TgL) (i : Nat) : TG := fun v σ H R => ∃ a xs, v = .ref a ∧ SqL K H a xs ∧ i < l.len ∧ l.len ≤ xs.length + 1 ∧ xs.length ≤ 16384 ∧
  ∀ D, H D = none → gsV K l (xs.take i ++ [.ref D] ++ (xs.drop i).drop (xs.length + 1 - l.len)) σ (upd H D (.lst ((xs.drop i).take (xs.length + 1 - l.len)))) R
section
variable {X : Cx} {W : WX} {pos : Pos}
theorem Vals.drop' {xs : List V} {us : List Value} (n : Nat) (h : Vals xs us) : Vals (xs.drop n) (us.drop n) := by
  induction n generalizing xs us with
  | zero => exact h
  | succ n ih =>
    cases h with
    | nil => exact .nil
    | cons r t => exact ih t
theorem Vals.take' {xs : List V} {us : List Value} (n : Nat) (h : Vals xs us) : Vals (xs.take n) (us.take n) := by
  induction n generalizing xs us with
  | zero => exact .nil
  | succ n ih =>
    cases h with
    | nil => exact .nil
    | cons r t => exact .cons r (ih t)
theorem pg_star {es : List Expr} {k : Nat} {l : TgL} {i : Nat} (hc : X.calm = true) (h : PGs X es (gsV X.K l)) (hn : (assignEach es X.env).length = l.len := by rfl) (hst : (assignEach es X.env).findIdx? (·.1) = some i := by rfl) : PG X (.Tuple es k pos) (gStar X.K l i) := by
  refine ⟨fun pins s σ H v u Q I r ⟨a, xs, e1, hq, hi, hl, hz, hw⟩ => ?_⟩
  subst e1
  cases r
  obtain ⟨its, rv, pl, _⟩ := I.list hq
  have len := rv.length
  rw [PyProof.Rows.assign_Tuple]
  refine wpAny_bind (wpAny_standAt ?_)
  unfold unpack
  rw [hn, hst]
  refine wpAny_bind (wpAny_holding (TLK.starItems pl.isList (I.ok.hd hc) hi (by rw [List.size_toArray]; omega) (by rw [List.size_toArray]; omega) fun h' tk old => ?_))
  have es : its.toArray.size = xs.length := by rw [List.size_toArray, len]
  rw [es]
  have I1 : Inv X pins σ H { s with heap := h', toks := tk } := I.kept old
  have sz : ((xs.drop i).take (xs.length + 1 - l.len)).length ≤ sizeLine := by rw [List.length_take, List.length_drop, sizeLine_eq]; omega
  have I2 := I1.lnew (t' := tk) (Vals.take' (xs.length + 1 - l.len) (Vals.drop' i rv)) sz
  exact h.run pins _ σ _ _ _ Q I2 ((((Vals.take' i rv).append (.cons (show RelV (V.ref h'.objs.size) (Value.ref h'.objs.size) from rfl) .nil))).append (Vals.drop' _ (Vals.drop' i rv))) (hw _ (I1.hok.fresh (Nat.le_refl _)))
theorem qgs_star {e : Expr} {es : List Expr} {t : TgN} {r : TgL} {sp : Pos} (h1 : PG X e (gV X.K t)) (h2 : PGs X es (gsV X.K r))
    (hs : (assignEach (.Starred e sp :: es) X.env).map (·.2) = assign e X.env :: (assignEach es X.env).map (·.2) := by rfl) : PGs X (.Starred e sp :: es) (gsV X.K (.cons t r)) := by
  refine ⟨fun pins s σ H vs us Q I rv h => ?_⟩
  obtain ⟨v, vr, e1, h⟩ := h
  subst e1
  cases rv with
  | cons r rr =>
    rw [hs]
    exact PyProof.Rows.assignInOrder_cons (thn (h1.run pins s σ H _ _ _ I r h) fun _ s1 ⟨σ1, H1, I1, q1⟩ => h2.run pins s1 σ1 H1 _ _ Q I1 rr q1)
/-- a, *b, .. = e, a list -/
def sStar (te : E1) (l : TgL) (i : Nat) : S1 := fun DT E τ G => te τ G (fun d G1 => match d with
  | .tup _ | .kt _ => False
  | d => match vQ G1 d with
    | some xs => i < l.len ∧ l.len ≤ xs.length + 1 ∧ xs.length ≤ 16384 ∧ (match gsT l (xs.take i ++ [.lst ((xs.drop i).take (xs.length + 1 - l.len))] ++ (xs.drop i).drop (xs.length + 1 - l.len)) τ G1 with
      | some τ1 => DT.nx τ1 G1
      | none => False)
    | none => False) (fun c f g => E c f τ g)
theorem qs_star {tg e : Expr} {te : E1} {l : TgL} {i : Nat} (he : QE X W e te) (hg : PG X tg (gStar X.K l i)) (hs : swapsWithSole [tg] e pos.line X.env = pure false := by rfl) (hw : swappedStores [tg] e X.env = pure none := by rfl)
    (h1 : (assignEach [tg] X.env).map (·.2) = [assign tg X.env] := by rfl) : QS X W (.Assign [tg] e pos) (sStar te l i) :=
  PS.imp (ps_asg he hg hs hw h1) fun D' σ H ⟨F, τ, G, DT, KT, P, q⟩ => by
    refine LE.inS P (k := fun d τ G1 => match d with
      | .tup _ | .kt _ => False
      | d => match vQ G1 d with
        | some xs => i < l.len ∧ l.len ≤ xs.length + 1 ∧ xs.length ≤ 16384 ∧ (match gsT l (xs.take i ++ [.lst ((xs.drop i).take (xs.length + 1 - l.len))] ++ (xs.drop i).drop (xs.length + 1 - l.len)) τ G1 with
          | some τ1 => DT.nx τ1 G1
          | none => False)
        | none => False) q fun v d G1 H1 p1 r1 s1 q1 => ?_
    split at q1
    · exact q1.elim
    · exact q1.elim
    · rename_i n1 n2
      split at q1
      · rename_i xs ex
        obtain ⟨hi, hl, hz, q2⟩ := q1
        split at q2
        · rename_i τ1 e1
          obtain ⟨a, vs, rfl, f, r⟩ := vQ_list p1.wd r1 ex n1 n2
          have len := r.length
          refine ⟨a, vs, rfl, f, hi, by rw [len]; exact hl, by rw [len]; exact hz, fun D hD => ?_⟩
          rw [len]
          have st : Stp G1 H1 G1 (upd H1 D (.lst ((vs.drop i).take (xs.length + 1 - l.len)))) := Stp.fresh hD
          have w2 := p1.wd.fresh (o := .lst ((vs.drop i).take (xs.length + 1 - l.len))) hD
          have rr : RpL ((bd X).hide F) G1 (upd H1 D (.lst ((vs.drop i).take (xs.length + 1 - l.len)))) (xs.take i ++ [.lst ((xs.drop i).take (xs.length + 1 - l.len))] ++ (xs.drop i).drop (xs.length + 1 - l.len)) (vs.take i ++ [.ref D] ++ (vs.drop i).drop (xs.length + 1 - l.len)) :=
            (((r.take i).step p1.wd st).append (RpL.one (rp_lstN p1.wd hD ((r.drop i).take _)))).append (((r.drop i).drop _).step p1.wd st)
          refine gsT_ok (B := (bd X).hide F) w2 e1 rr (p1.sl.step p1.wd st) (fun σ' s' _ => p1.nx σ' τ1 G1 _ s' w2 st q2) ?_
          simp only [List.length_append, List.length_take, List.length_drop, List.length_cons, List.length_nil]
          omega
        · exact q2.elim
      · exact q1.elim
/-- a, b, c = x, y, z (plain local names) -/
theorem qs_par3 {i j l : Nat} {x y z : Str} {a b c : Expr} {ta : A1} {px py pz pt : Pos} {kt k2 pt2} (hc : X.calm = true) (hN : X.N.Nodup) (hi : X.N[i]? = some x) (hj : X.N[j]? = some y) (hl : X.N[l]? = some z) (hij : i ≠ j) (hil : i ≠ l) (hjl : j ≠ l)
    (hx : X.env.scope.names.lookup x = some .local) (hy : X.env.scope.names.lookup y = some .local) (hz : X.env.scope.names.lookup z = some .local) (ha : QA X W [a, b, c] ta)
    (hw : swappedStores [.Tuple [.Name x px, .Name y py, .Name z pz] kt pt] (.Tuple [a, b, c] k2 pt2) X.env = pure (some [x, y, z]))
    (hs : swapsWithSole [.Tuple [.Name x px, .Name y py, .Name z pz] kt pt] (.Tuple [a, b, c] k2 pt2) pos.line X.env = pure false := by rfl) : QS X W (.Assign [.Tuple [.Name x px, .Name y py, .Name z pz] kt pt] (.Tuple [a, b, c] k2 pt2) pos) (sPar3 i j l ta) :=
  PS.imp (ps_par3 hc hN hi hj hl hij hil hjl hx hy hz ha hw hs) fun D' σ H ⟨F, τ, G, DT, KT, P, q⟩ =>
    LA.inS P (k := fun ds τ G1 => match ds with
      | [x, y, z] => DT.nx (((τ.set i (some x)).set j (some y)).set l (some z)) G1
      | _ => False) q fun vs ds G1 H1 p1 r s1 q1 => by
      split at q1
      · obtain ⟨v, u, w, rfl, r1, r2, r3⟩ := r.inv3
        exact ⟨v, u, w, rfl, p1.nx _ _ G1 H1 (((p1.sl.set r1).set r2).set r3) p1.wd Stp.refl q1⟩
      · exact q1.elim
end

/-! ### dict of a list of pairs -/
/-- the pairs -/
def prsD : List D → Option (List (Key × D))
  | [] => some []
  | .tup [a, b] :: r => (match keyD a, prsD r with
    | some k, some ps => some ((k, b) :: ps)
    | _, _ => none)
  | _ => none
def mergeD (kvs more : List (Key × D)) : List (Key × D) := more.foldl (fun acc kv => putD acc kv.1 kv.2) kvs
theorem RpG.merge {B : Bd} {G : GH} {H : Hp} : ∀ {more : List (Key × D)} {mv : List (Key × V)} {kvs : List (Key × D)} {vs : List (Key × V)}, RpG B G H more mv → RpG B G H kvs vs → RpG B G H (mergeD kvs more) (mergeK vs mv) := by
  intro more mv kvs vs h
  unfold RpG at h
  induction h generalizing kvs vs with
  | nil => exact fun q => q
  | @cons p q ps qs h t ih =>
    intro g
    obtain ⟨k, x⟩ := p
    obtain ⟨k', y⟩ := q
    obtain ⟨e, h⟩ := h
    dsimp only at e h
    subst e
    exact ih (g.put k h)
theorem prsD_ok {B : Bd} {G : GH} {H : Hp} : ∀ {xs : List D} {vs : List V} {ps : List (Key × D)}, RpL B G H xs vs → prsD xs = some ps → ∃ (as : List Addr) (kvs : List (Key × V)), vs = as.map V.ref ∧ Paired (fun p kv => SqT B.K H p [kV kv.1, kv.2]) as kvs ∧ RpG B G H ps kvs
  | [], vs, ps, r, e => by
    cases e
    exact ⟨[], [], r.nil_inv, .nil, (show Paired _ _ _ from .nil)⟩
  | d :: ds, vs, ps, r, e => by
    obtain ⟨v, q, rfl, h, t⟩ := r.uncons
    unfold prsD at e
    split at e
    · cases ‹_ :: _ = []›
    · rename_i a b r' heq
      cases heq
      split at e
      · rename_i k ps' ek ep
        cases e
        obtain ⟨p, us, rfl, f, q2⟩ := h.tup_inv
        obtain ⟨ua, ub, rfl, ra, rb⟩ := q2.inv2
        obtain ⟨as, kvs, rfl, h1, h2⟩ := prsD_ok t ep
        rw [keyD_ok ra ek] at f
        exact ⟨p :: as, (k, ub) :: kvs, rfl, .cons (SqT.of f) h1, (show Paired _ _ _ from .cons ⟨rfl, rb⟩ h2)⟩
      · cases e
    · cases e
/-- dict(xs), a cell -/
def rDctC : RC := fun ds G Q => match ds with
  | [d] => (match vL G d with
    | some xs => (match prsD xs with
      | some ps => ∀ p, G p = none → Q (.ref p) (gup G p (.dK (mergeD [] ps)))
      | none => False)
    | none => False)
  | _ => False
theorem Pt.dctC {B : Bd} {W : WX} {σ : L2.St} {H : Hp} {Q : VK} {τ : Sl} {G : GH} {QT' : KD} {ET : KX} {p : Addr} {xs : List (Key × D)} {vs : List (Key × V)} (P : Pt B W σ H Q τ G QT' ET) (hp : H p = none) (r : RpG B G H xs vs) (q : ∀ p, G p = none → QT' (.ref p) (gup G p (.dK xs))) : Q (.ref p) (upd H p (.dK vs)) :=
  P.ok _ _ (gup G p (.dK xs)) _ rp_ref (P.wd.cell hp ⟨vs, upd_same, RpG.k.mpr (r.mono P.wd (Stp.cell hp))⟩) (Stp.cell hp) (q p (P.wd.none_of hp))
theorem sim_dctC {B : Bd} : SimC B rDctC (fun xs H Q => ∃ (a : Addr) (ps : List Addr) (kvs : List (Key × V)), xs = [.ref a] ∧ SqL B.K H a (ps.map V.ref) ∧ Paired (fun p kv => SqT B.K H p [kV kv.1, kv.2]) ps kvs ∧ ∀ p, H p = none → Q (.ref p) (upd H p (.dK (mergeK [] kvs)))) := by
  intro F W σ H Q τ G QT' ET ds vs p r h
  unfold rDctC at h
  split at h
  · obtain ⟨v, rfl, r1⟩ := r.inv1
    split at h
    · rename_i xs ex
      obtain ⟨a, us, rfl, f, ra⟩ := vL_sq p.wd r1 ex
      split at h
      · rename_i ps ep
        obtain ⟨as, kvs, rfl, h1, h2⟩ := prsD_ok ra ep
        exact ⟨a, as, kvs, rfl, f, h1, fun q hq => p.dctC hq (h2.merge (show Paired _ _ _ from .nil)) h⟩
      · exact h.elim
    · exact h.elim
  · exact h.elim
/-! ### list of a text -/
def rLstStr : RC := fun ds G Q => match ds with
  | [.str x] => x.length ≤ sizeLine ∧ Q (.lst (signsD x)) G
  | _ => False
abbrev rLstStrV : List V → Hp → VK → Prop := fun vs H Q => ∃ x : Str, vs = [V.str x] ∧ x.length ≤ sizeLine ∧ ∀ p, H p = none → Q (.ref p) (upd H p (.lst (signs x)))
theorem vals_at : ∀ {xs : List V} {us : List Value}, xs.length = us.length → (∀ (j : Nat) (x : V) (u : Value), xs[j]? = some x → us[j]? = some u → RelV x u) → Vals xs us
  | [], [], _, _ => .nil
  | [], _ :: _, h, _ => by cases h
  | _ :: _, [], h, _ => by cases h
  | x :: xs, u :: us, h, k => .cons (k 0 x u rfl rfl) (vals_at (by simpa using h) fun j y v e1 e2 => k (j + 1) y v (by simpa using e1) (by simpa using e2))
theorem cr_lstStr {X : Cx} (hc : X.calm = true) : CallR X (.type "list") rLstStrV := by
  intro pins s σ H xs us Q I r ⟨x, ex, hz, q⟩
  subst ex
  obtain ⟨u, rfl, t, rfl⟩ := vals1 r
  refine call_list_str (I.ok.hd hc) x t (hn := hz) fun h' tk acc c hk hS hacc => ?_
  have hn : H s.heap.objs.size = none := I.fresh
  refine ⟨.ref s.heap.objs.size, _, I.laid (t' := tk) (o := .lst (signs x)) hk (Nat.le_refl _) ?_, rfl, q _ hn⟩
  have len : (signs x).length = x.length := by simp [signs]; rfl
  refine ⟨by rw [len]; exact hz, acc.toList, c, vals_at ?_ fun j a b e1 e2 => ?_, by simpa using hS⟩
  · rw [len, Array.length_toList, hacc.1]; rfl
  · obtain ⟨cp, tk', h1, rfl⟩ := hacc.2 j b (by simpa using e2)
    unfold signs at e1
    rw [List.getElem?_map, Array.getElem?_toList, h1] at e1
    cases e1
    exact ⟨tk', rfl⟩
theorem sim_lstStr {B : Bd} : SimC B rLstStr rLstStrV := by
  intro F W σ H Q τ G QT' ET ds vs p r h
  unfold rLstStr at h
  split at h
  · obtain ⟨v, rfl, r1⟩ := r.inv1
    rw [r1.str_inv]
    exact ⟨_, rfl, h.1, fun q hq => p.lstN hq (rpL_signs _) h.2⟩
  · exact h.elim
section
variable {X : Cx} {W : WX} {p pos : Pos} {e : Expr} {es : List Expr} {ta : A1}
def eDctC (ta : A1) : E1 := eB rDctC ta
def eLstStr (ta : A1) : E1 := eB rLstStr ta
theorem qe_lstStr (hc : X.calm = true) (ha : QA X W (e :: es) ta) (he : starEach (e :: es) X.env = (false, eval e X.env) :: starEach es X.env) (hpl : (backTo pos (starEach es X.env)).any (·.1) = false) (hg : Gl X "list") (hm : X.mg "list" = none) :
    QE X W (.Call (.Name "list" p) (e :: es) [] pos) (eLstStr ta) := qe_bt sim_lstStr (cr_lstStr hc) hg hm (by rfl) ha (he := he) (hpl := hpl)
theorem qe_dctC (hc : X.calm = true) (ha : QA X W (e :: es) ta) (he : starEach (e :: es) X.env = (false, eval e X.env) :: starEach es X.env) (hpl : (backTo pos (starEach es X.env)).any (·.1) = false) (hg : Gl X "dict") (hm : X.mg "dict" = none) :
    QE X W (.Call (.Name "dict" p) (e :: es) [] pos) (eDctC ta) := qe_bt sim_dctC (call_dictP hc) hg hm (by rfl) ha (he := he) (hpl := hpl)
end
end TL
end
section
/-! TL14: enumerate with start, and bundles of what is known: keyword calls, own ==, own repr and len. -/
namespace TL
open PySem PySem.Spec L2
section
variable {M : Model} {A : Around} {E : Value → Shared → Prop} {s : Shared} {env : Env}
theorem callWith_typeK {pos : Pos} {T : String} {e : Expr} {es : List Expr} {kws : List Keyword} {Q : Value → Shared → Prop}
    (h : wpAny M A (spliced (backTo pos (starEach (e :: es) env))) (fun vs s₁ => wpAny M A (evalAll ((backToKw pos (keywordEach kws env)).map (·.2)))
      (fun kvs s₂ => wpAny M A (call (.type T) vs (((backToKw pos (keywordEach kws env)).filterMap (·.1)).zip kvs)) Q E s₂) E s₁) E s)
    (he : backTo pos (starEach (e :: es) env) = (false, eval e env) :: backTo pos (starEach es env) := by rfl)
    (hp : (backTo pos (starEach (e :: es) env)).any (·.1) = false := by rfl)
    (hall : (backToKw pos (keywordEach kws env)).all (·.1.isSome) = true := by rfl)
    (hk : (backToKw pos (keywordEach kws env)).any (·.1.isNone) = false := by rfl) :
    wpAny M A (callWith pos (.type T) [] (backTo pos (starEach (e :: es) env)) (backToKw pos (keywordEach kws env))) Q E s := by
  unfold callWith
  have h2 : wpAny M A (evalArgs (.type T) true (backTo pos (starEach (e :: es) env)) (backToKw pos (keywordEach kws env))) (fun a s₁ => wpAny M A (call (.type T) a.pos a.kw) Q E s₁) E s := by
    rw [he] at h ⊢
    exact PyProof.Rows.evalArgs_kwB hall h
  refine wpAny_bind (wpAny_holding (wpAny_mono h2 (fun a s₁ h₁ => wpAny_bind (wpAny_standAt ?_)) fun _ _ x => x))
  simp only [hp, hk, Bool.or_false]
  refine wpAny_bind (wpAny_pure ?_)
  exact wpAny_bind (wpAny_mono h₁ (fun r s₂ hr => wpAny_bind (wpAny_holding (wpAny_point (wpAny_pure hr)))) fun _ _ x => x)
end
section
variable {X : Cx} {W : WX} {e e2 : Expr} {p pos tpos kpos : Pos} {elts : List Expr} {kk : Nat}
def iEnumKV (K : PySem.W.Frag) (ta tk : TA) : TI := fun σ H R => ta σ H fun vs H1 => tk σ H1 fun zs H2 => ∃ l xs c, vs = [Lf.v l] ∧ zs = [V.int c] ∧ -(2 ^ 63) ≤ c ∧ c < 2 ^ 63 ∧ Lf.has K H2 l xs ∧ R (JeL K c l) H2
theorem pi_enumKV {ta tk : TA} (hg : Gl X "enumerate") (hm : X.mg "enumerate" = none) (ha : PA X [e] ta) (hkw : PK X [⟨some "start", e2, kpos⟩] tk) (hs : starEach [e] X.env = [(false, eval e X.env)] := by rfl) :
    PI X (.Tuple elts kk tpos) (.Call (.Name "enumerate" p) [e] [⟨some "start", e2, kpos⟩] pos) (iEnumKV X.K ta tk) := by
  refine ⟨fun pins s σ H R I h => wpAny_Call_Name_kw (ld_blt I hg hm PyProof.Rows.boot_enumerate (callWith_typeK (thn (ha.run pos pins s σ H _ I h) fun us s1 ⟨vs, H1, I1, r1, q1⟩ => ?_) (by rw [hs]; rfl) (by rw [hs]; rfl)))⟩
  refine thn (hkw.run pos pins s1 σ H1 _ I1 q1) fun ws s2 ⟨zs, H2, I2, r2, l, xs, c, e1, e3, b1, b2, hx, q⟩ => ?_
  subst e1 e3
  obtain ⟨u, rfl, ru⟩ := Vals.one r1
  obtain ⟨z, rfl, t, rfl⟩ := vals1 r2
  obtain ⟨o, H01, B1, g1, c1⟩ := Lf.begins I2 hx ru
  exact enum_begins_start B1 g1 b1 b2 fun h' he ho _ hk => wpAny_pyIter_enum he (enum_pie I2 hx c1 he ho hk q)
def iEnumK (ta tk : A1) : I1 := fun τ G Q E => ta τ G (fun ds G1 => tk τ G1 (fun es G2 => match ds, es with
  | [x], [.int c] => (match vIt G2 x with
    | some xs => -(2 ^ 63) ≤ c ∧ c < 2 ^ 63 ∧ Q (enumD c xs) (fun G3 => vIt G3 x = some xs) G2
    | none => False)
  | _, _ => False) E) E
theorem le_enumK {B : Bd} {ta tk : A1} {σ : L2.St} {H : Hp} {R : It → Hp → Prop} (h : LI B W (iEnumK ta tk) σ H R) : iEnumKV B.K (LA B W ta) (LA B W tk) σ H R := by
  obtain ⟨F, τ, G, QT', ET, P, q⟩ := h
  refine LA.toI P (k := fun ds G1 Q E => tk τ G1 (fun es G2 => match ds, es with
    | [x], [.int c] => (match vIt G2 x with
      | some xs => -(2 ^ 63) ≤ c ∧ c < 2 ^ 63 ∧ Q (enumD c xs) (fun G3 => vIt G3 x = some xs) G2
      | none => False)
    | _, _ => False) E) q fun vs ds G1 H1 r w s q1 => ?_
  refine ⟨F, τ, G1, _, ET, ⟨P.sl.step P.wd s, w, fun zs es G2 H2 r2 w2 s2 q2 => ?_, fun c d fs G2 H2 r2 w2 s2 q2 => P.ex c d fs G2 H2 r2 w2 (s.trans s2) q2⟩, q1⟩
  have r' := r.step w s2
  split at q2
  · rename_i x c
    split at q2
    · rename_i xs e1
      obtain ⟨v, rfl, r1⟩ := r'.inv1
      obtain ⟨u, rfl, ru⟩ := r2.inv1
      rw [ru.int_inv]
      obtain ⟨ev, vs, h1, q4⟩ := vIt_ok w2 r1 e1
      exact ⟨lfOf x v, vs, c, by rw [← ev], rfl, q2.1, q2.2.1, h1, P.ok _ [x] [v] _ _ [] G2 H2 (itOk_enum (B := B.hide F)) (RpL.one r1) e1 Fz.nil w2 (s.trans s2) q2.2.2⟩
    · exact q2.elim
  · exact q2.elim
theorem qi_enumK {ta tk : A1} (hg : Gl X "enumerate") (hm : X.mg "enumerate" = none) (ha : QA X W [e] ta) (hkw : QK X W [⟨some "start", e2, kpos⟩] tk) (hs : starEach [e] X.env = [(false, eval e X.env)] := by rfl) :
    QI X W (.Tuple elts kk tpos) (.Call (.Name "enumerate" p) [e] [⟨some "start", e2, kpos⟩] pos) (iEnumK ta tk) :=
  PI.imp (pi_enumKV hg hm ha hkw hs) fun σ H R h => le_enumK h
end
section
variable {P : Program} {w : World} {K : PySem.W.Frag} {mg : Str → Option Value} {base : Heap}
/-- x(.., k = v): n positional values and the keywords ks -/
def CalK (P : Program) (w : World) (K : PySem.W.Frag) (mg : Str → Option Value) (base : Heap) (x : Str) (k : Nat) (ps : List Str) (n : Nat) (ks : List Str) (sp : SpT) : Prop :=
  ∃ f fd, mg x = some (.ref f) ∧ PySem.W.keepIn K (.ref f) = true ∧ KBn K fd ps n ks (· ++ ·) (· ++ ·) ∧ FnG P w K mg base k f fd ps sp
theorem CalK.imp {x : Str} {k n : Nat} {ps ks : List Str} {sp sp' : SpT} (c : CalK P w K mg base x k ps n ks sp) (h : ∀ ds G Q E, sp' ds G Q E → sp ds G Q E) : CalK P w K mg base x k ps n ks sp' := by
  obtain ⟨f, fd, h1, h2, h3, h4⟩ := c
  exact ⟨f, fd, h1, h2, h3, h4.imp h⟩
/-- keywords in the parameters' order, nothing left to a default -/
theorem kbn_tail {x qual : Str} {params : Arguments} {body : List Stmt} {scope : Scope} {kws : List (Str × V)} {f : Addr} {fd : FuncData} {ps : List Str} (F : FunD K x qual params body scope [] kws f fd) (n : Nat) (ks : List Str)
    (h : ∀ (kV doc pm : Value) (an : Option Addr) (cdv ct : Value) (us ws : List Value), us.length = n → ws.length = ks.length → bindArgs (PySem.W.fnOf x qual params body scope .none kV doc pm an cdv ct) ⟨us, ks.zip ws⟩ = pure (ps.zip (us ++ ws))) : KBn K fd ps n ks (· ++ ·) (· ++ ·) := by
  obtain ⟨oc, od, dV, kV, doc, pm, an, cdv, ct, osl, rfl, lk, hcd, hD, hK⟩ := F.ex
  rcases hD with ⟨_, rfl⟩ | ⟨e, _⟩
  · exact ⟨fun s us ws _ l1 l2 => .of_eq (h kV doc pm an cdv ct us ws l1 l2), fun r1 r2 => r1.append r2⟩
  · exact absurd rfl e
theorem RpL.app {B : Bd} {G : GH} {H : Hp} : ∀ {ds es : List D} {vs zs : List V}, RpL B G H ds vs → RpL B G H es zs → RpL B G H (ds ++ es) (vs ++ zs)
  | [], _, vs, _, h1, h2 => by rw [h1.nil_inv]; exact h2
  | d :: ds, _, vs, _, h1, h2 => by
    obtain ⟨v, r, rfl, a, q⟩ := h1.uncons
    exact RpL.cons a (RpL.app q h2)
/-- C has its own ==, that keeps sp -/
def CalO (P : Program) (w : World) (K : PySem.W.Frag) (mg : Str → Option Value) (base : Heap) (C : Addr) (k : Nat) (ps : List Str) (sp : SpT) : Prop :=
  ∃ f fd, OwnEq K C f ∧ Binds K fd ps [] ∧ FnG P w K mg base k f fd ps sp
theorem CalO.imp {C : Addr} {k : Nat} {ps : List Str} {sp sp' : SpT} (c : CalO P w K mg base C k ps sp) (h : ∀ ds G Q E, sp' ds G Q E → sp ds G Q E) : CalO P w K mg base C k ps sp' := by
  obtain ⟨f, fd, h1, h2, h4⟩ := c
  exact ⟨f, fd, h1, h2, h4.imp h⟩
/-- C has its own __repr__ (__len__), that keeps sp -/
def CalS (P : Program) (w : World) (K : PySem.W.Frag) (mg : Str → Option Value) (base : Heap) (C : Addr) (m : Str) (k : Nat) (ps : List Str) (sp : SpT) : Prop :=
  ∃ f fd, PySem.W.findIn K (.ref C) m = some (some (.ref f)) ∧ PySem.W.isFn K (.ref f) = true ∧ Binds K fd ps [] ∧ FnG P w K mg base k f fd ps sp
theorem CalS.imp {C : Addr} {m : Str} {k : Nat} {ps : List Str} {sp sp' : SpT} (c : CalS P w K mg base C m k ps sp) (h : ∀ ds G Q E, sp' ds G Q E → sp ds G Q E) : CalS P w K mg base C m k ps sp' := by
  obtain ⟨f, fd, h1, h2, h3, h4⟩ := c
  exact ⟨f, fd, h1, h2, h3, h4.imp h⟩
end
section
variable {X : Cx} {W : WX} {k n : Nat} {C : Addr} {ps ks : List Str} {sp : SpT} {x m : Str} {p pos : Pos} {a b e : Expr} {es : List Expr} {kws : List Keyword} {ta tb : E1} {t tk : A1} {Cs : List Addr}
theorem qc_callK (c : CalK X.prog X.w X.K X.mg X.base x k ps n ks sp) (cn : Cn X W) (hr : Room k X.A) (hg : Gl X x) (ha : QA X W (e :: es) t) (hkw : QK X W kws tk) (hall : (backToKw pos (keywordEach kws X.env)).all (·.1.isSome) = true := by rfl) (hks : (backToKw pos (keywordEach kws X.env)).filterMap (·.1) = ks := by rfl)
    (hdb : (x == ("__debug__" : Str)) = false := by decide) (he : starEach (e :: es) X.env = (false, eval e X.env) :: starEach es X.env := by rfl)
    (hpl : ((backTo pos (starEach (e :: es) X.env)).any (·.1) || (backToKw pos (keywordEach kws X.env)).any (·.1.isNone)) = false := by rfl) : QE X W (.Call (.Name x p) (e :: es) kws pos) (eCallK n ks.length sp (· ++ ·) t tk) := by
  obtain ⟨f, fd, h1, h2, h3, h4⟩ := c
  exact qe_callK h4 cn hr hg h1 h2 (g := (· ++ ·)) (gV := (· ++ ·)) ⟨h3, fun r1 r2 => RpL.app r1 r2⟩ ha hkw hall hks hdb he hpl
theorem qc_callK0 (c : CalK X.prog X.w X.K X.mg X.base x k ps 0 ks sp) (cn : Cn X W) (hr : Room k X.A) (hg : Gl X x) (hkw : QK X W kws tk) (hall : (backToKw pos (keywordEach kws X.env)).all (·.1.isSome) = true := by rfl) (hks : (backToKw pos (keywordEach kws X.env)).filterMap (·.1) = ks := by rfl)
    (hdb : (x == ("__debug__" : Str)) = false := by decide) (hpl : ((backTo pos (starEach [] X.env)).any (·.1) || (backToKw pos (keywordEach kws X.env)).any (·.1.isNone)) = false := by rfl) : QE X W (.Call (.Name x p) [] kws pos) (eCallK 0 ks.length sp (· ++ ·) aNil tk) := by
  obtain ⟨f, fd, h1, h2, h3, h4⟩ := c
  exact qe_callK0 h4 cn hr hg h1 h2 (g := (· ++ ·)) (gV := (· ++ ·)) ⟨h3, fun r1 r2 => RpL.app r1 r2⟩ hkw hall hks hdb hpl
variable (hc : ∀ C ∈ Cs, ClsI X.K C) (o : CalO X.prog X.w X.K X.mg X.base C k ps sp) (cn : Cn X W) (hr : Room (k + 1) X.A) (h1 : QE X W a ta) (h2 : QE X W b tb)
include hc o cn hr h1 h2
theorem qco_oeq : QE X W (.Compare a [.Eq] [b] pos) (eOEq X.K C Cs sp false ta tb) := by
  obtain ⟨f, fd, O, hb, F⟩ := o
  exact qe_oeq hc F cn hr hb O h1 h2
theorem qco_one : QE X W (.Compare a [.NotEq] [b] pos) (eOEq X.K C Cs sp true ta tb) := by
  obtain ⟨f, fd, O, hb, F⟩ := o
  exact qe_one' hc F cn hr hb O h1 h2
theorem qto_oeq : QT X W (.Compare a [.Eq] [b] pos) (tBl (eOEq X.K C Cs sp false ta tb)) := by
  obtain ⟨f, fd, O, hb, F⟩ := o
  exact qt_oeq hc F cn hr hb O h1 h2
theorem qto_one : QT X W (.Compare a [.NotEq] [b] pos) (tBl (eOEq X.K C Cs sp true ta tb)) := by
  obtain ⟨f, fd, O, hb, F⟩ := o
  exact qt_one' hc F cn hr hb O h1 h2
end
section
variable {X : Cx} {W : WX} {k : Nat} {C : Addr} {ps : List Str} {sp : SpT} {p pos : Pos} {e : Expr} {es : List Expr} {t : A1}
theorem qcs_repr (c : CalS X.prog X.w X.K X.mg X.base C "__repr__" k ps sp) (cn : Cn X W) (hr : Room (k + 1) X.A)
    (ha : QA X W (e :: es) t) (he : starEach (e :: es) X.env = (false, eval e X.env) :: starEach es X.env) (hpl : (backTo pos (starEach es X.env)).any (·.1) = false) (hg : Gl X "repr") (hm : X.mg "repr" = none) : QE X W (.Call (.Name "repr" p) (e :: es) [] pos) (eReprO C sp t) := by
  obtain ⟨f, fd, h1, h2, h3, h4⟩ := c
  exact qe_reprO h4 cn hr h3 h1 h2 ha he hpl hg hm
theorem qcs_len (c : CalS X.prog X.w X.K X.mg X.base C "__len__" k ps sp) (cn : Cn X W) (hr : Room (k + 1) X.A)
    (ha : QA X W (e :: es) t) (he : starEach (e :: es) X.env = (false, eval e X.env) :: starEach es X.env) (hpl : (backTo pos (starEach es X.env)).any (·.1) = false) (hg : Gl X "len") (hm : X.mg "len" = none) : QE X W (.Call (.Name "len" p) (e :: es) [] pos) (eLenO C sp t) := by
  obtain ⟨f, fd, h1, h2, h3, h4⟩ := c
  exact qe_lenO h4 cn hr h3 h1 h2 ha he hpl hg hm
end
end TL
end
section
/-! TL15: dicts: displays, get, pop, del, walks, copies. -/
namespace TL
open PySem PySem.Spec L2
def kD : Key → D
  | .inl i => .int i
  | .inr s => .str s
section
variable {B : Bd} {G : GH} {H : Hp}
theorem rp_kD {k : Key} : Rp B G H (kD k) (kV k) := by
  cases k with
  | inl i => exact rp_int
  | inr s => exact rp_str
end
/-! ### {} -/
def eDNewC : E1 := fun _ G Q _ => ∀ p, G p = none → Q (.ref p) (gup G p (.dK []))
def eDNewT : E1 := fun _ G Q _ => ∀ p, G p = none → Q (.ref p) (gup G p (.dT []))
section
variable {X : Cx} {W : WX} {pos cpos apos mpos tpos p : Pos} {o e f i : Expr} {td ty tx : E1} {elts : List Expr} {kk : Nat} {tg : Expr}
theorem qe_dnewC : QE X W (.Dict [] [] pos) eDNewC := PE.imp pe_dnewK fun σ H Q ⟨F, τ, G, QT', ET, P, q⟩ p hp =>
  P.ok _ _ (gup G p (.dK [])) _ rp_ref (P.wd.cell hp ⟨[], upd_same, by unfold RpK; rfl⟩) (Stp.cell hp) (q p (P.wd.none_of hp))
theorem qe_dnewT : QE X W (.Dict [] [] pos) eDNewT := PE.imp pe_dnewT fun σ H Q ⟨F, τ, G, QT', ET, P, q⟩ p hp =>
  P.ok _ _ (gup G p (.dT [])) _ rp_ref (P.wd.cell hp ⟨[], upd_same, by unfold RpT; rfl⟩) (Stp.cell hp) (q p (P.wd.none_of hp))
/-! ### d.get(k), d.get(k, x) -/
/-- what stands at a key -/
def dLook (G : GH) (x y : D) : Option (Option D) := match vK G x with
  | some kvs => (match keyD y with
    | some k => some (getK kvs k)
    | none => none)
  | none => (match vT G x, keyT y with
    | some kvs, some k => some (getK kvs k)
    | _, _ => none)
def isDct (G : GH) (x : D) : Bool := (vK G x).isSome || (vT G x).isSome
def eGet1 (td ty : E1) : E1 := fun τ G Q E => td τ G (fun x G1 => isDct G1 x = true ∧ ty τ G1 (fun y G2 => match dLook G2 x y with
  | some r => Q (r.getD .non) G2
  | none => False) E) E
def eGet2 (td ty tx : E1) : E1 := fun τ G Q E => td τ G (fun x G1 => isDct G1 x = true ∧ ty τ G1 (fun y G2 => tx τ G2 (fun z G3 => match dLook G3 x y with
  | some r => Q (r.getD z) G3
  | none => False) E) E) E
theorem isDct_ok {B : Bd} {G : GH} {H : Hp} {x : D} {v : V} (w : Wd B G H) (r : Rp B G H x v) (h : isDct G x = true) : ∃ a, v = .ref a ∧ IsD H a := by
  unfold isDct at h
  cases e : vK G x with
  | some kvs =>
    obtain ⟨a, vs, rfl, h1, _⟩ := vK_ok w r e
    exact ⟨a, rfl, .inl ⟨vs, h1⟩⟩
  | none =>
    rw [e] at h
    cases e2 : vT G x with
    | some kvs =>
      obtain ⟨a, vs, rfl, h1, _⟩ := vT_ok w r e2
      exact ⟨a, rfl, .inr ⟨vs, h1⟩⟩
    | none => rw [e2] at h; cases h
def RpO (B : Bd) (G : GH) (H : Hp) : Option D → Option V → Prop
  | some d, some v => Rp B G H d v
  | none, none => True
  | _, _ => False
theorem dLook_ok {B : Bd} {G : GH} {H : Hp} {x y : D} {a : Addr} {u : V} {r : Option D} (w : Wd B G H) (rx : Rp B G H x (.ref a)) (ry : Rp B G H y u) (h : dLook G x y = some r) : ∃ ro, DGet H a u ro ∧ RpO B G H r ro := by
  unfold dLook at h
  split at h
  · rename_i kvs e
    split at h
    · rename_i k ek
      cases h
      obtain ⟨a', vs, ea, h1, h2⟩ := vK_ok w rx e
      cases ea
      refine ⟨valV vs k, .inl ⟨vs, k, h1, keyD_ok ry ek, rfl⟩, ?_⟩
      cases g : getK kvs k with
      | some d => obtain ⟨v, e1, e2⟩ := h2.some g; rw [e1]; exact e2
      | none => rw [h2.none g]; exact trivial
    · cases h
  · split at h
    · rename_i kvs k e ek
      cases h
      obtain ⟨a', vs, ea, h1, h2⟩ := vT_ok w rx e
      cases ea
      obtain ⟨b, eb, hb⟩ := keyT_ok ry ek
      refine ⟨valV vs k, .inr ⟨vs, k, b, h1, eb, hb, rfl⟩, ?_⟩
      cases g : getK kvs k with
      | some d => obtain ⟨v, e1, e2⟩ := h2.some g; rw [e1]; exact e2
      | none => rw [h2.none g]; exact trivial
    · cases h
theorem qe_get1 (hu : X.A.units + 66 < cLine) (ho : QE X W o td) (he : QE X W e ty) (m : M1 X o "get" apos e cpos) : QE X W (.Call (.Attribute o "get" apos) [e] [] cpos) (eGet1 td ty) := PE.imp (pe_dget1 (by omega) ho he m) fun σ H Q ⟨F, τ, G, QT', ET, P, q⟩ => by
  refine LE.bind (PT := P) (k := fun x τ G1 Q E => isDct G1 x = true ∧ ty τ G1 (fun y G2 => match dLook G2 x y with
    | some r => Q (r.getD .non) G2
    | none => False) E) q fun v x G1 H1 p1 r1 s1 q1 => ?_
  obtain ⟨a, rfl, isd⟩ := isDct_ok p1.wd r1 q1.1
  refine ⟨a, rfl, isd, LE.bind (PT := p1) (k := fun y τ G2 Q E => match dLook G2 x y with
    | some r => Q (r.getD .non) G2
    | none => False) q1.2 fun u y G2 H2 p2 r2 s2 q2 => ?_⟩
  split at q2
  · rename_i r e
    obtain ⟨ro, h1, h2⟩ := dLook_ok p2.wd (r1.step p1.wd s2) r2 e
    refine ⟨ro, h1, ?_⟩
    cases r <;> cases ro
    · exact p2.ok _ _ G2 H2 rp_non p2.wd Stp.refl q2
    · exact h2.elim
    · exact h2.elim
    · exact p2.ok _ _ G2 H2 h2 p2.wd Stp.refl q2
  · exact q2.elim
theorem qe_get2 (hu : X.A.units + 66 < cLine) (ho : QE X W o td) (he : QE X W e ty) (hf : QE X W f tx) (m : M2 X o "get" apos e f cpos) : QE X W (.Call (.Attribute o "get" apos) [e, f] [] cpos) (eGet2 td ty tx) := PE.imp (pe_dget2 (by omega) ho he hf m) fun σ H Q ⟨F, τ, G, QT', ET, P, q⟩ => by
  refine LE.bind (PT := P) (k := fun x τ G1 Q E => isDct G1 x = true ∧ ty τ G1 (fun y G2 => tx τ G2 (fun z G3 => match dLook G3 x y with
    | some r => Q (r.getD z) G3
    | none => False) E) E) q fun v x G1 H1 p1 r1 s1 q1 => ?_
  obtain ⟨a, rfl, isd⟩ := isDct_ok p1.wd r1 q1.1
  refine ⟨a, rfl, isd, LE.bind (PT := p1) (k := fun y τ G2 Q E => tx τ G2 (fun z G3 => match dLook G3 x y with
    | some r => Q (r.getD z) G3
    | none => False) E) q1.2 fun u y G2 H2 p2 r2 s2 q2 => ?_⟩
  refine LE.bind (PT := p2) (k := fun z τ G3 Q E => match dLook G3 x y with
    | some r => Q (r.getD z) G3
    | none => False) q2 fun t z G3 H3 p3 r3 s3 q3 => ?_
  split at q3
  · rename_i r e
    obtain ⟨ro, h1, h2⟩ := dLook_ok p3.wd ((r1.step p1.wd s2).step p2.wd s3) (r2.step p2.wd s3) e
    refine ⟨ro, h1, ?_⟩
    cases r <;> cases ro
    · exact p3.ok _ _ G3 H3 r3 p3.wd Stp.refl q3
    · exact h2.elim
    · exact h2.elim
    · exact p3.ok _ _ G3 H3 h2 p3.wd Stp.refl q3
  · exact q3.elim
/-! ### d.pop(k), del d[k] -/
/-- what d.pop(k) gives and leaves -/
def popC (G : GH) (x y : D) : Option (D × GH) := match x with
  | .ref p => (match G p, keyD y with
    | some (.dK kvs), some k => (match getK kvs k with
      | some d => some (d, gup G p (.dK (dropD kvs k)))
      | none => none)
    | _, _ => none)
  | _ => none
theorem popC_ok {G G' : GH} {x y d : D} (h : popC G x y = some (d, G')) : ∃ p kvs k, x = .ref p ∧ G p = some (.dK kvs) ∧ keyD y = some k ∧ getK kvs k = some d ∧ G' = gup G p (.dK (dropD kvs k)) := by
  unfold popC at h
  split at h
  · rename_i p
    split at h
    · rename_i kvs k e1 e2
      split at h
      · rename_i d' e3
        cases h
        exact ⟨p, kvs, k, rfl, e1, e2, e3, rfl⟩
      · cases h
    · cases h
  · cases h
def ePop1D (td ty : E1) : E1 := fun τ G Q E => td τ G (fun x G1 => isDct G1 x = true ∧ ty τ G1 (fun y G2 => match popC G2 x y with
  | some r => Q r.1 r.2
  | none => False) E) E
theorem dK_cell {B : Bd} {G : GH} {H : Hp} {p : Addr} {kvs : List (Key × D)} (w : Wd B G H) (g : G p = some (.dK kvs)) : ∃ vs, H p = some (.dK vs) ∧ RpG B G H kvs vs := by
  obtain ⟨vs, h, r⟩ := w.cl p _ g
  exact ⟨vs, h, RpG.k.mp r⟩
theorem dK_put {B : Bd} {G : GH} {H : Hp} {p : Addr} {kvs kvs2 : List (Key × D)} {vs vs2 : List (Key × V)} (w : Wd B G H) (g : G p = some (.dK kvs)) (h : H p = some (.dK vs)) (r : RpG B G H kvs2 vs2) :
    Wd B (gup G p (.dK kvs2)) (upd H p (.dK vs2)) ∧ Stp G H (gup G p (.dK kvs2)) (upd H p (.dK vs2)) := by
  have st := Stp.put (H := H) (o := .dK vs2) (c' := .dK kvs2) g (nf_of h)
  exact ⟨w.put g (nf_of h) ⟨vs2, upd_same, RpG.k.mpr (r.mono w st)⟩, st⟩
theorem qe_pop1D (ho : QE X W o td) (he : QE X W e ty) (m : M1 X o "pop" apos e cpos) : QE X W (.Call (.Attribute o "pop" apos) [e] [] cpos) (ePop1D td ty) := PE.imp (pe_dpop1 ho he m) fun σ H Q ⟨F, τ, G, QT', ET, P, q⟩ => by
  refine LE.bind (PT := P) (k := fun x τ G1 Q E => isDct G1 x = true ∧ ty τ G1 (fun y G2 => match popC G2 x y with
    | some r => Q r.1 r.2
    | none => False) E) q fun v x G1 H1 p1 r1 s1 q1 => ?_
  obtain ⟨a, rfl, isd⟩ := isDct_ok p1.wd r1 q1.1
  refine ⟨a, rfl, isd, LE.bind (PT := p1) (k := fun y τ G2 Q E => match popC G2 x y with
    | some r => Q r.1 r.2
    | none => False) q1.2 fun u y G2 H2 p2 r2 s2 q2 => ?_⟩
  split at q2
  · rename_i r e
    obtain ⟨d, G3⟩ := r
    obtain ⟨p, kvs, k, rfl, g, ek, ed, rfl⟩ := popC_ok e
    cases r1.ref_inv
    obtain ⟨vs, h1, h2⟩ := dK_cell p2.wd g
    obtain ⟨v, e1, rv⟩ := h2.some ed
    obtain ⟨w3, s3⟩ := dK_put p2.wd g h1 (h2.drop k)
    exact ⟨vs, k, v, h1, keyD_ok r2 ek, e1, p2.ok _ _ _ _ (rv.step p2.wd s3) w3 s3 q2⟩
  · exact q2.elim
def sDel (td ty : E1) : S1 := fun D E τ G => td τ G (fun x G1 => ty τ G1 (fun y G2 => match popC G2 x y with
  | some r => D.nx τ r.2
  | none => False) (fun c f g => E c f τ g)) (fun c f g => E c f τ g)
theorem qs_del (ho : QE X W o td) (hi : QE X W i ty) : QS X W (.Delete [.Subscript o i tpos] pos) (sDel td ty) := PS.imp (ps_ddel ho hi) fun D' σ H ⟨F, τ, G, DT, KT, P, q⟩ => by
  refine LE.inS P (k := fun x τ G1 => ty τ G1 (fun y G2 => match popC G2 x y with
    | some r => DT.nx τ r.2
    | none => False) (fun c f g => KT c f τ g)) q fun v x G1 H1 p1 r1 s1 q1 => ?_
  refine LE.inS p1 (k := fun y τ G2 => match popC G2 x y with
    | some r => DT.nx τ r.2
    | none => False) q1 fun u y G2 H2 p2 r2 s2 q2 => ?_
  split at q2
  · rename_i r e
    obtain ⟨d, G3⟩ := r
    obtain ⟨p, kvs, k, rfl, g, ek, ed, rfl⟩ := popC_ok e
    cases r1.ref_inv
    obtain ⟨vs, h1, h2⟩ := dK_cell p2.wd g
    obtain ⟨w3, s3⟩ := dK_put p2.wd g h1 (h2.drop k)
    exact ⟨p, vs, k, rfl, h1, keyD_ok r2 ek, by rw [h2.opt k, ed]; rfl, p2.nx _ _ _ _ (p2.sl.step p2.wd s3) w3 s3 q2⟩
  · exact q2.elim
/-! ### walks -/
theorem dct_at {B : Bd} {F : Addr → Prop} {G : GH} {H : Hp} {kds : List (Key × D)} {d : Addr} {o : Obj} {kvs : List (Key × V)} {rest : Fzs} (ry : RpL (B.hide F) G H [.dK kds] [.ref d]) (f : Fz [(d, o, .dK kvs)] H) : H d = some (.frz o (.dK kvs)) ∧ RpG (B.hide F) G H kds kvs := by
  have h := f _ (List.mem_cons_self ..)
  obtain ⟨_, _, e, r, _⟩ := ry.uncons
  cases e
  unfold Rp at r
  obtain ⟨a, o2, vs, ea, ⟨h2, _⟩, rk⟩ := r
  cases ea
  rw [h] at h2
  cases h2
  exact ⟨h, RpG.k.mp rk⟩
theorem rpG_at {B : Bd} {G : GH} {H : Hp} {kds : List (Key × D)} {kvs : List (Key × V)} (r : RpG B G H kds kvs) : ∀ {i : Nat} {k : Key} {v : V}, kvs[i]? = some (k, v) → ∃ d, kds[i]? = some (k, d) ∧ Rp B G H d v := by
  unfold RpG at r
  induction r with
  | nil => intro i k v e; simp at e
  | @cons p q ps qs h t ih =>
    intro i k v e
    cases i with
    | zero =>
      simp at e
      subst e
      exact ⟨p.2, congrArg some (Prod.ext h.1 rfl), h.2⟩
    | succ i => simpa using ih (by simpa using e)
theorem itOk_items {B : Bd} {kds : List (Key × D)} {d : Addr} {o : Obj} {kvs : List (Key × V)} : ItOk B (Iti d o kvs) [.dK kds] [.ref d] (kds.map fun q => D.tup [kD q.1, q.2]) (fun _ => True) [(d, o, .dK kvs)] where
  go F G H i ry w g f hi := by
    obtain ⟨h, r⟩ := dct_at (rest := []) ry f
    exact ⟨h, by rw [r.length]; simpa using hi⟩
  yld F G H i x v H' ry w g f ex hy := by
    obtain ⟨h, r⟩ := dct_at (rest := []) ry f
    obtain ⟨T, k, u, e, rfl, hT, rfl⟩ := hy
    obtain ⟨dd, e1, rv⟩ := rpG_at r e
    rw [List.getElem?_map, e1] at ex
    cases ex
    exact ⟨rp_tupN w hT (RpL.cons rp_kD (RpL.one rv)), w.fresh hT, Stp.fresh hT⟩
  stop F G H ry w g f := by
    obtain ⟨h, r⟩ := dct_at (rest := []) ry f
    exact ⟨h, by rw [r.length]; simp⟩
theorem itOk_keys {B : Bd} {kds : List (Key × D)} {d : Addr} {o : Obj} {kvs : List (Key × V)} : ItOk B (Itk d o kvs) [.dK kds] [.ref d] (kds.map fun q => kD q.1) (fun _ => True) [(d, o, .dK kvs)] where
  go F G H i ry w g f hi := by
    obtain ⟨h, r⟩ := dct_at (rest := []) ry f
    exact ⟨h, by rw [r.length]; simpa using hi⟩
  yld F G H i x v H' ry w g f ex hy := by
    obtain ⟨h, r⟩ := dct_at (rest := []) ry f
    obtain ⟨rfl, k, u, e, rfl⟩ := hy
    obtain ⟨dd, e1, rv⟩ := rpG_at r e
    rw [List.getElem?_map, e1] at ex
    cases ex
    exact ⟨rp_kD, w, Stp.refl⟩
  stop F G H ry w g f := by
    obtain ⟨h, r⟩ := dct_at (rest := []) ry f
    exact ⟨h, by rw [r.length]; simp⟩
theorem itOk_vals {B : Bd} {kds : List (Key × D)} {d : Addr} {o : Obj} {kvs : List (Key × V)} : ItOk B (Itd d o kvs) [.dK kds] [.ref d] (kds.map fun q => q.2) (fun _ => True) [(d, o, .dK kvs)] where
  go F G H i ry w g f hi := by
    obtain ⟨h, r⟩ := dct_at (rest := []) ry f
    exact ⟨h, by rw [r.length]; simpa using hi⟩
  yld F G H i x v H' ry w g f ex hy := by
    obtain ⟨h, r⟩ := dct_at (rest := []) ry f
    obtain ⟨rfl, k, e⟩ := hy
    obtain ⟨dd, e1, rv⟩ := rpG_at r e
    rw [List.getElem?_map, e1] at ex
    cases ex
    exact ⟨rv, w, Stp.refl⟩
  stop F G H ry w g f := by
    obtain ⟨h, r⟩ := dct_at (rest := []) ry f
    exact ⟨h, by rw [r.length]; simp⟩
def iItemsT (te : E1) : I1 := fun τ G Q E => te τ G (fun x G1 => match x with
  | .dK kds => Q (kds.map fun q => D.tup [kD q.1, q.2]) (fun _ => True) G1
  | _ => False) E
def iKeysT (te : E1) : I1 := fun τ G Q E => te τ G (fun x G1 => match x with
  | .dK kds => Q (kds.map fun q => kD q.1) (fun _ => True) G1
  | _ => False) E
def iValsT (te : E1) : I1 := fun τ G Q E => te τ G (fun x G1 => match x with
  | .dK kds => Q (kds.map fun q => q.2) (fun _ => True) G1
  | _ => False) E
theorem dK_frz {B : Bd} {G : GH} {H : Hp} {kds : List (Key × D)} {v : V} (r : Rp B G H (.dK kds) v) : ∃ a o kvs, v = .ref a ∧ H a = some (.frz o (.dK kvs)) := by
  unfold Rp at r
  obtain ⟨a, o, kvs, rfl, ⟨h, _⟩, _⟩ := r
  exact ⟨a, o, kvs, rfl, h⟩
theorem qi_items (he : QE X W e td) (hbase : attributeBase e "items" X.env (eval e X.env) = eval e X.env := by rfl) (hline : (apos.endLine == cpos.line) = true := by rfl) : QI X W (.Tuple elts kk tpos) (.Call (.Attribute e "items" apos) [] [] cpos) (iItemsT td) := PI.imp (pi_items he hbase hline) fun σ H R ⟨F, τ, G, QT', ET, P, q⟩ => by
  refine LE.toI P (k := fun x G1 Q E => match x with
    | .dK kds => Q (kds.map fun q => D.tup [kD q.1, q.2]) (fun _ => True) G1
    | _ => False) q fun v d G1 H1 r w s q => ?_
  split at q
  · obtain ⟨a, o, kvs, rfl, h⟩ := dK_frz r
    exact ⟨a, o, kvs, rfl, h, P.ok _ [_] [_] _ _ [(a, o, .dK kvs)] G1 H1 (itOk_items (B := (bd X).hide F)) (RpL.one r) trivial (fun z hz => by simp at hz; subst hz; exact h) w s q⟩
  · exact q.elim
theorem qi_values (he : QE X W e td) (hbase : attributeBase e "values" X.env (eval e X.env) = eval e X.env := by rfl) (hline : (apos.endLine == cpos.line) = true := by rfl) : QI X W tg (.Call (.Attribute e "values" apos) [] [] cpos) (iValsT td) := PI.imp (pi_values he hbase hline) fun σ H R ⟨F, τ, G, QT', ET, P, q⟩ => by
  refine LE.toI P (k := fun x G1 Q E => match x with
    | .dK kds => Q (kds.map fun q => q.2) (fun _ => True) G1
    | _ => False) q fun v d G1 H1 r w s q => ?_
  split at q
  · obtain ⟨a, o, kvs, rfl, h⟩ := dK_frz r
    exact ⟨a, o, kvs, rfl, h, P.ok _ [_] [_] _ _ [(a, o, .dK kvs)] G1 H1 (itOk_vals (B := (bd X).hide F)) (RpL.one r) trivial (fun z hz => by simp at hz; subst hz; exact h) w s q⟩
  · exact q.elim
theorem qi_keysM (he : QE X W e td) (hbase : attributeBase e "keys" X.env (eval e X.env) = eval e X.env := by rfl) (hline : (apos.endLine == cpos.line) = true := by rfl) : QI X W tg (.Call (.Attribute e "keys" apos) [] [] cpos) (iKeysT td) := PI.imp (pi_keysM he hbase hline) fun σ H R ⟨F, τ, G, QT', ET, P, q⟩ => by
  refine LE.toI P (k := fun x G1 Q E => match x with
    | .dK kds => Q (kds.map fun q => kD q.1) (fun _ => True) G1
    | _ => False) q fun v d G1 H1 r w s q => ?_
  split at q
  · obtain ⟨a, o, kvs, rfl, h⟩ := dK_frz r
    exact ⟨a, o, kvs, rfl, h, P.ok _ [_] [_] _ _ [(a, o, .dK kvs)] G1 H1 (itOk_keys (B := (bd X).hide F)) (RpL.one r) trivial (fun z hz => by simp at hz; subst hz; exact h) w s q⟩
  · exact q.elim
theorem qi_keys (he : QE X W e td) : QI X W tg e (iKeysT td) := PI.imp (pi_keys he) fun σ H R ⟨F, τ, G, QT', ET, P, q⟩ => by
  refine LE.toI P (k := fun x G1 Q E => match x with
    | .dK kds => Q (kds.map fun q => kD q.1) (fun _ => True) G1
    | _ => False) q fun v d G1 H1 r w s q => ?_
  split at q
  · obtain ⟨a, o, kvs, rfl, h⟩ := dK_frz r
    exact ⟨a, o, rfl, .inl ⟨kvs, h, P.ok _ [_] [_] _ _ [(a, o, .dK kvs)] G1 H1 (itOk_keys (B := (bd X).hide F)) (RpL.one r) trivial (fun z hz => by simp at hz; subst hz; exact h) w s q⟩⟩
  · exact q.elim
/-! ### dict(d), list(d), list(d.items()) -/
def rDctD : RC := fun ds G Q => match ds with
  | [x] => (match vK G x with
    | some kvs => ∀ p, G p = none → Q (.ref p) (gup G p (.dK kvs))
    | none => False)
  | _ => False
def rLstD : RC := fun ds G Q => match ds with
  | [x] => (match vK G x with
    | some kvs => Q (.lst (kvs.map fun q => kD q.1)) G
    | none => False)
  | _ => False
theorem sim_dctD {B : Bd} : SimC B rDctD (fun xs H Q => ∃ (a : Addr) (kvs : List (Key × V)), xs = [.ref a] ∧ Rd H a (.dK kvs) ∧ ∀ p, H p = none → Q (.ref p) (upd H p (.dK kvs))) := by
  intro F W σ H Q τ G QT' ET ds vs P r h
  unfold rDctD at h
  split at h
  · obtain ⟨v, rfl, r1⟩ := r.inv1
    split at h
    · rename_i kvs e
      obtain ⟨a, us, rfl, h1, h2⟩ := vK_ok P.wd r1 e
      refine ⟨a, us, rfl, h1, fun p hp => ?_⟩
      exact P.ok _ _ (gup G p (.dK kvs)) _ rp_ref (P.wd.cell hp ⟨us, upd_same, RpG.k.mpr (h2.mono P.wd (Stp.cell hp))⟩) (Stp.cell hp) (h p (P.wd.none_of hp))
    · exact h.elim
  · exact h.elim
theorem rpL_keys {B : Bd} {G : GH} {H : Hp} {kds : List (Key × D)} {kvs : List (Key × V)} (r : RpG B G H kds kvs) : RpL B G H (kds.map fun q => kD q.1) (kvs.map fun q => kV q.1) := by
  unfold RpG at r
  induction r with
  | nil => exact RpL.nil
  | @cons p q ps qs h t ih =>
    simp only [List.map_cons]
    rw [h.1]
    exact RpL.cons rp_kD ih
theorem sim_lstD {B : Bd} : SimC B rLstD (fun xs H Q => ∃ (a : Addr) (kvs : List (Key × V)), xs = [.ref a] ∧ Rd H a (.dK kvs) ∧ ∀ p, H p = none → Q (.ref p) (upd H p (.lst (kvs.map fun kv => kV kv.1)))) := by
  intro F W σ H Q τ G QT' ET ds vs P r h
  unfold rLstD at h
  split at h
  · obtain ⟨v, rfl, r1⟩ := r.inv1
    split at h
    · rename_i kvs e
      obtain ⟨a, us, rfl, h1, h2⟩ := vK_ok P.wd r1 e
      exact ⟨a, us, rfl, h1, fun p hp => P.lstN hp (rpL_keys h2) h⟩
    · exact h.elim
  · exact h.elim
end
section
variable {X : Cx} {W : WX} {p pos : Pos} {e : Expr} {es : List Expr} {ta : A1}
variable (ha : QA X W (e :: es) ta) (he : starEach (e :: es) X.env = (false, eval e X.env) :: starEach es X.env) (hpl : (backTo pos (starEach es X.env)).any (·.1) = false)
include ha he hpl
theorem qe_dctD (hg : Gl X "dict") (hm : X.mg "dict" = none) : QE X W (.Call (.Name "dict" p) (e :: es) [] pos) (eB rDctD ta) := qe_bt sim_dctD call_dictD hg hm (by rfl) ha (he := he) (hpl := hpl)
theorem qe_lstD (hc : X.calm = true) (hg : Gl X "list") (hm : X.mg "list" = none) : QE X W (.Call (.Name "list" p) (e :: es) [] pos) (eB rLstD ta) := qe_bt sim_lstD (call_listD hc) hg hm (by rfl) ha (he := he) (hpl := hpl)
end
end TL
end
section
/-! TL16: dict(pairs) with tuple keys; methods called with keywords. -/
namespace TL
open PySem PySem.Spec L2
open PyProof.Rows (IsTup)
def mergedH (xs rest : List (List Key × Addr × Value)) : List (List Key × Addr × Value) := rest.foldl (fun m q => storedH m q.1 q.2.1 q.2.2) xs
theorem storedH_length_le (xs : List (List Key × Addr × Value)) (k : List Key) (a : Addr) (v : Value) : (storedH xs k a v).length ≤ xs.length + 1 := by
  unfold storedH
  split
  · rw [List.length_map]; omega
  · simp
section
variable {prog : Program} {w : World} {A : Around} {E : Value → Shared → Prop}
theorem dictOfH_keep {h h' : Heap} {d : Addr} {xs : List (List Key × Addr × Value)} (m : h.DictOfH (tupleKind (mixKind prog w)) d xs) (k1 : ∀ o, h.get? d = some o → h'.get? d = some o)
    (k2 : ∀ b o, o.cls = .type "tuple" → h.get? b = some o → h'.get? b = some o) : h'.DictOfH (tupleKind (mixKind prog w)) d xs := by
  obtain ⟨o, es, ep, h1, h2, h3, h4, h5, h6⟩ := m
  refine ⟨o, es, ep, k1 _ h1, h2, h3, h4, fun x hx => ?_, h6⟩
  obtain ⟨ob, its, n, e1, e2, e3, e4⟩ := h5 x hx
  exact ⟨ob, its, n, k2 _ _ e2 e1, e2, e3, e4⟩
theorem tk_keep {h h' : Heap} {k : List Key} {b : Addr} (m : (tupleKind (mixKind prog w)).is h k b) (k2 : ∀ o, o.cls = .type "tuple" → h.get? b = some o → h'.get? b = some o) : (tupleKind (mixKind prog w)).is h' k b := by
  obtain ⟨ob, its, n, e1, e2, e3, e4⟩ := m
  exact ⟨ob, its, n, k2 _ e2 e1, e2, e3, e4⟩
/-- the walk over the pairs, keys are tuples -/
theorem upd_loopT {R : Result → Shared → Prop} {S I l : Addr} {items : Array Value} {res : Value} (hu : A.in1.units < cLine) (hh : A.handled = none) (hlI : l ≠ I) (hSI : S ≠ I) (hSl : S ≠ l) :
    ∀ (rest : List (List Key × Addr × Value)) (i : Nat) (acc : List (List Key × Addr × Value)) (ix : Int) (t : Tok) (s : Shared), items.size = i + rest.length → acc.length + rest.length ≤ sizeLine →
      (∀ (j : Nat) (q : List Key × Addr × Value), rest[j]? = some q → ∃ (b : Addr), items[i + j]? = some (.ref b) ∧ b ≠ S ∧ b ≠ I ∧ IsTup s.heap b #[.ref q.2.1, q.2.2] ∧ (tupleKind (mixKind prog w)).is s.heap q.1 q.2.1) →
      s.heap.IsListIter I l i → s.heap.IsList l items → s.heap.DictOfH (tupleKind (mixKind prog w)) S acc →
      (∀ h' tk, h'.DictOfH (tupleKind (mixKind prog w)) S (mergedH acc rest) → (∀ b o, b ≠ S → b ≠ I → s.heap.get? b = some o → h'.get? b = some o) → R (.ok (.ret res)) { s with heap := h', toks := tk }) →
      codeAny (model prog w) A (.builtin "dict.update.loop" ⟨[.ref S, .ref I, .int ix t, res], []⟩) R s
  | [], i, acc, ix, t, s, hsz, hln, ht, hit, hl, hm, hR => by
    refine codeAny_builtin ud_entry ?_
    rw [Around.under_plainId ud_plain _]
    show wpAny _ A.in1 (pyNext (.ref I) >>= _) _ _ s
    refine wpAny_bind (wpAny_pyNext_list_end (A := A.in1) hh hit hl (by first | exact Array.getElem?_eq_none (Nat.le_of_eq hsz) | (simp at hsz; simp; omega)) fun h' he => ?_)
    show wpAny _ A.in1 (Builtin.Dict.addKeywords S [] >>= _) _ _ _
    refine wpAny_bind (wpAny_pure (wpAny_pure ?_))
    obtain ⟨oi, hi1, hi2, _⟩ := id hit
    refine hR h' s.toks (dictOfH_keep hm (fun o q => he S o hSI q) fun b o ct q => he b o (fun e => ?_) q) fun b o _ hb e => he b o hb e
    rw [e, hi1] at q; cases q; rw [hi2] at ct; injection ct with ct; exact absurd ct (by decide)
  | q :: rest, i, acc, ix, t, s, hsz, hln, ht, hit, hl, hm, hR => by
    obtain ⟨b, hb, hbS, hbI, htup, hk⟩ := ht 0 q rfl
    rw [List.length_cons] at hsz hln
    refine codeAny_builtin ud_entry ?_
    rw [Around.under_plainId ud_plain _]
    show wpAny _ A.in1 (pyNext (.ref I) >>= _) _ _ s
    obtain ⟨oi, hi1, hi2, _⟩ := id hit
    refine wpAny_bind (wpAny_pyNext_list_item (x := .ref b) hit hl (by simpa using hb) fun h1 hit1 hs1 => ?_)
    have nI : ∀ b o, o.cls = Value.type "tuple" → s.heap.get? b = some o → b ≠ I := fun b o ct q e => by
      rw [e, hi1] at q; cases q; rw [hi2] at ct; injection ct with ct; exact absurd ct (by decide)
    have kt1 : ∀ b o, o.cls = Value.type "tuple" → s.heap.get? b = some o → h1.get? b = some o := fun b o ct q => hs1.extBut b o (nI b o ct q) q
    have ht1 : IsTup h1 b #[.ref q.2.1, q.2.2] := htup.extBut hs1.extBut hbI
    have hl1 : h1.IsList l items := hl.extBut hs1.extBut hlI
    have hm1 : h1.DictOfH (tupleKind (mixKind prog w)) S acc := dictOfH_keep hm (fun o q => hs1.extBut S o hSI q) kt1
    have hk1 := tk_keep hk fun o => kt1 _ o
    obtain ⟨o, ho, hc, n, hd⟩ := id ht1
    show wpAny _ A.in1 (holding [Value.ref b] _ >>= _) _ _ _
    refine wpAny_bind (wpAny_holding ?_)
    refine wpAny_bind (wpAny_tryCatch ?_)
    unfold Builtin.Dict.pairItems
    refine wpAny_bind (wpAny_typeOf (T := "tuple") ⟨o, ho, hc⟩ ?_)
    rw [if_pos (by first | decide | rfl | simp)]
    refine wpAny_bind (wpAny_seqItems ho hd (wpAny_pure ?_))
    show wpAny _ A.in1 (holding [.ref q.2.1, q.2.2] (dictSet S (.ref q.2.1) q.2.2)) _ _ _
    obtain ⟨oS, _, _, hS1, hS2, _⟩ := id hm1
    have nS : ∀ b o, o.cls = Value.type "tuple" → h1.get? b = some o → b ≠ S := fun b o ct q e => by
      rw [e, hS1] at q; cases q; rw [hS2.1] at ct; injection ct with ct; exact absurd ct (by decide)
    refine wpAny_holding (wpAny_dictSet_heap (knd := tupleKind (mixKind prog w)) (k := q.1) hu hk1 hm1 (fun h2 hm2 hs2 => ?_) (by omega))
    have kt2 : ∀ b o, o.cls = Value.type "tuple" → h1.get? b = some o → h2.get? b = some o := fun b o ct q => hs2.extBut b o (nS b o ct q) q
    refine wpAny_pure ⟨plainId_quiet ud_plain _, upd_loopT (items := items) hu hh hlI hSI hSl rest (i + 1) (storedH acc q.1 q.2.1 q.2.2) (ix + 1) 0 _ (show items.size = i + 1 + rest.length by omega) ?_ (fun j q' e => ?_) ?_ ?_ hm2 fun h' tk hd' k => ?_⟩
    · have z := storedH_length_le acc q.1 q.2.1 q.2.2
      omega
    · obtain ⟨b', hb', hbS', hbI', htup', hk'⟩ := ht (j + 1) q' (by simpa using e)
      refine ⟨b', ?_, hbS', hbI', (htup'.extBut hs1.extBut hbI').extBut hs2.extBut hbS', tk_keep (tk_keep hk' fun o => kt1 _ o) fun o => kt2 _ o⟩
      rw [show i + 1 + j = i + (j + 1) by omega]
      exact hb'
    · exact hit1.at fun o' e => hs2.extBut I o' (Ne.symm hSI) e
    · exact hl1.extBut hs2.extBut (Ne.symm hSl)
    · exact hR h' tk hd' fun c oc h3 h4 e => k c oc h3 h4 (hs2.extBut c oc h3 (hs1.extBut c oc h4 e))
theorem call_dict_pairsT {s : Shared} {l : Addr} {ol : Obj} {items : Array Value} {n : Nat} {prs : List (List Key × Addr × Value)} {Q : Value → Shared → Prop} (hu : A.units + 2 < cLine) (hh : A.handled = none) (hl : s.heap.get? l = some ol) (hc : ol.cls = .type "list") (hd : ol.dict = none)
    (hdat : ol.data = .seq items n) (hsz : items.size = prs.length) (hln : prs.length ≤ sizeLine)
    (ht : ∀ (j : Nat) (q : List Key × Addr × Value), prs[j]? = some q → ∃ (b : Addr), items[j]? = some (.ref b) ∧ IsTup s.heap b #[.ref q.2.1, q.2.2] ∧ (tupleKind (mixKind prog w)).is s.heap q.1 q.2.1)
    (h : ∀ h' tk, h'.DictOfH (tupleKind (mixKind prog w)) s.heap.objs.size (mergedH [] prs) → (∀ b o, s.heap.get? b = some o → h'.get? b = some o) → Q (.ref s.heap.objs.size) { s with heap := h', toks := tk }) :
    wpAny (model prog w) A (call (.type "dict") [.ref l]) Q E s := by
  refine callType_codes (Q₁ := fun obj s₁ => obj = .ref s.heap.objs.size ∧ s₁ = { s with heap := s.heap.push { cls := .type "dict", data := .dict #[] } }) PySem.F.kt_called_dict (PySem.F.kt_typeCall_dict_1 _) PySem.F.entry_dict_init (kt_code_dict_new _ ⟨rfl, rfl⟩) ?_
  rintro obj s₁ ⟨rfl, rfl⟩
  have hnew : (s.heap.push { cls := .type "dict", data := .dict #[] }).DictOfH (tupleKind (mixKind prog w)) s.heap.objs.size [] := ⟨_, #[], 0, Heap.get?_push_size _ rfl, ⟨rfl, rfl, rfl⟩, rfl, rfl, (fun x hx => by cases hx), List.nodup_nil⟩
  have hty : ({ s with heap := s.heap.push { cls := .type "dict", data := .dict #[] } } : Shared).TypeIs (.ref s.heap.objs.size) "dict" := ⟨_, Heap.get?_push_size _ rfl, rfl⟩
  have k0 : ∀ b o, s.heap.get? b = some o → (s.heap.push { cls := .type "dict", data := .dict #[] }).get? b = some o := fun b o e => Heap.get?_push_of_some _ e
  refine ⟨hty, PySem.F.args_dict_init_2 _ _, ?_⟩
  unfold Builtin.«dict.__init__»
  refine wpAny_bind ?_
  unfold Builtin.Dict.selfAndRest
  refine wpAny_bind (wpAny_notOrdered_dict hty ?_)
  show wpAny _ _ (pure (s.heap.objs.size, [Value.ref l])) _ _ _
  refine wpAny_pure ?_
  show wpAny _ _ (Builtin.Dict.updateFrom "dict.__init__" s.heap.objs.size (.ref l) [] .none) _ _ _
  unfold Builtin.Dict.updateFrom
  refine wpAny_bind (wpAny_typeOf (T := "list") ⟨ol, k0 _ _ hl, hc⟩ ?_)
  rw [if_pos (by first | decide | rfl | simp)]
  refine wpAny_bind (miss_list (k0 _ _ hl) hc hdat hd hh fun h1 tk1 hk1 => ?_)
  rw [if_pos (show (none : Option Value).isNone = true from rfl)]
  refine wpAny_bind (wpAny_rule ?_)
  have hl1 : h1.IsList l items := ⟨ol, hk1 _ _ (k0 _ _ hl), hc, n, hdat⟩
  have hS1 : s.heap.objs.size < h1.objs.size := by
    have e : (s.heap.push { cls := .type "dict", data := .dict #[] }).get? s.heap.objs.size = some { cls := .type "dict", data := .dict #[] } := Heap.get?_push_size _ rfl
    exact Heap.lt_size (hk1 _ _ e)
  refine wpAny_bind (wpAny_pyIter_list hl1 ?_)
  have k2 : ∀ b o, h1.get? b = some o → (h1.push { cls := .type "list_iterator", data := .fields #[.ref l, .int 0 0] }).get? b = some o := fun b o e => Heap.get?_push_of_some _ e
  have hlt : l < s.heap.objs.size := Heap.lt_size hl
  have key := upd_loopT (prog := prog) (w := w) (A := A.in1) (R := wants (fun r s₂ => r = .none ∧ Q (.ref s.heap.objs.size) s₂) E) (S := s.heap.objs.size) (I := h1.objs.size) (l := l) (items := items) (res := Value.none) hu hh
    (Nat.ne_of_lt (Nat.lt_trans hlt hS1)) (Nat.ne_of_lt hS1) (Nat.ne_of_gt hlt) prs 0 [] 0 0
    { s with heap := h1.push { cls := .type "list_iterator", data := .fields #[.ref l, .int 0 0] }, toks := tk1 } (by rw [hsz, Nat.zero_add]) (by rw [List.length_nil, Nat.zero_add]; exact hln)
    (fun j q e => by
      obtain ⟨b, e1, e2, e3⟩ := ht j q e
      have hb : b < s.heap.objs.size := e2.lt
      exact ⟨b, by rw [Nat.zero_add]; exact e1, Nat.ne_of_lt hb, Nat.ne_of_lt (Nat.lt_trans hb hS1), e2.keeps fun c o z => k2 _ _ (hk1 _ _ (k0 _ _ z)), tk_keep e3 fun o _ z => k2 _ _ (hk1 _ _ (k0 _ _ z))⟩)
    ⟨_, Heap.get?_push_size _ rfl, rfl, rfl⟩ (hl1.at fun o e => k2 _ _ e) (dictOfH_keep hnew (fun o e => k2 _ _ (hk1 _ _ e)) fun b o _ e => k2 _ _ (hk1 _ _ e))
    (fun h' tk hd' k => ⟨rfl, h h' tk hd' fun b o e => k b o (Nat.ne_of_lt (Heap.lt_size e)) (Nat.ne_of_lt (Nat.lt_trans (Heap.lt_size e) hS1)) (k2 _ _ (hk1 _ _ (k0 _ _ e)))⟩)
  first
    | exact wpAny_pure ⟨plainId_quiet ud_plain _, key⟩
    | exact wpAny_bind (wpAny_pure (wpAny_pure ⟨plainId_quiet ud_plain _, key⟩))
end
def mergeT (kvs more : List (List Key × V)) : List (List Key × V) := more.foldl (fun acc kv => putK acc kv.1 kv.2) kvs
theorem length_mergeT : ∀ (more kvs : List (List Key × V)), (mergeT kvs more).length ≤ kvs.length + more.length
  | [], kvs => by simp [mergeT]
  | p :: r, kvs => by
    have h1 := length_putK kvs p.1 p.2
    have h2 := length_mergeT r (putK kvs p.1 p.2)
    show (mergeT (putK kvs p.1 p.2) r).length ≤ _
    rw [List.length_cons]
    omega
/-- the pairs as they stand: (key tuple, value) -/
def PrT (K : PySem.W.Frag) (H : Hp) (p : Addr) (kv : List Key × V) : Prop := ∃ b, SqT K H p [.ref b, kv.2] ∧ H b = some (.tup (kv.1.map kV))
theorem kt_merge {H : Hp} : ∀ {more : List (List Key × V)} {rs : List (List Key × Addr × Value)} {kvs : List (List Key × V)} {xs : List (List Key × Addr × Value)}, L2.KT H more rs → L2.KT H kvs xs → L2.KT H (mergeT kvs more) (mergedH xs rs) := by
  intro more rs kvs xs r
  induction r generalizing kvs xs with
  | nil => exact fun q => q
  | @cons p q ps qs h t ih =>
    intro g
    obtain ⟨e, h2, h3⟩ := h
    show L2.KT H (mergeT (putK kvs p.1 p.2) ps) (mergedH (storedH xs q.1 q.2.1 q.2.2) qs)
    rw [← e]
    exact ih (L2.KT.put g p.1 h2 h3)
section
variable {X : Cx}
theorem pairsT_of {pins : List (Addr × Obj)} {σ : L2.St} {H : Hp} {s : Shared} (I : Inv X pins σ H s) : ∀ {ps : List Addr} {kvs : List (List Key × V)}, Paired (PrT X.K H) ps kvs →
    ∃ prs : List (List Key × Addr × Value), L2.KT H kvs prs ∧ prs.length = ps.length ∧ ∀ (j : Nat) (q : List Key × Addr × Value), prs[j]? = some q → ∃ (b : Addr), ps[j]? = some b ∧ IsTup s.heap b #[.ref q.2.1, q.2.2] ∧ (tupleKind (mixKind X.prog X.w)).is s.heap q.1 q.2.1
  | _, _, .nil => ⟨[], .nil, rfl, fun j q e => by simp at e⟩
  | _, _, .cons (a := p) (b := kv) h t => by
    obtain ⟨prs, r, hl, hp⟩ := pairsT_of I t
    obtain ⟨b, hq, hb⟩ := h
    obtain ⟨its, rv, ht, _⟩ := I.tuple hq
    obtain ⟨u, y, ei, ru, ry⟩ := vals2 rv
    subst ei
    cases ru
    refine ⟨(kv.1, b, y) :: prs, .cons ⟨rfl, hb, ry⟩ r, by rw [List.length_cons, List.length_cons, hl], fun j q e => ?_⟩
    cases j with
    | zero =>
      have e' : (kv.1, b, y) = q := Option.some.inj e
      subst e'
      exact ⟨p, rfl, ht, key_of I.hok hb⟩
    | succ j =>
      obtain ⟨b', e1, e2, e3⟩ := hp j q (by simpa using e)
      exact ⟨b', by simpa using e1, e2, e3⟩
theorem call_dictPT (hu : X.A.units + 2 < cLine) (hcalm : X.calm = true) : CallR X (.type "dict") (fun xs H Q => ∃ (a : Addr) (ps : List Addr) (kvs : List (List Key × V)), xs = [.ref a] ∧ SqL X.K H a (ps.map V.ref) ∧ Paired (PrT X.K H) ps kvs ∧
    ∀ p, H p = none → Q (.ref p) (upd H p (.dT (mergeT [] kvs)))) := by
  intro pins s σ H xs us Q I r q
  obtain ⟨a, ps, kvs, ex, hq, hp, q⟩ := q
  subst ex
  obtain ⟨u, eu, rx⟩ := vals1 r
  subst eu
  cases rx
  obtain ⟨its, rv, pl, hz⟩ := I.list hq
  have ei := refs_at rv
  subst ei
  rw [List.length_map] at hz
  obtain ⟨prs, rel, hl, hpr⟩ := pairsT_of I hp
  obtain ⟨o, n, ho, hc, hd, hdat⟩ := pl
  refine call_dict_pairsT (prs := prs) hu (I.ok.hd hcalm) ho hc hd hdat (by simp [hl]) (by rw [hl]; exact hz) (fun j q' e => ?_) fun h' tk hd' k => ?_
  · obtain ⟨b, e1, e2, e3⟩ := hpr j q' e
    exact ⟨b, by simp [e1], e2, e3⟩
  · have hm : (s.heap.objs.size == sysModules) = false := beq_eq_false_iff_ne.mpr (Nat.ne_of_gt I.big)
    have hlen : (mergeT [] kvs).length ≤ sizeLine := by
      refine Nat.le_trans (length_mergeT kvs []) ?_
      rw [List.length_nil, Nat.zero_add, Paired.length rel, hl]
      exact hz
    have hn : H s.heap.objs.size = none := I.hok.fresh (Nat.le_refl _)
    obtain ⟨o', es, ep, q1, q2, q3, q4, _, q6⟩ := hd'
    have kt : L2.KT (upd H s.heap.objs.size (.dT (mergeT [] kvs))) (mergeT [] kvs) (mergedH [] prs) := L2.KT.keeps (kt_merge rel .nil) fun c ys ec => by
      rw [upd_ne (fun e => by rw [e, hn] at ec; cases ec)]; exact ec
    exact ⟨.ref s.heap.objs.size, upd H s.heap.objs.size (.dT (mergeT [] kvs)), I.laid (t' := tk) k (Nat.le_refl _) (show ObjOk X.prog X.w _ _ _ (.dT (mergeT [] kvs)) from ⟨hlen, hm, mergedH [] prs, kt, o', es, ep, q1, q2, q3, q4, q6⟩), rfl, q _ hn⟩
end
end TL
end
section
/-! TL17: dict(pairs) with tuple keys over trees; repr of data with dicts; methods called with keywords. -/
namespace TL
open PySem PySem.Spec L2
/-! ### dict(pairs), keys are tuples -/
def prsT : List D → Option (List (List Key × D))
  | [] => some []
  | d :: r => match d with
    | .tup [x, y] => (match keyT x, prsT r with
      | some k, some ps => some ((k, y) :: ps)
      | _, _ => none)
    | _ => none
def mergeTD (kvs more : List (List Key × D)) : List (List Key × D) := more.foldl (fun acc kv => putD acc kv.1 kv.2) kvs
theorem rpG_mergeT {B : Bd} {G : GH} {H : Hp} : ∀ {more : List (List Key × D)} {mv : List (List Key × V)} {kvs : List (List Key × D)} {vs : List (List Key × V)}, RpG B G H more mv → RpG B G H kvs vs → RpG B G H (mergeTD kvs more) (mergeT vs mv) := by
  intro more mv kvs vs h
  unfold RpG at h
  induction h generalizing kvs vs with
  | nil => exact fun q => q
  | @cons p q ps qs h t ih =>
    intro g
    obtain ⟨k, x⟩ := p
    obtain ⟨k', y⟩ := q
    obtain ⟨e, h⟩ := h
    dsimp only at e h
    subst e
    exact ih (g.put k h)
theorem prsT_ok {B : Bd} {G : GH} {H : Hp} : ∀ {xs : List D} {vs : List V} {ps : List (List Key × D)}, RpL B G H xs vs → prsT xs = some ps → ∃ (as : List Addr) (kvs : List (List Key × V)), vs = as.map V.ref ∧ Paired (PrT B.K H) as kvs ∧ RpG B G H ps kvs
  | [], vs, ps, r, e => by
    cases e
    exact ⟨[], [], r.nil_inv, .nil, (show Paired _ _ _ from .nil)⟩
  | d :: ds, vs, ps, r, e => by
    obtain ⟨v, q, rfl, h, t⟩ := r.uncons
    unfold prsT at e
    split at e
    · rename_i x y
      split at e
      · rename_i k ps' ek ep
        cases e
        obtain ⟨a, ws, rfl, h1, h2⟩ := h.tup_inv
        obtain ⟨v1, r1, rfl, hx, t1⟩ := h2.uncons
        obtain ⟨v2, r2, rfl, hy, t2⟩ := t1.uncons
        cases t2.nil_inv
        obtain ⟨b, rfl, hb⟩ := keyT_ok hx ek
        obtain ⟨as, kvs, rfl, e2, e3⟩ := prsT_ok t ep
        exact ⟨a :: as, (k, v2) :: kvs, rfl, .cons ⟨b, SqT.of h1, hb⟩ e2, .cons ⟨rfl, hy⟩ e3⟩
      · cases e
    · cases e
def rDctPT : RC := fun ds G Q => match ds with
  | [d] => (match vL G d with
    | some xs => (match prsT xs with
      | some ps => ∀ p, G p = none → Q (.ref p) (gup G p (.dT (mergeTD [] ps)))
      | none => False)
    | none => False)
  | _ => False
theorem sim_dctPT {B : Bd} : SimC B rDctPT (fun xs H Q => ∃ (a : Addr) (ps : List Addr) (kvs : List (List Key × V)), xs = [.ref a] ∧ SqL B.K H a (ps.map V.ref) ∧ Paired (PrT B.K H) ps kvs ∧ ∀ p, H p = none → Q (.ref p) (upd H p (.dT (mergeT [] kvs)))) := by
  intro F W σ H Q τ G QT' ET ds vs p r h
  unfold rDctPT at h
  split at h
  · obtain ⟨v, rfl, r1⟩ := r.inv1
    split at h
    · rename_i xs ex
      obtain ⟨a, us, rfl, f, ra⟩ := vL_sq p.wd r1 ex
      split at h
      · rename_i ps ep
        obtain ⟨as, kvs, rfl, h1, h2⟩ := prsT_ok ra ep
        refine ⟨a, as, kvs, rfl, f, h1, fun q hq => ?_⟩
        have rm := rpG_mergeT h2 (show RpG _ _ _ ([] : List (List Key × D)) [] from (show Paired _ _ _ from .nil))
        exact p.ok _ _ (gup G q (.dT (mergeTD [] ps))) _ rp_ref (p.wd.cell hq ⟨mergeT [] kvs, upd_same, RpG.t.mpr (rm.mono p.wd (Stp.cell hq))⟩) (Stp.cell hq) (h q (p.wd.none_of hq))
      · exact h.elim
    · exact h.elim
  · exact h.elim
def eDctPT (ta : A1) : E1 := eB rDctPT ta
section
variable {X : Cx} {W : WX} {p pos : Pos} {e : Expr} {es : List Expr} {ta : A1}
theorem qe_dctPT (hu : X.A.units + 66 < cLine) (hc : X.calm = true) (ha : QA X W (e :: es) ta) (he : starEach (e :: es) X.env = (false, eval e X.env) :: starEach es X.env) (hpl : (backTo pos (starEach es X.env)).any (·.1) = false) (hg : Gl X "dict") (hm : X.mg "dict" = none) :
    QE X W (.Call (.Name "dict" p) (e :: es) [] pos) (eDctPT ta) := qe_bt sim_dctPT (call_dictPT (by omega) hc) hg hm (by rfl) ha (he := he) (hpl := hpl)
end
/-! ### repr of data with dicts -/
/-- the dict of modules is no list -/
def SysK (K : PySem.W.Frag) : Prop := ∃ o, K.lookup sysModules = some o ∧ o.cls = .type "dict"
mutual
inductive Dq (K : PySem.W.Frag) (H : Hp) : V → PyData → Prop
  | non : Dq K H .non .none
  | bl (b : Bool) : Dq K H (.bl b) (.bool b)
  | int (i : Int) : Dq K H (.int i) (.int i)
  | str (x : Str) : Dq K H (.str x) (.str x)
  | lst {a : Addr} {xs : List V} {ds : List PyData} : SqL K H a xs → DqAll K H xs ds → Dq K H (.ref a) (.list ds)
  | tup {a : Addr} {xs : List V} {ds : List PyData} : SqT K H a xs → DqAll K H xs ds → Dq K H (.ref a) (.tuple ds)
  | dct {a : Addr} {kvs : List (Key × V)} {ds : List (PyData × PyData)} : Rd H a (.dK kvs) → DqK K H kvs ds → Dq K H (.ref a) (.dict ds)
inductive DqAll (K : PySem.W.Frag) (H : Hp) : List V → List PyData → Prop
  | nil : DqAll K H [] []
  | cons {v : V} {vs : List V} {d : PyData} {ds : List PyData} : Dq K H v d → DqAll K H vs ds → DqAll K H (v :: vs) (d :: ds)
inductive DqK (K : PySem.W.Frag) (H : Hp) : List (Key × V) → List (PyData × PyData) → Prop
  | nil : DqK K H [] []
  | cons {k : Key} {v : V} {vs : List (Key × V)} {d : PyData} {ds : List (PyData × PyData)} : Dq K H v d → DqK K H vs ds → DqK K H ((k, v) :: vs) ((kPy k, d) :: ds)
end
theorem reads_keys {h : Heap} {P : Program} {w : World} : ∀ {es : List DictEntry} {vs : List (Key × Value)}, Pairs (mixKind P w) es vs → ReadsAll h (es.map (·.key)) (vs.map fun p => kPy p.1) [] := by
  intro es vs h
  induction h with
  | nil => exact .nil
  | @cons e kv es kvs h1 h2 h3 ih =>
    have : Reads h e.key (kPy kv.1) [] := by
      rcases keyIs_shape (show keyIs kv.1 e.key = true from h1) with ⟨i, t, e1, e2⟩ | ⟨x, t, e1, e2⟩
      · rw [e1, e2]; exact .int i t
      · rw [e1, e2]; exact .str x t
    exact ReadsAll.cons (as := []) this ih
theorem pairs_vals {P : Program} {w : World} : ∀ {es : List DictEntry} {vs : List (Key × Value)}, Pairs (mixKind P w) es vs → es.map (·.val) = vs.map (·.2) := by
  intro es vs h
  induction h with
  | nil => rfl
  | cons h1 h2 h3 ih => rw [List.map_cons, List.map_cons, ih, h2]
section
variable {X : Cx} {pins : List (Addr × Obj)} {σ : L2.St} {H : Hp} {s : Shared}
mutual
theorem Dq.reads (I : Inv X pins σ H s) (hs : SysK X.K) : ∀ (d : PyData) (v : V) (u : Value), Dq X.K H v d → RelV v u → ∃ as, Reads s.heap u d as ∧ sysModules ∉ as
  | .none, _, _, h, r => by
    cases h; cases r
    exact ⟨_, Reads.none, by simp⟩
  | .bool b, _, _, h, r => by
    cases h; cases r
    exact ⟨_, Reads.bool b, by simp⟩
  | .int i, _, _, h, r => by
    cases h
    obtain ⟨t, rfl⟩ := r
    exact ⟨_, Reads.int i t, by simp⟩
  | .str x, _, _, h, r => by
    cases h
    obtain ⟨t, rfl⟩ := r
    exact ⟨_, Reads.str x t, by simp⟩
  | .list ds, _, _, h, r => by
    cases h with
    | @lst a _ _ hq ha =>
      cases r
      obtain ⟨its, rv, ⟨o, n, ho, hc, _, hd⟩, _⟩ := I.list hq
      obtain ⟨as, hr, hn⟩ := Dq.readsAll I hs ds _ its ha rv
      refine ⟨_, Reads.list ho hc hd hr, fun hm => ?_⟩
      rcases List.mem_cons.mp hm with e | hm
      · obtain ⟨o2, l2, c2⟩ := hs
        have e2 := I.kIn _ _ l2
        rw [e, ho] at e2
        cases e2
        rw [hc] at c2
        injection c2 with c2
        exact absurd c2 (by decide)
      · exact hn hm
  | .tuple ds, _, _, h, r => by
    cases h with
    | tup hq ha =>
      cases r
      obtain ⟨its, rv, ⟨o, ho, hc, n, hd⟩, _⟩ := I.tuple hq
      obtain ⟨as, hr, hn⟩ := Dq.readsAll I hs ds _ its ha rv
      exact ⟨_, Reads.tuple ho hc hd hr, hn⟩
  | .dict ds, _, _, h, r => by
    cases h with
    | @dct a kvs _ hq ha =>
      cases r
      obtain ⟨_, hm, vs, rel, o, es, ep, ho, he, hd, _, hp, _⟩ := dk_rd I.hok hq
      obtain ⟨as, hr, hn⟩ := Dq.readsK I hs ds _ vs ha rel
      have k1 := reads_keys (h := s.heap) hp
      have k2 : vs.map (fun p => kPy p.1) = ds.map (·.1) := Dq.keysK ha rel
      rw [k2] at k1
      rw [← pairs_vals hp] at hr
      refine ⟨_, Reads.dict ho he.1 hd k1 hr, fun hm2 => ?_⟩
      simp only [List.append_nil, List.cons_append, List.nil_append, List.mem_cons] at hm2
      rcases hm2 with e | hm2
      · exact (beq_eq_false_iff_ne.mp hm) e.symm
      · exact hn hm2
theorem Dq.readsAll (I : Inv X pins σ H s) (hs : SysK X.K) : ∀ (ds : List PyData) (vs : List V) (us : List Value), DqAll X.K H vs ds → Vals vs us → ∃ as, ReadsAll s.heap us ds as ∧ sysModules ∉ as
  | [], _, _, h, r => by
    cases h; cases r
    exact ⟨_, ReadsAll.nil, by simp⟩
  | d :: ds, _, _, h, r => by
    cases h with
    | cons h1 h2 =>
      cases r with
      | cons r1 r2 =>
        obtain ⟨as, q1, n1⟩ := Dq.reads I hs d _ _ h1 r1
        obtain ⟨bs, q2, n2⟩ := Dq.readsAll I hs ds _ _ h2 r2
        exact ⟨_, ReadsAll.cons q1 q2, fun hm => (List.mem_append.mp hm).elim n1 n2⟩
theorem Dq.readsK (I : Inv X pins σ H s) (hs : SysK X.K) : ∀ (ds : List (PyData × PyData)) (vs : List (Key × V)) (us : List (Key × Value)), DqK X.K H vs ds → KV vs us → ∃ as, ReadsAll s.heap (us.map (·.2)) (ds.map (·.2)) as ∧ sysModules ∉ as
  | [], _, _, h, r => by
    cases h; cases r
    exact ⟨_, ReadsAll.nil, by simp⟩
  | (k, d) :: ds, _, _, h, r => by
    cases h with
    | cons h1 h2 =>
      cases r with
      | @cons _ q _ us r1 r2 =>
        obtain ⟨k', v'⟩ := q
        obtain ⟨as, q1, n1⟩ := Dq.reads I hs d _ _ h1 r1.2
        obtain ⟨bs, q2, n2⟩ := Dq.readsK I hs ds _ _ h2 r2
        exact ⟨_, ReadsAll.cons q1 q2, fun hm => (List.mem_append.mp hm).elim n1 n2⟩
theorem Dq.keysK : ∀ {ds : List (PyData × PyData)} {vs : List (Key × V)} {us : List (Key × Value)}, DqK X.K H vs ds → KV vs us → us.map (fun p => kPy p.1) = ds.map (·.1)
  | [], _, _, h, r => by
    cases h; cases r
    rfl
  | (k, d) :: ds, _, _, h, r => by
    cases h with
    | cons h1 h2 =>
      cases r with
      | @cons _ q _ us r1 r2 =>
        obtain ⟨k', v'⟩ := q
        rw [List.map_cons, List.map_cons, Dq.keysK h2 r2]
        have := r1.1
        dsimp only at this ⊢
        rw [this]
end
def rReprQV (K : PySem.W.Frag) : List V → Hp → VK → Prop := fun vs H Q => ∃ x d, vs = [x] ∧ Dq K H x d ∧ d.showable = true ∧ d.depth ≤ 60 ∧ d.shown.length ≤ sizeLine ∧ Q (.str d.shown) H
theorem cr_reprQ (hs : SysK X.K) (hgd : X.A.guards = some []) (hu : X.A.units + 66 < cLine) : CallR X (.builtin "repr") (rReprQV X.K) := by
  intro pins s σ H xs us Q I r ⟨x, d, e, hd, h1, h3, h4, q⟩
  subst e
  obtain ⟨u, rfl, rx⟩ := vals1 r
  have fin : ∀ t s', (∃ h' tk, s' = { s with heap := h', toks := tk } ∧ ∀ b o, s.heap.get? b = some o → h'.get? b = some o) → EP X pins σ Q (.str d.shown t) s' := by
    rintro t s' ⟨h', tk, rfl, hk⟩
    exact ⟨.str d.shown, H, I.kept hk, ⟨t, rfl⟩, q⟩
  have byRef : ∀ a, u = .ref a → wpAny (model X.prog X.w) X.A (call (.builtin "repr") [u]) (EP X pins σ Q) X.xe s := by
    rintro a rfl
    obtain ⟨as, rd, hn⟩ := Dq.reads I hs d x _ hd rx
    exact repr_of_reads' rd h1 (fun _ => hn) hgd (by omega) (fun _ _ h => h) (fun h' t tk hk => fin t _ ⟨h', tk, rfl, hk⟩) h4
  cases hd with
  | non => cases rx; exact PySem.P.repr_of_none (fin _ _ ⟨s.heap, _, rfl, fun _ _ h => h⟩)
  | bl b => cases rx; exact PySem.P.repr_of_bool (fin _ _ ⟨s.heap, _, rfl, fun _ _ h => h⟩)
  | int i =>
    obtain ⟨t, rfl⟩ := rx
    exact PySem.P.repr_of_int (by simpa [PyData.showable] using h1) (fin _ _ ⟨s.heap, _, rfl, fun _ _ h => h⟩)
  | str y =>
    obtain ⟨t, rfl⟩ := rx
    exact PySem.P.repr_of_str (fin _ _ ⟨s.heap, _, rfl, fun _ _ h => h⟩) h4
  | lst _ _ => exact byRef _ (by cases rx; rfl)
  | tup _ _ => exact byRef _ (by cases rx; rfl)
  | dct _ _ => exact byRef _ (by cases rx; rfl)
end
mutual
/-- data, dicts among them, nested at most n deep -/
def Pq : D → Nat → Prop
  | .non, _ | .bl _, _ | .int _, _ | .str _, _ => True
  | .lst xs, n | .tup xs, n | .kt xs, n => match n with
    | 0 => False
    | m + 1 => PqL xs m
  | .dK kvs, n => match n with
    | 0 => False
    | m + 1 => PqK kvs m
  | .dT _, _ | .ty _, _ | .ref _, _ | .ins _ _, _ | .scr _, _ | .sK _, _ | .exc _ _ _ _, _ | .any _ _, _ => False
def PqL : List D → Nat → Prop
  | [], _ => True
  | d :: r, n => Pq d n ∧ PqL r n
def PqK : List (Key × D) → Nat → Prop
  | [], _ => True
  | (_, d) :: r, n => Pq d n ∧ PqK r n
end
theorem pqL_iff {n : Nat} : ∀ {xs : List D}, PqL xs n ↔ ∀ x ∈ xs, Pq x n
  | [] => by simp [PqL]
  | d :: r => by
    rw [PqL, pqL_iff (xs := r)]
    simp
theorem pqK_iff {n : Nat} : ∀ {xs : List (Key × D)}, PqK xs n ↔ ∀ x ∈ xs, Pq x.2 n
  | [] => by simp [PqK]
  | (k, d) :: r => by
    rw [PqK, pqK_iff (xs := r)]
    simp
mutual
theorem pq_of_pl {n : Nat} : ∀ {d : D}, Pl d n → Pq d n
  | .non, _ | .bl _, _ | .int _, _ | .str _, _ => by simp [Pq]
  | .lst xs, p => by
    cases n with
    | zero => simp [Pl] at p
    | succ n => simp only [Pl, Pq] at p ⊢; exact pqL_of_pl p
  | .tup xs, p => by
    cases n with
    | zero => simp [Pl] at p
    | succ n => simp only [Pl, Pq] at p ⊢; exact pqL_of_pl p
  | .kt xs, p => by
    cases n with
    | zero => simp [Pl] at p
    | succ n => simp only [Pl, Pq] at p ⊢; exact pqL_of_pl p
  | .dK _, p | .dT _, p | .ty _, p | .ref _, p | .ins _ _, p | .scr _, p | .sK _, p | .exc _ _ _ _, p | .any _ _, p => by simp [Pl] at p
theorem pqL_of_pl {n : Nat} : ∀ {ds : List D}, PlL ds n → PqL ds n
  | [], _ => by simp [PqL]
  | d :: r, p => by
    simp only [PlL, PqL] at p ⊢
    exact ⟨pq_of_pl p.1, pqL_of_pl p.2⟩
end
theorem kPy_depth (k : Key) : (kPy k).depth = 0 := by cases k <;> simp [kPy, PyData.depth]
mutual
theorem pq_depth {n : Nat} : ∀ {d : D}, Pq d n → (toPy d).depth ≤ n
  | .non, _ | .bl _, _ | .int _, _ | .str _, _ => by simp [toPy, PyData.depth]
  | .lst xs, p => by
    cases n with
    | zero => simp [Pq] at p
    | succ n =>
      simp only [Pq] at p
      have := pqL_depth p
      simp only [toPy, PyData.depth]; omega
  | .tup xs, p => by
    cases n with
    | zero => simp [Pq] at p
    | succ n =>
      simp only [Pq] at p
      have := pqL_depth p
      simp only [toPy, PyData.depth]; omega
  | .kt xs, p => by
    cases n with
    | zero => simp [Pq] at p
    | succ n =>
      simp only [Pq] at p
      have := pqL_depth p
      simp only [toPy, PyData.depth]; omega
  | .dK xs, p => by
    cases n with
    | zero => simp [Pq] at p
    | succ n =>
      simp only [Pq] at p
      have := pqK_depth p
      simp only [toPy, PyData.depth]; omega
  | .dT _, p | .ty _, p | .ref _, p | .ins _ _, p | .scr _, p | .sK _, p | .exc _ _ _ _, p | .any _ _, p => by simp [Pq] at p
theorem pqL_depth {n : Nat} : ∀ {ds : List D}, PqL ds n → PyData.depthAll (toPyL ds) ≤ n
  | [], _ => by simp [toPyL, PyData.depthAll]
  | d :: r, p => by
    simp only [PqL] at p
    have h1 := pq_depth p.1
    have h2 := pqL_depth p.2
    simp only [toPyL, PyData.depthAll]; omega
theorem pqK_depth {n : Nat} : ∀ {ds : List (Key × D)}, PqK ds n → PyData.depthKv (toPyK ds) ≤ n
  | [], _ => by simp [toPyK, PyData.depthKv]
  | (k, d) :: r, p => by
    simp only [PqK] at p
    have h1 := pq_depth p.1
    have h2 := pqK_depth p.2
    simp only [toPyK, PyData.depthKv, kPy_depth]; omega
end
section
variable {B : Bd} {G : GH} {H : Hp}
mutual
theorem rp_dq {n : Nat} : ∀ {d : D} {v : V}, Rp B G H d v → Pq d n → Dq B.K H v (toPy d)
  | .non, v, h, _ => by rw [h.non_inv]; exact .non
  | .bl b, v, h, _ => by rw [h.bl_inv]; exact .bl b
  | .int b, v, h, _ => by rw [h.int_inv]; exact .int b
  | .str b, v, h, _ => by rw [h.str_inv]; exact .str b
  | .lst xs, v, h, p => by
    cases n with
    | zero => simp [Pq] at p
    | succ n =>
      simp only [Pq] at p
      obtain ⟨a, vs, rfl, f, r⟩ := h.lst_inv
      exact .lst (SqL.of f.1) (rpL_dq r p)
  | .tup xs, v, h, p => by
    cases n with
    | zero => simp [Pq] at p
    | succ n =>
      simp only [Pq] at p
      obtain ⟨a, vs, rfl, f, r⟩ := h.tup_inv
      exact .tup (SqT.of f) (rpL_dq r p)
  | .kt xs, v, h, p => by
    cases n with
    | zero => simp [Pq] at p
    | succ n =>
      simp only [Pq] at p
      obtain ⟨a, vs, rfl, f, r⟩ := h.kt_inv
      exact .tup (.inr f) (rpL_dq r p)
  | .dK xs, v, h, p => by
    cases n with
    | zero => simp [Pq] at p
    | succ n =>
      simp only [Pq] at p
      unfold Rp at h
      obtain ⟨a, o, kvs, rfl, ⟨h1, _⟩, r⟩ := h
      exact .dct (.inr ⟨o, h1⟩) (rpK_dq (RpG.k.mp r) p)
  | .dT _, _, _, p | .ty _, _, _, p | .ref _, _, _, p | .ins _ _, _, _, p | .scr _, _, _, p | .sK _, _, _, p | .exc _ _ _ _, _, _, p | .any _ _, _, _, p => by simp [Pq] at p
theorem rpL_dq {n : Nat} : ∀ {ds : List D} {vs : List V}, RpL B G H ds vs → PqL ds n → DqAll B.K H vs (toPyL ds)
  | [], vs, h, _ => by rw [h.nil_inv]; exact .nil
  | d :: r, vs, h, p => by
    simp only [PqL] at p
    obtain ⟨v, q, rfl, f, g⟩ := h.uncons
    exact .cons (rp_dq f p.1) (rpL_dq g p.2)
theorem rpK_dq {n : Nat} : ∀ {ds : List (Key × D)} {vs : List (Key × V)}, RpG B G H ds vs → PqK ds n → DqK B.K H vs (toPyK ds)
  | [], vs, h, _ => by
    unfold RpG at h
    cases h; exact .nil
  | (k, d) :: r, vs, h, p => by
    simp only [PqK] at p
    unfold RpG at h
    cases h with
    | @cons _ q _ us h1 h2 =>
      obtain ⟨k', v'⟩ := q
      obtain ⟨e, h1⟩ := h1
      dsimp only at e h1
      subst e
      exact .cons (rp_dq h1 p.1) (rpK_dq h2 p.2)
end
theorem vD_dq {d : D} {v : V} {n : Nat} (w : Wd B G H) (r : Rp B G H d v) (p : Pq (vD G d) n) : Dq B.K H v (toPy (vD G d)) := by
  cases d with
  | ref a =>
    unfold vD at p ⊢
    dsimp only at p ⊢
    cases g : G a with
    | none => rw [g] at p; simp [Pq] at p
    | some c =>
      rw [g] at p
      cases c with
      | lst xs =>
        dsimp only at p ⊢
        obtain ⟨vs, h1, h2⟩ := w.cl a _ g
        cases n with
        | zero => simp [Pq] at p
        | succ n =>
          simp only [Pq] at p
          rw [r.ref_inv]
          exact .lst (SqL.of h1) (rpL_dq h2 p)
      | dK xs =>
        dsimp only at p ⊢
        obtain ⟨vs, h1, h2⟩ := w.cl a _ g
        cases n with
        | zero => simp [Pq] at p
        | succ n =>
          simp only [Pq] at p
          rw [r.ref_inv]
          exact .dct (.inl h1) (rpK_dq (RpG.k.mp h2) p)
      | _ => simp [Pq] at p
  | _ => exact rp_dq r p
end
/-- repr tells it -/
def okShowQ (G : GH) (d : D) : Prop := Pq (vD G d) 50 ∧ (toPy (vD G d)).showable = true ∧ (showD G d).length ≤ sizeLine
def rReprQ : RC := fun ds G Q => match ds with
  | [d] => okShowQ G d ∧ Q (.str (showD G d)) G
  | _ => False
theorem sim_reprQ {B : Bd} : SimC B rReprQ (rReprQV B.K) := by
  intro F W σ H Q τ G QT' ET ds vs p r h
  unfold rReprQ at h
  split at h
  · obtain ⟨v, rfl, r1⟩ := r.inv1
    obtain ⟨⟨h1, h2, h3⟩, h4⟩ := h
    have := pq_depth h1
    exact ⟨v, toPy (vD G _), rfl, (vD_dq (B := B.hide F) p.wd r1 h1 : Dq (B.hide F).K H v _), h2, by omega, h3, p.str h4⟩
  · exact h.elim
def eReprQ (ta : A1) : E1 := eB rReprQ ta
section
variable {X : Cx} {W : WX} {p pos : Pos} {e : Expr} {es : List Expr} {ta : A1}
theorem qe_reprQ (hs : SysK X.K) (cn : Cn X W) (hu : X.A.units + 66 < cLine) (ha : QA X W (e :: es) ta) (he : starEach (e :: es) X.env = (false, eval e X.env) :: starEach es X.env) (hpl : (backTo pos (starEach es X.env)).any (·.1) = false) (hg : Gl X "repr") (hm : X.mg "repr" = none) :
    QE X W (.Call (.Name "repr" p) (e :: es) [] pos) (eReprQ ta) := qe_bi sim_reprQ (cr_reprQ hs cn.grd hu) hg hm (by rfl) ha (he := he) (hpl := hpl)
end
/-! ### methods called with keywords -/
/-- positional ones, then the keywords' at the places ix -/
def gP {α : Type} (ix : List Nat) (us ws : List α) : List α := us ++ ix.filterMap fun i => ws[i]?
theorem vals_gP {ix : List Nat} {vs zs : List V} {us ws : List Value} (r : Vals vs us) (q : Vals zs ws) : Vals (gP ix vs zs) (gP ix us ws) := by
  refine r.append ?_
  induction ix with
  | nil => exact .nil
  | cons i l ih =>
    rw [List.filterMap_cons, List.filterMap_cons]
    cases e : zs[i]? with
    | none => rw [q.none_of e]; exact ih
    | some x =>
      obtain ⟨u, e2, rx⟩ := q.get e
      rw [e2]
      exact .cons rx ih
theorem rpL_gP {B : Bd} {G : GH} {H : Hp} {ix : List Nat} {ds es : List D} {vs zs : List V} (r : RpL B G H ds vs) (q : RpL B G H es zs) : RpL B G H (gP ix ds es) (gP ix vs zs) := by
  refine RpL.app r ?_
  induction ix with
  | nil => exact RpL.nil
  | cons i l ih =>
    rw [List.filterMap_cons, List.filterMap_cons]
    cases e : es[i]? with
    | none =>
      have : zs[i]? = none := by
        rw [List.getElem?_eq_none_iff] at e ⊢
        rw [q.length]; exact e
      rw [this]; exact ih
    | some x =>
      obtain ⟨u, e2, rx⟩ := q.get e
      rw [e2]
      exact RpL.cons rx ih
theorem kbn_perm {K : PySem.W.Frag} {x qual : Str} {params : Arguments} {body : List Stmt} {scope : Scope} {kws : List (Str × V)} {f : Addr} {fd : FuncData} {ps : List Str} (F : FunD K x qual params body scope [] kws f fd) (n : Nat) (ks : List Str) (ix : List Nat)
    (h : ∀ (kV doc pm : Value) (an : Option Addr) (cdv ct : Value) (us ws : List Value), us.length = n → ws.length = ks.length → bindArgs (PySem.W.fnOf x qual params body scope .none kV doc pm an cdv ct) ⟨us, ks.zip ws⟩ = pure (ps.zip (gP ix us ws))) : KBn K fd ps n ks (gP ix) (gP ix) := by
  obtain ⟨oc, od, dV, kV, doc, pm, an, cdv, ct, osl, rfl, lk, hcd, hD, hK⟩ := F.ex
  rcases hD with ⟨_, rfl⟩ | ⟨e, _⟩
  · exact ⟨fun s us ws _ l1 l2 => .of_eq (h kV doc pm an cdv ct us ws l1 l2), vals_gP⟩
  · exact absurd rfl e
def CalMK (P : Program) (w : World) (K : PySem.W.Frag) (mg : Str → Option Value) (base : Heap) (C : Addr) (m : Str) (k : Nat) (ps : List Str) (n : Nat) (ks : List Str) (ix : List Nat) (sp : SpT) : Prop :=
  ∃ f fd, Meth K C m f ∧ KBn K fd ps (n + 1) ks (gP ix) (gP ix) ∧ FnG P w K mg base k f fd ps sp
theorem CalMK.imp {P : Program} {w : World} {K : PySem.W.Frag} {mg : Str → Option Value} {base : Heap} {C : Addr} {m : Str} {k n : Nat} {ps ks : List Str} {ix : List Nat} {sp sp' : SpT} (c : CalMK P w K mg base C m k ps n ks ix sp) (h : ∀ ds G Q E, sp' ds G Q E → sp ds G Q E) : CalMK P w K mg base C m k ps n ks ix sp' := by
  obtain ⟨f, fd, h1, h2, h4⟩ := c
  exact ⟨f, fd, h1, h2, h4.imp h⟩
def eMethK (C : Addr) (m : Str) (n mk : Nat) (sp : SpT) (ix : List Nat) (to : E1) (t tk : A1) : E1 := fun τ G Q E => to τ G (fun x G1 => match vI G1 x with
  | some (C', fs) => C' = C ∧ getK fs m = none ∧ t τ G1 (fun ds G2 => tk τ G2 (fun es G3 => ds.length = n ∧ es.length = mk ∧ sp (gP ix (x :: ds) es) G3 Q E) E) E
  | none => False) E
section
variable {X : Cx} {W : WX} {k n : Nat} {C : Addr} {ps ks : List Str} {ix : List Nat} {sp : SpT} {m : Str} {pos apos : Pos} {e o : Expr} {es : List Expr} {kws : List Keyword} {to : E1} {t tk : A1}
theorem qc_methK {pl : Sem Bool} (he : QE X W o to) (c : Cls X.K C) (b : CalMK X.prog X.w X.K X.mg X.base C m k ps n ks ix sp) (cn : Cn X W) (hr : Room k X.A) (ha : QA X W (e :: es) t) (hkw : QK X W kws tk)
    (hall : (backToKw pos (keywordEach kws X.env)).all (·.1.isSome) = true := by rfl) (hks : (backToKw pos (keywordEach kws X.env)).filterMap (·.1) = ks := by rfl)
    (hst : starEach (e :: es) X.env = (false, eval e X.env) :: starEach es X.env := by rfl)
    (hpl : ((backTo pos (starEach (e :: es) X.env)).any (·.1) || (backToKw pos (keywordEach kws X.env)).any (·.1.isNone)) = false := by rfl)
    (ht : eval (.Call (.Attribute o m apos) (e :: es) kws pos) X.env = (do
      let ov ← eval o X.env
      standAt apos.atName
      let (g, first) ← holding [ov] (getMethod ov m pl)
      callWith pos g first (backTo pos (starEach (e :: es) X.env)) (backToKw pos (keywordEach kws X.env))) := by rfl) :
    QE X W (.Call (.Attribute o m apos) (e :: es) kws pos) (eMethK C m n ks.length sp ix to t tk) := by
  obtain ⟨f, fd, hm, hb, F⟩ := b
  refine ⟨fun pins s σ H Q I ⟨Fh, τ, G, QT', ET, P, q⟩ => ?_⟩
  refine PySem.W.methodCall_KW (pl := pl) (thn (he.run pins s σ H (fun v H1 => ∃ a dx fs, v = .ref a ∧ H1 a = some (.ins C dx fs) ∧ fs.lookup m = none ∧ LA (bd X) W t σ H1 (fun vs H2 => LA (bd X) W tk σ H2 (fun zs H3 => vs.length = n ∧ zs.length = ks.length ∧ LSp (bd X) sp (gP ix (v :: vs) zs) H3 Q (fun c d H' => W c d σ H')))) I ?_) fun u s1 ⟨x, H1, I1, rx, a, dx, fs, ex, ea, l, q⟩ => ?_) ht
  · refine LE.bind (PT := P) (k := fun x τ G1 Q E => match vI G1 x with
      | some (C', fs) => C' = C ∧ getK fs m = none ∧ t τ G1 (fun ds G2 => tk τ G2 (fun es G3 => ds.length = n ∧ es.length = ks.length ∧ sp (gP ix (x :: ds) es) G3 Q E) E) E
      | none => False) q fun v x G1 H1 p1 r1 s1 q1 => ?_
    split at q1
    · rename_i C' fs ei
      obtain ⟨rfl, q2, q3⟩ := q1
      obtain ⟨a, dx, vs, rfl, h1, h2⟩ := vI_ok p1.wd r1 ei
      refine ⟨a, dx, vs, rfl, h1, (lookup_valV m vs).trans (h2.none q2), ?_⟩
      refine LA.bind (P := p1) (k := fun ds G2 Q E => tk _ G2 (fun es G3 => ds.length = n ∧ es.length = ks.length ∧ sp (gP ix (x :: ds) es) G3 Q E) E) q3 fun vs ds G2 H2 p2 r2 s2 q4 => ?_
      refine LA.bind (P := p2) (k := fun es G3 Q E => ds.length = n ∧ es.length = ks.length ∧ sp (gP ix (x :: ds) es) G3 Q E) q4 fun zs es G3 H3 p3 r3 s3 q5 => ?_
      have rx2 := (r1.step p1.wd s2).step p2.wd s3
      exact ⟨r2.length.trans q5.1, r3.length.trans q5.2.1, p3.lsp (rpL_gP (RpL.cons rx2 (r2.step p2.wd s3)) r3) q5.2.2⟩
    · exact q1.elim
  · subst ex
    obtain rfl : u = Value.ref a := rx
    refine getmeth_ok I1 ea c hm l ?_
    refine PySem.W.callWith_KW (first := [.ref a]) (h₀ := X.base) I.ok.mod.kin hm.kp hall (thn (ha.run pos pins s1 σ H1 _ I1 q) fun us s2 ⟨vs, H2, I2, r, q2⟩ => ?_) hpl hst
    refine thn (hkw.run pos pins s2 σ H2 _ I2 q2) fun ws s3 ⟨zs, H3, I3, rz, l1, l2, q3⟩ => ⟨I3.kIn, ?_⟩
    rw [hks]
    exact run_gK (us := .ref a :: us) (vs := .ref a :: vs) F cn hr hb I3 (.cons rfl r) rz (by rw [List.length_cons, l1]) l2 q3
theorem qc_methK0 {pl : Sem Bool} (he : QE X W o to) (c : Cls X.K C) (b : CalMK X.prog X.w X.K X.mg X.base C m k ps 0 ks ix sp) (cn : Cn X W) (hr : Room k X.A) (hkw : QK X W kws tk)
    (hall : (backToKw pos (keywordEach kws X.env)).all (·.1.isSome) = true := by rfl) (hks : (backToKw pos (keywordEach kws X.env)).filterMap (·.1) = ks := by rfl)
    (hpl : ((backTo pos (starEach [] X.env)).any (·.1) || (backToKw pos (keywordEach kws X.env)).any (·.1.isNone)) = false := by rfl)
    (ht : eval (.Call (.Attribute o m apos) [] kws pos) X.env = (do
      let ov ← eval o X.env
      standAt apos.atName
      let (g, first) ← holding [ov] (getMethod ov m pl)
      callWith pos g first (backTo pos (starEach [] X.env)) (backToKw pos (keywordEach kws X.env))) := by rfl) :
    QE X W (.Call (.Attribute o m apos) [] kws pos) (eMethK C m 0 ks.length sp ix to aNil tk) := by
  obtain ⟨f, fd, hm, hb, F⟩ := b
  refine ⟨fun pins s σ H Q I ⟨Fh, τ, G, QT', ET, P, q⟩ => ?_⟩
  refine PySem.W.methodCall_KW (pl := pl) (thn (he.run pins s σ H (fun v H1 => ∃ a dx fs, v = .ref a ∧ H1 a = some (.ins C dx fs) ∧ fs.lookup m = none ∧ LA (bd X) W tk σ H1 (fun zs H3 => zs.length = ks.length ∧ LSp (bd X) sp (gP ix [v] zs) H3 Q (fun c d H' => W c d σ H'))) I ?_) fun u s1 ⟨x, H1, I1, rx, a, dx, fs, ex, ea, l, q⟩ => ?_) ht
  · refine LE.bind (PT := P) (k := fun x τ G1 Q E => match vI G1 x with
      | some (C', fs) => C' = C ∧ getK fs m = none ∧ aNil τ G1 (fun ds G2 => tk τ G2 (fun es G3 => ds.length = 0 ∧ es.length = ks.length ∧ sp (gP ix (x :: ds) es) G3 Q E) E) E
      | none => False) q fun v x G1 H1 p1 r1 s1 q1 => ?_
    split at q1
    · rename_i C' fs ei
      obtain ⟨rfl, q2, q3⟩ := q1
      obtain ⟨a, dx, vs, rfl, h1, h2⟩ := vI_ok p1.wd r1 ei
      refine ⟨a, dx, vs, rfl, h1, (lookup_valV m vs).trans (h2.none q2), ?_⟩
      refine LA.bind (P := p1) (k := fun es G3 Q E => ([] : List D).length = 0 ∧ es.length = ks.length ∧ sp (gP ix [x] es) G3 Q E) q3 fun zs es G3 H3 p3 r3 s3 q5 => ?_
      exact ⟨r3.length.trans q5.2.1, p3.lsp (rpL_gP (RpL.one (r1.step p1.wd s3)) r3) q5.2.2⟩
    · exact q1.elim
  · subst ex
    obtain rfl : u = Value.ref a := rx
    refine getmeth_ok I1 ea c hm l ?_
    refine PySem.W.callWith_KW0 (first := [.ref a]) (h₀ := X.base) I.ok.mod.kin hm.kp hall (thn (hkw.run pos pins s1 σ H1 _ I1 q) fun ws s3 ⟨zs, H3, I3, rz, l2, q3⟩ => ⟨I3.kIn, ?_⟩) hpl
    rw [hks]
    exact run_gK (us := [.ref a]) (vs := [.ref a]) F cn hr hb I3 (.cons rfl .nil) rz rfl l2 q3
end
end TL
end
section
/-! TL18: a dict is not equal to what is no dict. -/
namespace PySem.SeqAt
open AutoSeq1 (wpAny_loadPart')
open MeetsSeq
section
variable {A : Around} {s : Shared}
/-- a plain dict stands at a -/
def IsDct (h : Heap) (a : Addr) : Prop := ∃ es ep, h.get? a = some { cls := .type "dict", dict := none, data := .dict es ep, slots := #[] }
theorem dct_declines {prog : Program} {w : World} {E : Value → Shared → Prop} {a : Addr} {v : Value} {T : String} (da : IsDct s.heap a) (hv : s.TypeIs v T) (hsub : isSubtype (.type T) (.type "dict") = pure false) (Q : Value → Shared → Prop) (hq : Q .notImplemented s) :
    wpAny (model prog w) A (call (.builtin "dict.__eq__") [.ref a, v]) Q E s := by
  obtain ⟨es, ep, ho⟩ := da
  have ta : s.TypeIs (.ref a) "dict" := ⟨_, ho, rfl⟩
  refine wpAny_call_entry PySem.F.slot_dict_eq ta PySem.F.entry_dict_eq ?_ (PySem.F.args_dict_eq_2 _ _)
  show wpAny _ _ (Builtin.Dict.dictSlotArgs "__eq__" ⟨[.ref a, v], []⟩ >>= _) _ _ s
  refine wpAny_bind ?_
  unfold Builtin.Dict.dictSlotArgs
  refine wpAny_bind (wpAny_notOrdered_dict ta ?_)
  show wpAny _ _ (pure (Value.ref a, v)) _ _ s
  refine wpAny_pure ?_
  refine wpAny_bind (wpAny_isInstance (T := T) hv hsub ?_)
  simp only [Bool.not_false, if_true]
  refine wpAny_bind (wpAny_rule ?_)
  show wpAny _ _ (pure (Fin.done (.ret Value.notImplemented))) _ _ _
  exact wpAny_pure ⟨_, rfl, hq⟩
theorem none_eq_dct (l : Addr) : Gives (Builtin.«NoneType.__eq__» ⟨[.none, .ref l], []⟩) (.val (Value.notImplemented)) := NoneType___eq___none_ref_0 l
theorem int_eq_dct_b (b : Bool) (l : Addr) (es : Array DictEntry) (n : Nat) :
    Meets (Builtin.«int.__eq__» ⟨[.bool b, .ref l], []⟩) (fun _ R s => s.heap.get? l = some { cls := .type "dict", dict := none, data := .dict es n, slots := #[] } ∧ R (.ok (.ret .notImplemented)) s) :=
  .of_wp fun prog w A R s h => by obtain ⟨hp, g, d, tk, os⟩ := s; obtain ⟨hl, h⟩ := h; wp_walk using wpAny_loadPart' hl, wpAny_load hl; exact ⟨_, rfl, h⟩
theorem int_eq_dct (b : Int) (u : Tok) (l : Addr) (es : Array DictEntry) (n : Nat) :
    Meets (Builtin.«int.__eq__» ⟨[.int b u, .ref l], []⟩) (fun _ R s => s.heap.get? l = some { cls := .type "dict", dict := none, data := .dict es n, slots := #[] } ∧ R (.ok (.ret .notImplemented)) s) :=
  .of_wp fun prog w A R s h => by obtain ⟨hp, g, d, tk, os⟩ := s; obtain ⟨hl, h⟩ := h; wp_walk using wpAny_loadPart' hl, wpAny_load hl; exact ⟨_, rfl, h⟩
theorem str_eq_dct (b : Str) (u : Tok) (l : Addr) (es : Array DictEntry) (n : Nat) :
    Meets (Builtin.«str.__eq__» ⟨[.str b u, .ref l], []⟩) (fun _ R s => s.heap.get? l = some { cls := .type "dict", dict := none, data := .dict es n, slots := #[] } ∧ R (.ok (.ret .notImplemented)) s) :=
  .of_wp fun prog w A R s h => by obtain ⟨hp, g, d, tk, os⟩ := s; obtain ⟨hl, h⟩ := h; wp_walk using wpAny_loadPart' hl, wpAny_load hl; exact ⟨_, rfl, h⟩
theorem list_eq_dct (l b : Addr) (items : Array Value) (es : Array DictEntry) (n n2 : Nat) (dd : Option Addr) (sl : Array (Option Value)) :
    Meets (Builtin.«list.__eq__» ⟨[.ref l, .ref b], []⟩) (fun _ R s => s.heap.get? l = some { cls := .type "list", dict := dd, data := .seq items n, slots := sl } ∧ s.heap.get? b = some { cls := .type "dict", dict := none, data := .dict es n2, slots := #[] } ∧ R (.ok (.ret .notImplemented)) s) :=
  .of_wp fun prog w A R s h => by obtain ⟨hp, g, d, tk, os⟩ := s; obtain ⟨hl, hb, h⟩ := h; have f1 := F.sub_dict_list; wp_walk using wpAny_loadPart' hl, wpAny_loadPart' hb; exact ⟨_, rfl, h⟩
theorem tuple_eq_dct (l b : Addr) (items : Array Value) (es : Array DictEntry) (n n2 : Nat) (dd : Option Addr) (sl : Array (Option Value)) :
    Meets (Builtin.«tuple.__eq__» ⟨[.ref l, .ref b], []⟩) (fun _ R s => s.heap.get? l = some { cls := .type "tuple", dict := dd, data := .seq items n, slots := sl } ∧ s.heap.get? b = some { cls := .type "dict", dict := none, data := .dict es n2, slots := #[] } ∧ R (.ok (.ret .notImplemented)) s) :=
  .of_wp fun prog w A R s h => by obtain ⟨hp, g, d, tk, os⟩ := s; obtain ⟨hl, hb, h⟩ := h; have f1 := F.sub_dict_tuple; wp_walk using wpAny_loadPart' hl, wpAny_loadPart' hb; exact ⟨_, rfl, h⟩
/-- what is no dict: its type, and that its own == knows no dicts -/
structure Lone (A : Around) (s : Shared) (b : Addr) (v : Value) : Prop where
  ty : ∃ T id, s.TypeIs v T ∧ (Value.type T != Value.type "dict") = true ∧ (Value.type "dict" != Value.type T) = true ∧ isSubtype (.type "dict") (.type T) = pure false ∧ isSubtype (.type T) (.type "dict") = pure false ∧ Slot T (cmpInfo .Eq).2.1 id ∧ Slot T (cmpInfo .Eq).2.2 id ∧
    ∀ (prog : Program) (w : World) (E Q : Value → Shared → Prop), Q .notImplemented s → wpAny (model prog w) A (call (.builtin id) [v, .ref b]) Q E s
  s1 : ∀ (prog : Program) (w : World) (E : Value → Shared → Prop) (Q : Bool → Shared → Prop), Q false s → wpAny (model prog w) A (isSame v (.ref b)) Q E s
  s2 : ∀ (prog : Program) (w : World) (E : Value → Shared → Prop) (Q : Bool → Shared → Prop), Q false s → wpAny (model prog w) A (isSame (.ref b) v) Q E s
  ne : v ≠ .ref b
theorem RcAt.lone_dct {v : Value} {b : Addr} (hb : IsDct s.heap b) (hu : A.units < cLine) (h : Lone A s b v) : RcAt A s v (.ref b) false := fun prog w E Q q => by
  obtain ⟨T, id, h1, h2, h3, h4, h5, h6, h7, h8⟩ := h.ty
  exact rc_eq_decline_or (k := false) h1 (by obtain ⟨es, ep, ho⟩ := hb; exact ⟨_, ho, rfl⟩) h2 h4 h6 PySem.F.slot_dict_eq_refl (fun Q' hq => h8 prog w E Q' hq) (fun Q' hq => dct_declines hb h1 h5 Q' hq) (fun Q' hq => h.s1 prog w E Q' hq) (.inr hu) q
theorem RcAt.dct_lone {v : Value} {b : Addr} (hb : IsDct s.heap b) (hu : A.units < cLine) (h : Lone A s b v) : RcAt A s (.ref b) v false := fun prog w E Q q => by
  obtain ⟨T, id, h1, h2, h3, h4, h5, h6, h7, h8⟩ := h.ty
  exact rc_eq_decline_or (k := false) (by obtain ⟨es, ep, ho⟩ := hb; exact ⟨_, ho, rfl⟩) h1 h3 h5 PySem.F.slot_dict_eq h7 (fun Q' hq => dct_declines hb h1 h5 Q' hq) (fun Q' hq => h8 prog w E Q' hq) (fun Q' hq => h.s2 prog w E Q' hq) (.inr hu) q
theorem EqAt.of_rcR {v : Value} {b : Addr} {k : Bool} (hne : v ≠ .ref b) (h : RcAt A s v (.ref b) k) : EqAt A s v (.ref b) k := fun prog w E Q hq => by
  unfold eqBool
  refine wpAny_holding ?_
  refine wpAny_ite_split (fun hab => absurd (eq_of_beq hab) hne) (fun _ => ?_)
  cases v <;> exact wpAny_bind (h prog w E _ (wpAny_truthy_bool hq))
theorem EqAt.of_rcL {v : Value} {b : Addr} {k : Bool} (hne : v ≠ .ref b) (h : RcAt A s (.ref b) v k) : EqAt A s (.ref b) v k := fun prog w E Q hq => by
  unfold eqBool
  refine wpAny_holding ?_
  refine wpAny_ite_split (fun hab => absurd (eq_of_beq hab).symm hne) (fun _ => ?_)
  cases v <;> exact wpAny_bind (h prog w E _ (wpAny_truthy_bool hq))
theorem lone_none {b : Addr} : Lone A s b .none where
  ty := ⟨"NoneType", _, rfl, by decide, by decide, F.sub_dict_NoneType, F.sub_NoneType_dict, F.slot_NoneType_eq, F.slot_NoneType_eq_refl, fun prog w E Q hq => call_gives F.slot_NoneType_eq rfl F.entry_NoneType_eq (F.args_NoneType_eq_2 _ _) (none_eq_dct b) hq⟩
  s1 := fun _ _ _ _ hq => wpAny_of_eq (rfl : isSame .none (.ref b) = pure false) hq
  s2 := fun _ _ _ _ hq => wpAny_of_eq (rfl : isSame (.ref b) .none = pure false) hq
  ne := nofun
theorem lone_bool {b : Addr} (hb : IsDct s.heap b) (x : Bool) : Lone A s b (.bool x) where
  ty := ⟨"bool", _, rfl, by decide, by decide, F.sub_dict_bool, F.sub_bool_dict, F.slot_bool_eq, F.slot_bool_eq_refl, fun prog w E Q hq => by
    obtain ⟨es, ep, ho⟩ := hb
    exact call_meets F.slot_bool_eq rfl F.entry_int_eq (F.args_int_eq_2 _ _) (int_eq_dct_b x b es ep) ⟨ho, hq⟩⟩
  s1 := fun _ _ _ _ hq => wpAny_of_eq (rfl : isSame (.bool x) (.ref b) = pure false) hq
  s2 := fun _ _ _ _ hq => wpAny_of_eq (rfl : isSame (.ref b) (.bool x) = pure false) hq
  ne := nofun
theorem lone_int {b : Addr} (hb : IsDct s.heap b) (x : Int) (t : Tok) : Lone A s b (.int x t) where
  ty := ⟨"int", _, typeIs_int s x t, by decide, by decide, F.sub_dict_int, F.sub_int_dict, F.slot_int_eq, F.slot_int_eq_refl, fun prog w E Q hq => by
    obtain ⟨es, ep, ho⟩ := hb
    exact call_meets F.slot_int_eq (typeIs_int s x t) F.entry_int_eq (F.args_int_eq_2 _ _) (int_eq_dct x t b es ep) ⟨ho, hq⟩⟩
  s1 := fun _ _ _ _ hq => wpAny_of_eq (rfl : isSame (.int x t) (.ref b) = pure false) hq
  s2 := fun _ _ _ _ hq => wpAny_of_eq (rfl : isSame (.ref b) (.int x t) = pure false) hq
  ne := nofun
theorem lone_str {b : Addr} (hb : IsDct s.heap b) (x : Str) (t : Tok) : Lone A s b (.str x t) where
  ty := ⟨"str", _, typeIs_str s x t, by decide, by decide, F.sub_dict_str, F.sub_str_dict, F.slot_str_eq, F.slot_str_eq_refl, fun prog w E Q hq => by
    obtain ⟨es, ep, ho⟩ := hb
    exact call_meets F.slot_str_eq (typeIs_str s x t) F.entry_str_eq (F.args_str_eq_2 _ _) (str_eq_dct x t b es ep) ⟨ho, hq⟩⟩
  s1 := fun _ _ _ _ hq => wpAny_of_eq (rfl : isSame (.str x t) (.ref b) = pure false) hq
  s2 := fun _ _ _ _ hq => wpAny_of_eq (rfl : isSame (.ref b) (.str x t) = pure false) hq
  ne := nofun
theorem lone_list {b l : Addr} {items : Array Value} (hb : IsDct s.heap b) (hl : s.heap.IsList l items) : Lone A s b (.ref l) := by
  obtain ⟨⟨cls, dd, data, sl⟩, ho, hc, n, hd⟩ := id hl
  simp only at hc hd
  subst hc hd
  obtain ⟨es, ep, hb'⟩ := id hb
  have hne : l ≠ b := fun e => by rw [e, hb'] at ho; simp at ho
  exact {
    ty := ⟨"list", _, ⟨_, ho, rfl⟩, by decide, by decide, F.sub_dict_list, F.sub_list_dict, F.slot_list_eq, F.slot_list_eq_refl, fun prog w E Q hq => call_meets F.slot_list_eq ⟨_, ho, rfl⟩ F.entry_list_eq (F.args_list_eq_2 _ _) (list_eq_dct l b items es n ep dd sl) ⟨ho, hb', hq⟩⟩
    s1 := fun _ _ _ _ hq => wpAny_isSame_ref_other hne ho hb' (by simp) hq
    s2 := fun _ _ _ _ hq => wpAny_isSame_ref_other hne.symm hb' ho (by simp) hq
    ne := fun e => hne (by injection e) }
theorem lone_tuple {b l : Addr} {items : Array Value} (hb : IsDct s.heap b) (hl : s.heap.IsTuple l items) : Lone A s b (.ref l) := by
  obtain ⟨⟨cls, dd, data, sl⟩, ho, hc, n, hd⟩ := id hl
  simp only at hc hd
  subst hc hd
  obtain ⟨es, ep, hb'⟩ := id hb
  have hne : l ≠ b := fun e => by rw [e, hb'] at ho; simp at ho
  exact {
    ty := ⟨"tuple", _, ⟨_, ho, rfl⟩, by decide, by decide, F.sub_dict_tuple, F.sub_tuple_dict, F.slot_tuple_eq, F.slot_tuple_eq_refl, fun prog w E Q hq => call_meets F.slot_tuple_eq ⟨_, ho, rfl⟩ F.entry_tuple_eq (F.args_tuple_eq_2 _ _) (tuple_eq_dct l b items es n ep dd sl) ⟨ho, hb', hq⟩⟩
    s1 := fun _ _ _ _ hq => wpAny_isSame_ref_other' hne ho hb' (by simp) hq
    s2 := fun _ _ _ _ hq => wpAny_isSame_ref_other hne.symm hb' ho (by simp) hq
    ne := fun e => hne (by injection e) }
theorem lone_reads {b : Addr} (hb : IsDct s.heap b) {v : Value} {d : PyData} {as : List Addr} (r : Reads s.heap v d as) (hd : d.hasDict = false) : Lone A s b v := by
  cases r with
  | none => exact lone_none
  | bool x => exact lone_bool hb x
  | int i t => exact lone_int hb i t
  | str x t => exact lone_str hb x t
  | list h1 h2 h3 h4 => exact lone_list hb ⟨_, h1, h2, _, h3⟩
  | tuple h1 h2 h3 h4 => exact lone_tuple hb ⟨_, h1, h2, _, h3⟩
  | dict h1 h2 h3 h4 h5 => simp [PyData.hasDict] at hd
end
end PySem.SeqAt
end
section
/-! TL18b: x in xs where x may be a dict; d == e where one is a dict and the other is none. -/
namespace TL
open PySem PySem.Spec L2
theorem isDct_rd {X : Cx} {pins : List (Addr × Obj)} {σ : L2.St} {H : Hp} {s : Shared} {a : Addr} {kvs : List (Key × V)} (I : Inv X pins σ H s) (h : Rd H a (.dK kvs)) : SeqAt.IsDct s.heap a := by
  obtain ⟨_, _, vs, _, ob, es, ep, h1, h2, h3, _⟩ := dk_rd I.hok h
  obtain ⟨c, d, dt, sl⟩ := ob
  obtain ⟨e1, e2, e3⟩ := h2
  simp only at e1 e2 e3 h3
  subst e1 e2 e3 h3
  exact ⟨es, ep, h1⟩
theorem dpAll_mem {X : Cx} {pins : List (Addr × Obj)} {σ : L2.St} {H : Hp} {s : Shared} (I : Inv X pins σ H s) : ∀ {ds : List PyData} {vs : List V} {us : List Value}, DpAll X.K H vs ds → Vals vs us → ∀ u ∈ us, ∃ d as, d ∈ ds ∧ Reads s.heap u d as
  | [], _, _, h, r, u, hu => by cases h; cases r; cases hu
  | d :: ds, _, _, h, r, u, hu => by
    cases h with
    | cons h1 h2 =>
      cases r with
      | cons r1 r2 =>
        rcases List.mem_cons.mp hu with rfl | hu
        · obtain ⟨as, q⟩ := Dp.reads I d _ _ h1 r1
          exact ⟨d, as, List.mem_cons_self, q⟩
        · obtain ⟨d', as, m, q⟩ := dpAll_mem I h2 r2 u hu
          exact ⟨d', as, List.mem_cons_of_mem _ m, q⟩
def rInDctV (K : PySem.W.Frag) (neg : Bool) : R2 := fun x y H Q => ∃ a kvs p xs ds, x = .ref a ∧ Rd H a (.dK kvs) ∧ y = .ref p ∧ (SqL K H p xs ∨ SqT K H p xs) ∧ DpAll K H xs ds ∧ (∀ d ∈ ds, d.hasDict = false) ∧ Q (.bl neg) H
section
variable {X : Cx}
theorem any_no {α : Type} : ∀ l : List α, (l.any fun _ => false) = false
  | [] => rfl
  | _ :: r => by rw [List.any_cons, any_no r]; rfl
theorem items_dct {pins : List (Addr × Obj)} {σ : L2.St} {H : Hp} {s : Shared} {a : Addr} {kvs : List (Key × V)} {xs : List V} {ds : List PyData} {its : List Value} (hu : X.A.units + 66 < cLine) (I : Inv X pins σ H s) (h : Rd H a (.dK kvs)) (hd : DpAll X.K H xs ds) (nd : ∀ d ∈ ds, d.hasDict = false) (r : Vals xs its) : ∀ u ∈ its, SeqAt.EqAt X.A.in1 s u (.ref a) false := fun u mu => by
  obtain ⟨d, as, m, q⟩ := dpAll_mem I hd r u mu
  have dc := isDct_rd I h
  have ln : SeqAt.Lone X.A.in1 s a u := SeqAt.lone_reads dc q (nd d m)
  exact SeqAt.EqAt.of_rcR ln.ne (SeqAt.RcAt.lone_dct dc (by show X.A.units + 1 < cLine; omega) ln)
theorem op_inDct (hu : X.A.units + 66 < cLine) : OpR X (compareOp .In) (rInDctV X.K false) := by
  intro pins s σ H x y v u Q I rx ry ⟨a, kvs, p, xs, ds, ex, ha, ey, hq, hd, nd, q⟩
  subst ex ey
  cases rx; cases ry
  rcases hq with hq | hq
  · obtain ⟨its, r, pl, hz⟩ := I.list hq
    refine SeqAt.in_listAt (fun _ => false) pl.isList (fun w hw => items_dct hu I ha hd nd r w (by simpa using hw)) ⟨.bl _, H, I, rfl, ?_⟩
    simpa [any_no] using q
  · obtain ⟨its, r, pl, hz⟩ := I.tuple hq
    refine SeqAt.in_tupleAt (fun _ => false) pl (fun w hw => items_dct hu I ha hd nd r w (by simpa using hw)) ⟨.bl _, H, I, rfl, ?_⟩
    simpa [any_no] using q
theorem op_notInDct (hu : X.A.units + 66 < cLine) : OpR X (compareOp .NotIn) (rInDctV X.K true) := by
  intro pins s σ H x y v u Q I rx ry ⟨a, kvs, p, xs, ds, ex, ha, ey, hq, hd, nd, q⟩
  subst ex ey
  cases rx; cases ry
  rcases hq with hq | hq
  · obtain ⟨its, r, pl, hz⟩ := I.list hq
    refine SeqAt.notIn_listAt (fun _ => false) pl.isList (fun w hw => items_dct hu I ha hd nd r w (by simpa using hw)) ⟨.bl _, H, I, rfl, ?_⟩
    simpa [any_no] using q
  · obtain ⟨its, r, pl, hz⟩ := I.tuple hq
    refine SeqAt.notIn_tupleAt (fun _ => false) pl (fun w hw => items_dct hu I ha hd nd r w (by simpa using hw)) ⟨.bl _, H, I, rfl, ?_⟩
    simpa [any_no] using q
end
theorem plL_noDict {n : Nat} : ∀ {xs : List D}, PlL xs n → ∀ d ∈ toPyL xs, d.hasDict = false
  | [], _, d, h => by simp [toPyL] at h
  | x :: r, p, d, h => by
    simp only [PlL] at p
    rw [toPyL] at h
    rcases List.mem_cons.mp h with rfl | h
    · exact PyData.hasDict_of_canLay _ (pl_lay p.1).1
    · exact plL_noDict p.2 d h
def rInQT (neg : Bool) : R2T := fun x y G Q E => if (vK G x).isSome then (match vQ G y with
  | some xs => PlL xs 50 ∧ Q (.bl neg) G
  | none => False) else rInT neg x y G Q E
theorem sim_inQ {B : Bd} (neg : Bool) : Sim2 B (rInQT neg) (fun x y H Q => rInDctV B.K neg x y H Q ∨ rInV B neg x y H Q) := by
  intro F W σ H Q τ G QT' ET x y v u p rx ry h
  unfold rInQT at h
  by_cases hx : (vK G x).isSome = true
  · rw [if_pos hx] at h
    refine .inl ?_
    obtain ⟨kvs, ek⟩ := Option.isSome_iff_exists.mp hx
    obtain ⟨a, vs, rfl, ha, _⟩ := vK_ok p.wd rx ek
    split at h
    · rename_i xs e
      obtain ⟨b, ws, rfl, hb, rb⟩ := vQ_ok p.wd ry e
      exact ⟨a, vs, b, ws, toPyL xs, rfl, ha, rfl, hb, rpL_dp (B := B.hide F) rb h.1, plL_noDict h.1, p.bl h.2⟩
    · exact h.elim
  · rw [if_neg hx] at h
    exact .inr (sim_in neg F W σ H Q τ G QT' ET x y v u p rx ry h)
def eInQ (ta tb : E1) : E1 := eOp (rInQT false) ta tb
def eNotInQ (ta tb : E1) : E1 := eOp (rInQT true) ta tb
section
variable {X : Cx} {W : WX} {pos : Pos} {a b : Expr} {ta tb : E1}
theorem qe_inQ (hu : X.A.units + 66 < cLine) (ha : QE X W a ta) (hb : QE X W b tb) (hm : behindInMarks .In b = false := by rfl) : QE X W (.Compare a [.In] [b] pos) (eInQ ta tb) := qe_cmp (sim_inQ false) (.or (op_inDct hu) (op_inAll hu)) ha hb hm
theorem qe_notInQ (hu : X.A.units + 66 < cLine) (ha : QE X W a ta) (hb : QE X W b tb) (hm : behindInMarks .NotIn b = false := by rfl) : QE X W (.Compare a [.NotIn] [b] pos) (eNotInQ ta tb) := qe_cmp (sim_inQ true) (.or (op_notInDct hu) (op_notInAll hu)) ha hb hm
theorem qt_inQ (hu : X.A.units + 66 < cLine) (ha : QE X W a ta) (hb : QE X W b tb) (hm : behindInMarks .In b = false := by rfl) : QT X W (.Compare a [.In] [b] pos) (tBl (eInQ ta tb)) := qt_cmp (sim_inQ false) (.or (op_inDct hu) (op_inAll hu)) ha hb hm
theorem qt_notInQ (hu : X.A.units + 66 < cLine) (ha : QE X W a ta) (hb : QE X W b tb) (hm : behindInMarks .NotIn b = false := by rfl) : QT X W (.Compare a [.NotIn] [b] pos) (tBl (eNotInQ ta tb)) := qt_cmp (sim_inQ true) (.or (op_notInDct hu) (op_notInAll hu)) ha hb hm
end
end TL
namespace TL
open PySem PySem.Spec L2
theorem Cn.su {X : Cx} {W : WX} {a : Addr} {pn : List (Addr × Obj)} (c : Cn X W) : Cn (X.suite a pn) WF := ⟨c.grd, fun u s1 h => by obtain ⟨_, _, _, _, _, _, _, _, _, _, _, _, _, _, _, _, no⟩ := h; exact (show False from no).elim⟩
theorem hu66s {A : Around} {k : Nat} {v : Option Value} (hr : Room k A) : (A.mark v).units + 66 < cLine := hu66 (A := A) hr
end TL
end
section
set_option maxHeartbeats 4000000
/-! X1: own exception classes over any of four built-in ones, made by an __init__ that is walked. -/
namespace XG
open PySem PySem.Spec PySem.W PySem.Calls PyProof.Rows PySem.HandSPX L2
/-- a built-in exception class that own ones stand on -/
structure BaseF (B newId initId : String) (bm : List Value) : Prop where
  F : ExcBaseFacts B newId initId bm
  S : StoreFacts B bm "object.__setattr__" "object"
  obj : bm.contains (.type "object") = true
  ne : bm.isEmpty = false
  typ : typeOf (.type B) = pure (.type "type")
  stub : Manifest.isStub B = false
  cls : findCls [] (.type B) (.type "type") "__init__" = some (.val (.builtin initId)) ∨ True
abbrev mVE : List Value := [.type "ValueError", .type "Exception", .type "BaseException", .type "object"]
abbrev mLE : List Value := [.type "LookupError", .type "Exception", .type "BaseException", .type "object"]
abbrev mRE : List Value := [.type "RuntimeError", .type "Exception", .type "BaseException", .type "object"]
abbrev mAE : List Value := [.type "ArithmeticError", .type "Exception", .type "BaseException", .type "object"]
theorem base_VE : BaseF "ValueError" "ValueError.__new__" "ValueError.__init__" mVE := ⟨F.excBase_ValueError, F.store_ValueError, by decide +kernel, rfl, by kernel_rfl, by decide +kernel, .inr trivial⟩
theorem base_LE : BaseF "LookupError" "LookupError.__new__" "LookupError.__init__" mLE := ⟨F.excBase_LookupError, F.store_LookupError, by decide +kernel, rfl, by kernel_rfl, by decide +kernel, .inr trivial⟩
theorem base_RE : BaseF "RuntimeError" "RuntimeError.__new__" "RuntimeError.__init__" mRE := ⟨F.excBase_RuntimeError, F.store_RuntimeError, by decide +kernel, rfl, by kernel_rfl, by decide +kernel, .inr trivial⟩
theorem base_AE : BaseF "ArithmeticError" "ArithmeticError.__new__" "ArithmeticError.__init__" mAE := ⟨F.excBase_ArithmeticError, F.store_ArithmeticError, by decide +kernel, rfl, by kernel_rfl, by decide +kernel, .inr trivial⟩
/-- what the written part says of an own exception class with an __init__ -/
structure OexG (K : Frag) (C : Addr) (bm : List Value) (newId : String) : Prop where
  cls : ∃ nm q N bs l sn sub ab col dd k0 k1 k2 k3 k5, K.lookup C = some (excClassObj nm q C N bs l true sn sub ab col dd k0 k1 k2 k3 k5 newId) ∧ excTail bm l = true
  sa : findIn K (.ref C) "__setattr__" = some (some (.builtin "object.__setattr__"))
  exC : subIn K (.ref C) (.type "BaseException") = some true
  tyC : typeIn K (.ref C) = some (.type "type")
  kC : keepIn K (.ref C) = true
def oexCls (K : Frag) (C : Addr) (bm : List Value) (newId : String) : Bool := match K.lookup C with
  | some ⟨.type t, _, .cls cd, sl⟩ => (match cd.mro, sl.toList with
    | .ref C2 :: l, [_, _, _, _, some (.builtin n), _] => t == "type" && (C2 == C && (n == newId && (!cd.hasDel && (cd.hasDict && excTail bm l))))
    | _, _ => false)
  | _ => false
def oexB (K : Frag) (C : Addr) (bm : List Value) (newId : String) : Bool := oexCls K C bm newId && (decide (findIn K (.ref C) "__setattr__" = some (some (.builtin "object.__setattr__"))) && (decide (subIn K (.ref C) (.type "BaseException") = some true) && (decide (typeIn K (.ref C) = some (.type "type")) && keepIn K (.ref C))))
theorem oexCls_ok {K : Frag} {C : Addr} {bm : List Value} {newId : String} (h : oexCls K C bm newId = true) : ∃ nm q N bs l sn sub ab col dd k0 k1 k2 k3 k5, K.lookup C = some (excClassObj nm q C N bs l true sn sub ab col dd k0 k1 k2 k3 k5 newId) ∧ excTail bm l = true := by
  unfold oexCls at h
  split at h
  · rename_i t dd cd sl e
    split at h
    · rename_i C2 l k0 k1 k2 k3 n k5 hm hs
      simp only [Bool.and_eq_true, beq_iff_eq, Bool.not_eq_true'] at h
      obtain ⟨rfl, rfl, rfl, hdel, hdict, htail⟩ := h
      obtain ⟨nm, bs, mro, N, q, hd, sn, sub, ab, col, dl⟩ := cd
      dsimp only at hm hdel hdict htail
      subst hm; subst hdel; subst hdict
      have es : sl = #[k0, k1, k2, k3, some (.builtin n), k5] := by
        cases sl
        simp only at hs
        rw [hs]
      subst es
      exact ⟨nm, q, N, bs, l, sn, sub, ab, col, dd, k0, k1, k2, k3, k5, e, htail⟩
    · cases h
  · cases h
theorem oexB_ok {K : Frag} {C : Addr} {bm : List Value} {newId : String} (h : oexB K C bm newId = true) : OexG K C bm newId := by
  obtain ⟨h1, h⟩ := Bool.and_eq_true_iff.mp h
  obtain ⟨h2, h⟩ := Bool.and_eq_true_iff.mp h
  obtain ⟨h3, h⟩ := Bool.and_eq_true_iff.mp h
  obtain ⟨h4, h5⟩ := Bool.and_eq_true_iff.mp h
  exact ⟨oexCls_ok h1, of_decide_eq_true h2, of_decide_eq_true h3, of_decide_eq_true h4, h5⟩
theorem tail_ne {bm l : List Value} (hb : bm.isEmpty = false) (h : excTail bm l = true) : l.isEmpty = false := by
  rcases excTail_cases l h with ⟨c, r, rfl, _⟩ | rfl
  · rfl
  · exact hb
/-! ### a field of an exception -/
section
open Builtin Builtin.ObjectAttr
variable {prog : Program} {w : World} {A : Around} {E : Value → Shared → Prop} {R : Result → Shared → Prop} {hp : Heap} {g : Array GenState} {d : Drawn} {t : Nat} {os : OsState} {B newId initId : String} {bm : List Value}
/-- self.f = v: the first field, its dict is new -/
theorem osa_one {K : Frag} {name : Str} {tk : Tok} {v : Value} {x C : Addr} {fl : Array Value} {cd : ClassData} (T : BaseF B newId initId bm) (kin : K.In hp) (here : hp.get? x = some { cls := .ref C, data := .fields fl }) (ec : clsIn K C = some cd) (tl : excTail bm cd.mro = true) (dct : cd.hasDict = true) (no : findIn K (.ref C) name = some none)
    (fin : ∀ h' tk' dx, (∀ b o, b ≠ x → hp.get? b = some o → h'.get? b = some o) → hp.objs.size ≤ dx → dx ≠ x → h'.get? x = some { cls := .ref C, dict := some dx, data := .fields fl } → h'.Ns1 dx (fun y => if y = name then some v else none) → R (.ok (.ret .none)) ⟨h', g, d, tk', os⟩) :
    codeAny (model prog w) A (.call (.builtin "object.__setattr__") ⟨[.ref x, .str name tk, v], []⟩) R ⟨hp, g, d, t, os⟩ := by
  have inst : InstAt hp x { cls := .ref C, data := .fields fl } C none := ⟨here, rfl, rfl, trivial⟩
  have ob : cd.mro.contains (.type "object") = true := by rw [excTail_contains "object" _ tl]; exact T.obj
  have nsz : x ≠ hp.objs.size := fun z => Nat.lt_irrefl _ (z ▸ Heap.lt_size here)
  have isO : Looks (model prog w) hp (isInstance (.ref x) (.type "object")) true := inst.type.andThen (looks_mroIn kin (by unfold mroIn; rw [ec, Option.bind_some, if_neg (by rw [tail_ne T.ne tl]; decide), ob]))
  have cls : Looks (model prog w) hp (classData C) cd := looks_clsIn kin ec
  have own : Looks (model prog w) hp (mroOf (.ref C)) cd.mro := cls.andThen .now
  refine codeAny_call_builtin F.store_object.slot.plain F.store_object.entry (@check_slot (model prog w) _ _ ⟨hp, g, d, t, os⟩ "object.__setattr__" "object" "__setattr__" (.ref x) [.str name tk, v] [] _ F.store_object.kind F.store_object.split isO (F.store_object.args (.ref x) (.str name tk) v) ?_)
  rw [osa_eq, refuse_eq]
  refine wpAny_bind (wpAny_bind (inst.type.at (wpAny_bind (own.at ?_))))
  rw [excTail_pass _ (T.S.passes _) _ tl]
  refine wpAny_pure (wpAny_bind (inst.type.at (wpAny_bind ((looks_findIn kin no).at (wpAny_bind ((show Looks (model prog w) hp (storeTaker? none) none from .now).at ?_))))))
  show wpAny _ _ (storeInOwnDict _ _ _ _ _ false) _ _ _
  obtain ⟨a1, a2, a3, a4, a5, a6, a7, a8, a9, a10, a11⟩ := cd
  obtain rfl : a6 = true := dct
  unfold storeInOwnDict ownDictForStores
  repeat (first | with_reducible refine HandSPX.store_in_new ?_ ?_ | with_reducible refine wpAny_loadPart_at here ?_ | with_reducible refine cls.at ?_ | wp_step)
  · have put : ((hp.push { cls := .type "dict", data := .dict #[] }).update x fun o => { o with dict := some hp.objs.size }).get? hp.objs.size = some { cls := .type "dict", data := .dict #[] } := by
      rw [Heap.get?_update_ne _ _ _ _ nsz.symm]
      exact Heap.get?_push_at rfl rfl
    exact ⟨_, #[], _, put, rfl, fun e he => by simp at he, fun _ => rfl⟩
  · intro h1 tk1 ns same
    refine fin h1 tk1 hp.objs.size (fun b o z q => ?_) (Nat.le_refl _) nsz.symm ?_ ns
    · rw [same.2 b fun q2 => Nat.lt_irrefl _ (q2 ▸ Heap.lt_size q), Heap.get?_update_ne _ _ _ _ z]
      exact Heap.get?_push_of_some _ q
    · rw [same.2 x nsz]
      exact Heap.get?_update_self _ (Heap.get?_push_of_some _ here) rfl
/-- a further one -/
theorem osa_more {K : Frag} {name : Str} {tk : Tok} {v : Value} {x C dx : Addr} {fl : Array Value} {cd : ClassData} {m0 : Str → Option Value} {nl : List Str} (T : BaseF B newId initId bm) (kin : K.In hp) (here : hp.get? x = some { cls := .ref C, dict := some dx, data := .fields fl }) (ns0 : hp.Ns1 dx m0) (wi : Within m0 nl) (le : nl.length ≤ 1000)
    (ec : clsIn K C = some cd) (tl : excTail bm cd.mro = true) (dct : cd.hasDict = true) (no : findIn K (.ref C) name = some none)
    (fin : ∀ h' tk', (∀ b o, b ≠ dx → hp.get? b = some o → h'.get? b = some o) → h'.Ns1 dx (fun y => if y = name then some v else m0 y) → R (.ok (.ret .none)) ⟨h', g, d, tk', os⟩) :
    codeAny (model prog w) A (.call (.builtin "object.__setattr__") ⟨[.ref x, .str name tk, v], []⟩) R ⟨hp, g, d, t, os⟩ := by
  obtain ⟨oD, _, _, hD, _, _⟩ := ns0.count wi
  have inst : InstAt hp x { cls := .ref C, dict := some dx, data := .fields fl } C (some oD) := ⟨here, rfl, rfl, hD⟩
  have ob : cd.mro.contains (.type "object") = true := by rw [excTail_contains "object" _ tl]; exact T.obj
  have isO : Looks (model prog w) hp (isInstance (.ref x) (.type "object")) true := inst.type.andThen (looks_mroIn kin (by unfold mroIn; rw [ec, Option.bind_some, if_neg (by rw [tail_ne T.ne tl]; decide), ob]))
  have cls : Looks (model prog w) hp (classData C) cd := looks_clsIn kin ec
  have own : Looks (model prog w) hp (mroOf (.ref C)) cd.mro := cls.andThen .now
  refine codeAny_call_builtin F.store_object.slot.plain F.store_object.entry (@check_slot (model prog w) _ _ ⟨hp, g, d, t, os⟩ "object.__setattr__" "object" "__setattr__" (.ref x) [.str name tk, v] [] _ F.store_object.kind F.store_object.split isO (F.store_object.args (.ref x) (.str name tk) v) ?_)
  rw [osa_eq, refuse_eq]
  refine wpAny_bind (wpAny_bind (inst.type.at (wpAny_bind (own.at ?_))))
  rw [excTail_pass _ (T.S.passes _) _ tl]
  refine wpAny_pure (wpAny_bind (inst.type.at (wpAny_bind ((looks_findIn kin no).at (wpAny_bind ((show Looks (model prog w) hp (storeTaker? none) none from .now).at ?_))))))
  show wpAny _ _ (storeInOwnDict _ _ _ _ _ false) _ _ _
  obtain ⟨a1, a2, a3, a4, a5, a6, a7, a8, a9, a10, a11⟩ := cd
  obtain rfl : a6 = true := dct
  unfold storeInOwnDict ownDictForStores
  repeat (first | with_reducible refine OEX.store_in_old ns0 wi le ?_ | with_reducible refine wpAny_loadPart_at here ?_ | with_reducible refine cls.at ?_ | wp_step)
  intro h1 tk1 ns same
  exact fin h1 tk1 (fun b o z q => (same.2 b z).trans q) ns
end
end XG
end
section
set_option maxHeartbeats 4000000
/-! X2: the rules of such classes over HandS. -/
namespace XG
open PySem PySem.Spec PySem.W PySem.Calls PyProof.Rows PySem.HandSPX L2
theorem OexG.at_ {K : Frag} {C : Addr} {bm : List Value} {newId : String} (c : OexG K C bm newId) : ∃ cd, clsIn K C = some cd ∧ excTail bm cd.mro = true ∧ cd.hasDict = true ∧ ∃ nm q N bs l sn sub ab col dd k0 k1 k2 k3 k5, K.lookup C = some (excClassObj nm q C N bs l true sn sub ab col dd k0 k1 k2 k3 k5 newId) ∧ ∀ Y : String, l.contains (.type Y) = bm.contains (.type Y) := by
  obtain ⟨nm, q, N, bs, l, sn, sub, ab, col, dd, k0, k1, k2, k3, k5, h1, h2⟩ := c.cls
  exact ⟨{ name := nm, bases := bs, mro := .ref C :: l, ns := N, qualname := q, hasDict := true, slotNames := sn, subclasses := sub, abstract := ab, collection := col, hasDel := false }, by unfold clsIn; rw [h1] <;> rfl, h2, rfl, nm, q, N, bs, l, sn, sub, ab, col, dd, k0, k1, k2, k3, k5, h1, fun Y => excTail_contains Y _ h2⟩
section
variable {X : Cx} {pins : List (Addr × Obj)} {σ : L2.St} {H : Hp} {s : Shared} {a C dx : Addr} {f : Str} {y : V} {u : Value} {fs : List (Str × V)} {Q : Unit → Shared → Prop} {E : Value → Shared → Prop} {A : Around} {B newId initId : String} {bm : List Value}
/-- the heap behind the first field -/
theorem laid_one (hok : HOk X.prog X.w H s.heap) (e : H a = some (exo a C none)) {h' : Heap} {t1 : Addr} (k : ∀ b o, b ≠ a → s.heap.get? b = some o → h'.get? b = some o) (dn : s.heap.objs.size ≤ dx)
    (hx : h'.get? a = some ({ cls := .ref C, dict := some dx, data := .fields #[.ref t1, .none, .none, .none, .bool false, .none] } : Obj)) {mA : Str → Option Value} (hn : h'.Ns1 dx mA) (r : ∀ g, RelO (fs.lookup g) (mA g)) :
    H dx = none ∧ Un X.fs [] H (upd (upd H dx (exd dx fs)) a (exo a C (some dx))) s.heap h' ∧ HOk X.prog X.w (upd (upd H dx (exd dx fs)) a (exo a C (some dx))) h' := by
  have nd0 : H dx = none := hok.fresh dn
  have old : ∀ {b : Addr} {o : Obj}, s.heap.get? b = some o → b ≠ dx := fun q z => Nat.lt_irrefl _ (Nat.lt_of_lt_of_le (z ▸ Heap.lt_size q) dn)
  have na : ∀ {b : Addr}, H b = none → b ≠ a := fun n z => by rw [z, e] at n; cases n
  refine ⟨nd0, ?_, fun b o q => ?_⟩
  · constructor
    · exact fun b o q n _ _ => k b o (na n) q
    · exact fun b o q n _ _ => ⟨o.slots, k b o (na n) q⟩
    · intro b o q n _
      rw [upd_ne (na n), upd_ne (old q)]
      exact n
    · intro b o q _
      by_cases z : b = a
      · exact ⟨_, z ▸ hx⟩
      · exact ⟨o, k b o z q⟩
    · intro b xs q
      rw [upd_ne (at_ne e q exo_tup), upd_ne (ne_of_none q nd0)]
      exact q
    · intro b o v q
      rw [upd_ne (at_ne e q exo_frz), upd_ne (ne_of_none q nd0)]
      exact q
    · intro b ps q
      refine ⟨#[], ?_⟩
      rw [upd_ne (at_ne e q exo_tbl), upd_ne (ne_of_none q nd0), q, Array.append_empty]
  · by_cases z : b = a
    · subst z
      rw [upd_same] at q
      cases q
      exact exo_ok hx
    · rw [upd_ne z] at q
      by_cases z2 : b = dx
      · subst z2
        rw [upd_same] at q
        cases q
        exact exd_ok hn r
      · rw [upd_ne z2] at q
        refine (hok b o q).stay (fun c v hc w => k c v ?_ w) (fun c hc => ?_) fun c xs hc => ?_
        · rcases hc with hc | hc
          · exact hc ▸ z
          · exact at_ne e hc exo_own
        · rw [upd_ne (at_ne e hc exo_own), upd_ne (ne_of_none hc nd0)]; exact hc
        · rw [upd_ne (at_ne e hc exo_tup), upd_ne (ne_of_none hc nd0)]; exact hc
theorem fld_one (T : BaseF B newId initId bm) (c : OexG X.K C bm newId) (I : Inv X pins σ H s) (e : H a = some (exo a C none)) (no : findIn X.K (.ref C) f = some none) (ry : RelV y u)
    (h : ∀ dx s', H dx = none → dx ≠ a → Inv X pins σ (upd (upd H dx (exd dx [(f, y)])) a (exo a C (some dx))) s' → Q () s') : wpAny (model X.prog X.w) A (setAttr (.ref a) f u) Q E s := by
  obtain ⟨cd, ec, tl, dct, _⟩ := c.at_
  obtain ⟨t1, at_⟩ := exo_at I.hok e
  have ok := I.hok
  obtain ⟨hp, g, d, t, os⟩ := s
  refine set_plain I.kIn (ox := { cls := .ref C, dict := none, data := .fields #[.ref t1, .none, .none, .none, .bool false, .none] }) (od := none) ⟨at_, rfl, rfl, trivial⟩ c.sa (osa_one T I.kIn at_ ec tl dct no fun h' tk' dx k dn ne hx hn => ?_)
  obtain ⟨n0, un, ok'⟩ := laid_one (fs := [(f, y)]) ok e k dn hx hn (relO_put (fs := []) ry fun _ => True.intro)
  exact h dx _ n0 ne (I.un (t' := tk') un ok')
theorem fld_more (T : BaseF B newId initId bm) (c : OexG X.K C bm newId) (I : Inv X pins σ H s) (e : H a = some (exo a C (some dx))) (ed : H dx = some (exd dx fs)) (le : fs.length ≤ 900) (no : findIn X.K (.ref C) f = some none) (ry : RelV y u)
    (h : ∀ s', Inv X pins σ (upd H dx (exd dx ((f, y) :: fs))) s' → Q () s') : wpAny (model X.prog X.w) A (setAttr (.ref a) f u) Q E s := by
  obtain ⟨cd, ec, tl, dct, _⟩ := c.at_
  obtain ⟨t1, at_⟩ := exo_at I.hok e
  obtain ⟨mA, ns0, rel⟩ := exd_at I.hok ed
  have wi := within_of rel
  obtain ⟨hp, g, d, t, os⟩ := s
  obtain ⟨oD, _, _, hD, _, _⟩ := ns0.count wi
  refine set_plain I.kIn (ox := { cls := .ref C, dict := some dx, data := .fields #[.ref t1, .none, .none, .none, .bool false, .none] }) (od := some oD) ⟨at_, rfl, rfl, hD⟩ c.sa (osa_more T I.kIn at_ ns0 wi (by rw [List.length_map]; omega) ec tl dct no fun h' tk' k hn => ?_)
  refine h _ (I.write (t' := tk') (x := dx) (e := dx) (o := exd dx ((f, y) :: fs)) (by rw [ed]; exact True.intro) (.inl rfl) k ?_ (exd_ok hn (relO_put ry rel)))
  obtain ⟨o, _, _, q, _⟩ := hn
  exact ⟨o, q⟩
/-- B.__init__(self, ..): nothing of it is told -/
theorem init_told {us : List Value} {Q : Value → Shared → Prop} (T : BaseF B newId initId bm) (c : OexG X.K C bm newId) (I : Inv X pins σ H s) (e : H a = some (exo a C none)) (hl : us.length ≤ sizeLine) (h : ∀ s', Inv X pins σ H s' → Q .none s') :
    wpAny (model X.prog X.w) A (call (.builtin initId) (.ref a :: us)) Q E s := by
  obtain ⟨_, _, _, _, nm, q, N, bs, l, sn, sub, ab, col, dd, k0, k1, k2, k3, k5, hC, hT⟩ := c.at_
  obtain ⟨t1, at_⟩ := exo_at I.hok e
  obtain ⟨hp, g, d, t, os⟩ := s
  refine wpAny_call (init_base T.F hT (I.kIn _ _ hC) at_ hl fun h' t2 k hx => ?_)
  have J := I.write (t' := t) (x := a) (e := a) (o := exo a C none) (by rw [e]; exact True.intro) (.inl rfl) k ⟨_, hx⟩ (exo_ok hx)
  have same : upd H a (exo a C none) = H := funext fun b => by
    unfold upd
    split
    · rename_i z; rw [z, e]
    · rfl
  exact h _ (same ▸ J)
end

/-! ### readings and rules -/
abbrev tInitG (K : Frag) (bm : List Value) (newId : String) (ta : TA) : TE := fun σ H Q => ta σ H fun vs H1 => ∃ (a C : Addr) (ws : List V), vs = .ref a :: ws ∧ ws.length ≤ 1000 ∧ OexG K C bm newId ∧ H1 a = some (exo a C none) ∧ Q .non H1
abbrev tFldG (K : Frag) (bm : List Value) (newId : String) (f : Str) (to te : TE) : TS := fun D σ H => te σ H fun y H1 => to σ H1 fun x H2 => ∃ a C : Addr, x = .ref a ∧ OexG K C bm newId ∧ findIn K (.ref C) f = some none ∧
  ((H2 a = some (exo a C none) ∧ ∀ dx, H2 dx = none → dx ≠ a → D.nx σ (upd (upd H2 dx (exd dx [(f, y)])) a (exo a C (some dx)))) ∨
    ∃ (dx : Addr) (fs : List (Str × V)), H2 a = some (exo a C (some dx)) ∧ H2 dx = some (exd dx fs) ∧ fs.length ≤ 900 ∧ D.nx σ (upd H2 dx (exd dx ((f, y) :: fs))))
section
variable {X : Cx} {o e : Expr} {es : List Expr} {to te : TE} {ta : TA} {f x : Str} {p p' p1 p2 pos : Pos} {B newId initId : String} {bm : List Value}
theorem ps_fldG (T : BaseF B newId initId bm) (ho : PE X o to) (he : PE X e te) (hs : swapsWith e (some (.Attribute o f p')) pos.line X.env = pure false := by rfl) : PS X (.Assign [.Attribute o f p'] e pos) (tFldG X.K bm newId f to te) :=
  ⟨fun pins s σ H D I h => plainObj_wpAny_Assign_Attribute (thn (he.run pins s σ H _ I h) fun v s1 ⟨y, H1, I1, r1, q1⟩ => thn (ho.run pins s1 σ H1 _ I1 q1) fun u s2 ⟨x, H2, I2, r2, a, C, ex, c, no, q⟩ => by
    subst ex
    obtain rfl : u = Value.ref a := r2
    rcases q with ⟨ea, q⟩ | ⟨dx, fs, ea, ed, hl, q⟩
    · exact fld_one T c I2 ea no r1 fun dx s' n ne J => ⟨σ, _, J, q dx n ne⟩
    · exact fld_more T c I2 ea ed hl no r1 fun s' J => ⟨σ, _, J, q⟩) hs⟩
/-- what follows when the value at the dot is known to be the built-in __init__ -/
theorem init_go {pl : Sem Bool} (T : BaseF B newId initId bm) (ha : PA X (e :: es) ta) {pins : List (Addr × Obj)} {s : Shared} {σ : L2.St} {H : Hp} {Q : VK} (I : Inv X pins σ H s) (h : tInitG X.K bm newId ta σ H Q)
    (he : starEach (e :: es) X.env = (false, eval e X.env) :: starEach es X.env) (hpl : (backTo pos (starEach es X.env)).any (·.1) = false) :
    wpAny (model X.prog X.w) X.A (callWith pos (Value.builtin initId) [] (backTo pos (starEach (e :: es) X.env)) []) (EP X pins σ Q) X.xe s := by
  refine callWith_method1 (thn (ha.run pos pins _ σ H _ I h) fun us s1 ⟨vs, H1, I1, r1, a, C, ws, ev, hl, c, ea, q⟩ => ?_) he hpl
  subst ev
  cases r1 with
  | @cons _ u0 _ ur ra rw' =>
    obtain rfl : u0 = Value.ref a := ra
    refine init_told T c I1 ea ?_ fun s' J => ⟨.non, H1, J, rfl, q⟩
    have := Paired.length rw'
    rw [sizeLine_eq]
    omega
/-- B.__init__(self, ..), B built in -/
theorem pe_initB {pl : Sem Bool} (T : BaseF B newId initId bm) (hg : Gl X x) (hm : X.mg x = none) (hv : bootBuiltins x = some (.type B)) (hnn : x ≠ "__name__") (hdb : (x == ("__debug__" : Str)) = false) (vV : findCls X.K (.type B) (.type "type") "__init__" = some (.val (.builtin initId))) (hh : handedIn (.builtin initId) = true) (ha : PA X (e :: es) ta)
    (hc : eval (.Call (.Attribute (.Name x p1) "__init__" p2) (e :: es) [] pos) X.env = (do
      let ov ← eval (.Name x p1) X.env
      standAt p2.atName
      let (g, first) ← holding [ov] (getMethod ov "__init__" pl)
      callWith pos g first (backTo pos (starEach (e :: es) X.env)) (backToKw pos (keywordEach [] X.env))) := by rfl)
    (he : starEach (e :: es) X.env = (false, eval e X.env) :: starEach es X.env := by rfl) (hpl : (backTo pos (starEach es X.env)).any (·.1) = false := by rfl) :
    PE X (.Call (.Attribute (.Name x p1) "__init__" p2) (e :: es) [] pos) (tInitG X.K bm newId ta) := ⟨fun pins s σ H Q I h => methodCall_KW (ld_blt I hg hm hv (by
  obtain ⟨m, fr⟩ := I.fr
  refine method_type fr I.ok.mod.kin T.typ T.stub vV hh ?_
  exact init_go (pl := pl) T ha (I.tok _) h he hpl) hnn hdb) hc⟩
/-- P.__init__(self, ..), P an own class without own __init__ -/
theorem pe_initP {pl : Sem Bool} {D : Addr} (T : BaseF B newId initId bm) (hg : Gl X x) (hm : X.mg x = some (.ref D)) (hdb : (x == ("__debug__" : Str)) = false) (rd : readsIn X.K D (.type "type") = true) (sp : specialIn X.K (.ref D) "__getattribute__" = some (some (.builtin "type.__getattribute__"))) (vV : findCls X.K (.ref D) (.type "type") "__init__" = some (.val (.builtin initId))) (hh : handedIn (.builtin initId) = true) (ha : PA X (e :: es) ta)
    (hc : eval (.Call (.Attribute (.Name x p1) "__init__" p2) (e :: es) [] pos) X.env = (do
      let ov ← eval (.Name x p1) X.env
      standAt p2.atName
      let (g, first) ← holding [ov] (getMethod ov "__init__" pl)
      callWith pos g first (backTo pos (starEach (e :: es) X.env)) (backToKw pos (keywordEach [] X.env))) := by rfl)
    (he : starEach (e :: es) X.env = (false, eval e X.env) :: starEach es X.env := by rfl) (hpl : (backTo pos (starEach es X.env)).any (·.1) = false := by rfl) :
    PE X (.Call (.Attribute (.Name x p1) "__init__" p2) (e :: es) [] pos) (tInitG X.K bm newId ta) := ⟨fun pins s σ H Q I h => methodCall_KW (ld_glob I hg hm (by
  refine method_cls I.kIn sp (cls_value I.kIn rd vV hh ?_)
  exact init_go (pl := pl) T ha (I.tok _) h he hpl) hdb) hc⟩
end
end XG
end
section
set_option maxHeartbeats 4000000
/-! X3: an own __init__ of the shape B.__init__(self, text); self.f = x; ..; C(..), raised or as a value. -/
namespace XG
open PySem PySem.Spec PySem.W PySem.Calls PyProof.Rows PySem.HandSPX L2
/-- what an argument may be: anything | a text | an int -/
inductive Kd where
  | any | str | int
def Kd.ok : Kd → V → Prop
  | .any, _ => True
  | .str, v => ∃ s, v = .str s ∧ s.length ≤ 1000000
  | .int, v => ∃ i : Int, v = .int i ∧ i.natAbs.log2 < 1920
def okAll : List Kd → List V → Prop
  | [], vs => vs = []
  | k :: ks, vs => ∃ v r, vs = v :: r ∧ k.ok v ∧ okAll ks r
theorem okAll.len : ∀ {ks : List Kd} {vs : List V}, okAll ks vs → vs.length = ks.length
  | [], _, h => by rw [show _ = [] from h]; rfl
  | _ :: _, _, ⟨_, _, e, _, q⟩ => by rw [e, List.length_cons, List.length_cons, q.len]
/-- the fields, the last one first -/
abbrev flds (fs : List Str) (vs : List V) : List (Str × V) := (fs.zip vs).reverse
def spX (C : Addr) (fs : List Str) (ks : List Kd) : Sp := fun vs H Q _ => ∃ a ws, vs = V.ref a :: ws ∧ okAll ks ws ∧ H a = some (exo a C none) ∧ ∀ d, H d = none → d ≠ a → Q .non (upd (upd H d (exd d (flds fs ws))) a (exo a C (some d)))
section
variable {K : Frag} {C : Addr} {bm : List Value} {newId : String} {tm : TE} {N : List Str} {Q : VK} {E : XK} {H : Hp} {vs : List V} {f1 f2 : Str} {k1 k2 : Kd}
theorem upd_two {H : Hp} {a d : Addr} {o1 o2 o3 : HO} (h : d ≠ a) : upd (upd (upd H d o1) a o2) d o3 = upd (upd H d o3) a o2 := by
  funext b
  by_cases h1 : b = d
  · subst h1; rw [upd_same, upd_ne h, upd_same]
  · rw [upd_ne h1]
    by_cases h2 : b = a
    · subst h2; rw [upd_same, upd_same]
    · rw [upd_ne h2, upd_ne h2, upd_ne h1, upd_ne h1]
theorem body_one (c : OexG K C bm newId) (n1 : findIn K (.ref C) f1 = some none) (hm : ∀ (a : Addr) (v : V) (H : Hp) (Q : VK), k1.ok v → (∀ m, Q m H) → tm (L2.start N [.ref a, v]) H Q) (h : spX C [f1] [k1] vs H Q E) :
    tSeq (tDrop (tInitG K bm newId (tCons (tVar 0) (tCons tm tNil)))) (tFldG K bm newId f1 (tVar 0) (tVar 1)) { nx := fun _ H' => Q .non H', rt := Q } (L2.start N vs) H := by
  obtain ⟨a, ws, rfl, ⟨v, r, rfl, hv, rfl⟩, ea, q⟩ := h
  exact ⟨_, rfl, hm a v H _ hv fun m => ⟨a, C, [m], rfl, by simp, c, ea, v, rfl, .ref a, rfl, a, C, rfl, c, n1, .inl ⟨ea, fun d h1 h2 => q d h1 h2⟩⟩⟩
theorem body_two (c : OexG K C bm newId) (n1 : findIn K (.ref C) f1 = some none) (n2 : findIn K (.ref C) f2 = some none) (hm : ∀ (a : Addr) (v u : V) (H : Hp) (Q : VK), k1.ok v → k2.ok u → (∀ m, Q m H) → tm (L2.start N [.ref a, v, u]) H Q) (h : spX C [f1, f2] [k1, k2] vs H Q E) :
    tSeq (tDrop (tInitG K bm newId (tCons (tVar 0) (tCons tm tNil)))) (tSeq (tFldG K bm newId f1 (tVar 0) (tVar 1)) (tFldG K bm newId f2 (tVar 0) (tVar 2))) { nx := fun _ H' => Q .non H', rt := Q } (L2.start N vs) H := by
  obtain ⟨a, ws, rfl, ⟨v, r, rfl, hv, u, r2, rfl, hu, rfl⟩, ea, q⟩ := h
  refine ⟨_, rfl, hm a v u H _ hv hu fun m => ⟨a, C, [m], rfl, by simp, c, ea, v, rfl, .ref a, rfl, a, C, rfl, c, n1, .inl ⟨ea, fun d h1 h2 => ?_⟩⟩⟩
  refine ⟨u, rfl, .ref a, rfl, a, C, rfl, c, n2, .inr ⟨d, [(f1, v)], upd_same, by rw [upd_ne h2, upd_same], by simp, ?_⟩⟩
  rw [upd_two h2]
  exact q d h1 h2
end
/-! ### C(..) -/
def tMkX (C : Addr) (fs : List Str) (ks : List Kd) (ta : TA) : L2.St → Hp → XK → Prop := fun σ H Q => ta σ H fun vs H1 => vs.length ≤ 1000 ∧ okAll ks vs ∧ ∀ d, H1 d = none → Q (.ref C) (some d) (upd H1 d (.xd (flds fs vs)))
def tValX (C : Addr) (fs : List Str) (ks : List Kd) (ta : TA) : TE := fun σ H Q => ta σ H fun vs H1 => vs.length ≤ 1000 ∧ okAll ks vs ∧ ∀ a d, H1 a = none → H1 d = none → d ≠ a → Q (.ref a) (upd (upd H1 d (exd d (flds fs vs))) a (exo a C (some d)))
section
variable {X : Cx} {B newId initId : String} {bm : List Value} {x : Str} {C fI : Addr} {k : Nat} {fd : FuncData} {ps fs : List Str} {ks : List Kd} {e : Expr} {es : List Expr} {ta : TA} {p pos : Pos}
theorem okX_passes {pins : List (Addr × Obj)} {σ : L2.St} {H : Hp} {s s' : Shared} {e : Value} (h : L2.CX X.prog X.w X.stack H s (fun _ _ _ => False) e s') : False := by
  obtain ⟨_, _, _, _, _, _, _, _, _, _, _, _, z⟩ := h
  exact z
theorem gone_eq {H : Hp} {a d : Addr} {o1 o2 o3 o4 : HO} (n : H a = none) (h : d ≠ a) : upd (L2.del (upd (upd (upd H a o1) d o2) a o3) a) d o4 = upd H d o4 := by
  funext b
  by_cases h1 : b = d
  · subst h1; rw [upd_same, upd_same]
  · rw [upd_ne h1, upd_ne h1]
    by_cases h2 : b = a
    · subst h2; rw [del_same, n]
    · rw [del_ne h2, upd_ne h2, upd_ne h1, upd_ne h2]
theorem kept_eq {H : Hp} {a d : Addr} {o1 o2 o3 : HO} (h : d ≠ a) : upd (upd (upd H a o1) d o2) a o3 = upd (upd H d o2) a o3 := by
  funext b
  by_cases h2 : b = a
  · subst h2; rw [upd_same, upd_same]
  · rw [upd_ne h2, upd_ne h2]
    by_cases h1 : b = d
    · subst h1; rw [upd_same, upd_same]
    · rw [upd_ne h1, upd_ne h1, upd_ne h2]
/-- the call of such a class: R of the exception at a, its dict at d, over the heap without both -/
theorem run_x {pins : List (Addr × Obj)} {σ : L2.St} {H1 : Hp} {s1 : Shared} {us : List Value} {vs : List V} {Q : Value → Shared → Prop} (T : BaseF B newId initId bm) (c : OexG X.K C bm newId) (iC : findIn X.K (.ref C) "__init__" = some (some (.ref fI))) (tI : typeIn X.K (.ref fI) = some (.type "function"))
    (F1 : FnOk X.prog X.w X.K X.mg X.base (L2.CX X.prog X.w) k fI fd ps (spX C fs ks)) (hr : Room (k + 1) X.A) (hb : Binds X.K fd ps []) (I1 : Inv X pins σ H1 s1) (r1 : Vals vs us) (hz : vs.length ≤ 1000) (hk : okAll ks vs)
    (go : ∀ (a d : Addr) (h0 h2 : Heap) (g2 : Array GenState) (d2 : Drawn) (t2 : Nat) (H2 : Hp), H1 a = none → H1 d = none → d ≠ a → s1.heap.objs.size ≤ a → (∀ b o, s1.heap.get? b = some o → h0.get? b = some o) → Un (frs X.stack) [] (upd H1 a (exo a C none)) H2 h0 h2 → HOk X.prog X.w H2 h2 → AllBare g2 → Inv X pins σ H2 ⟨h2, g2, d2, t2, s1.os⟩ →
      H2 = upd (upd (upd H1 a (exo a C none)) d (exd d (flds fs vs))) a (exo a C (some d)) → Q (.ref a) ⟨h2, g2, d2, t2, s1.os⟩) :
    wpAny (model X.prog X.w) X.A (call (.ref C) us) Q X.xe s1 := by
  obtain ⟨_, _, _, _, nm, q, N, bs, l, sn, sub, ab, col, dd, k0, k1, k2, k3, k5, hC, hT⟩ := c.at_
  obtain ⟨hp, g, dr, tk, os⟩ := s1
  have up : hp.objs.size ≤ hp.objs.size + 1 := Nat.le_succ _
  have new : H1 (hp.objs.size + 1) = none := I1.hok.fresh up
  have keeps : ∀ b o, hp.get? b = some o → ((hp.push (kdv_tup us)).push (excO C hp.objs.size)).get? b = some o := fun b o z => Heap.get?_push_of_some _ (Heap.get?_push_of_some _ z)
  have at_ : ((hp.push (kdv_tup us)).push (excO C hp.objs.size)).get? (hp.objs.size + 1) = some (excO C hp.objs.size) := by heap_get
  have I2 : Inv X pins σ (upd H1 (hp.objs.size + 1) (exo (hp.objs.size + 1) C none)) ⟨(hp.push (kdv_tup us)).push (excO C hp.objs.size), g, dr, tk, os⟩ :=
    I1.laid (t' := tk) (a := hp.objs.size + 1) (o := exo (hp.objs.size + 1) C none) (h' := (hp.push (kdv_tup us)).push (excO C hp.objs.size)) keeps up (exo_ok at_)
  have r2 : Vals (V.ref (hp.objs.size + 1) :: vs) (Value.ref (hp.objs.size + 1) :: us) := .cons rfl r1
  have say : spX C fs ks (V.ref (hp.objs.size + 1) :: vs) (upd H1 (hp.objs.size + 1) (exo (hp.objs.size + 1) C none)) (fun v H2 => v = .non ∧ ∃ d, H1 d = none ∧ d ≠ hp.objs.size + 1 ∧ H2 = upd (upd (upd H1 (hp.objs.size + 1) (exo (hp.objs.size + 1) C none)) d (exd d (flds fs vs))) (hp.objs.size + 1) (exo (hp.objs.size + 1) C (some d))) (fun _ _ _ => False) :=
    ⟨_, vs, rfl, hk, upd_same, fun d h1 h2 => ⟨rfl, d, by rw [upd_ne h2] at h1; exact h1, h2, rfl⟩⟩
  have len : (Value.ref (hp.objs.size + 1) :: us).length = ps.length := by rw [← r2.length]; exact F1.len _ _ _ _ say
  have b := hb _ (Value.ref (hp.objs.size + 1) :: us) I2.kIn (by rw [List.append_nil]; exact len)
  rw [List.append_nil] at b
  have sz : us.length ≤ sizeLine := by rw [← Paired.length r1, sizeLine_eq]; omega
  refine wpAny_call (call_own T.F hT (I1.kIn _ _ hC) (looks_findIn I1.kIn iC) (fun self => bind_fn I1.kIn self tI) sz (codeAny_mono (F1.run _ X.stack _ _ ⟨Value.ref (hp.objs.size + 1) :: us, []⟩ (Value.ref (hp.objs.size + 1) :: us) _ _ _ (hr.make C us []) (I2.env0.make C us []) b r2 say) fun r s' hq => ?_))
  match r, hq with
  | .error er, hq => exact (okX_passes (pins := pins) (σ := σ) hq).elim
  | .ok (.ret u), ⟨v, H2, eos, bare, un, ok2, rv, ev, d, n1, ne, eH⟩ =>
    subst ev
    obtain ⟨h2, g2, d2, t2, os2⟩ := s'
    obtain rfl : os2 = os := eos
    have J : Inv X pins σ H2 ⟨h2, g2, d2, t2, os2⟩ := I2.call' (ch := []) rfl un ok2 bare fun b z => absurd z (by simp)
    exact ⟨rv, go _ d _ h2 g2 d2 t2 H2 new n1 ne up keeps un ok2 bare J eH⟩
  | .ok .next, hq => exact False.elim hq
  | .ok .brk, hq => exact False.elim hq
  | .ok .cont, hq => exact False.elim hq
theorem pmk_x (T : BaseF B newId initId bm) (c : OexG X.K C bm newId) (iC : findIn X.K (.ref C) "__init__" = some (some (.ref fI))) (tI : typeIn X.K (.ref fI) = some (.type "function"))
    (F1 : FnOk X.prog X.w X.K X.mg X.base (L2.CX X.prog X.w) k fI fd ps (spX C fs ks)) (hr : Room (k + 1) X.A) (hb : Binds X.K fd ps []) (hg : Gl X x) (hm : X.mg x = some (.ref C)) (ha : PA X (e :: es) ta)
    (hdb : (x == ("__debug__" : Str)) = false := by decide) (he : starEach (e :: es) X.env = (false, eval e X.env) :: starEach es X.env := by rfl) (hpl : (backTo pos (starEach es X.env)).any (·.1) = false := by rfl) :
    PMk X (.Call (.Name x p) (e :: es) [] pos) (tMkX C fs ks ta) := fun pins s σ H Q I h =>
  wpAny_Call_Name_kw (ld_glob I hg hm (callWith_K (h₀ := X.base) I.ok.mod.kin c.kC (thn (ha.run pos pins s σ H _ I h) fun us s1 ⟨vs, H1, I1, r1, hz, hk, q1⟩ => ⟨I1.kIn, by
    refine run_x T c iC tI F1 hr hb I1 r1 hz hk fun a d h0 h2 g2 d2 t2 H2 na nd ne up keeps un ok2 bare _ eH => ?_
    have ea : H2 a = some (exo a C (some d)) := by rw [eH, upd_same]
    have ed : H2 d = some (exd d (flds fs vs)) := by rw [eH, upd_ne ne, upd_same]
    obtain ⟨hp, g, dr, tk, os⟩ := s1
    refine mk_end (raises_own c.exC c.tyC) I1 up keeps un ok2 rfl bare ea ed nd ?_
    rw [eH, gone_eq na ne]
    exact q1 d nd⟩) he hpl) hdb)
theorem pe_x (T : BaseF B newId initId bm) (c : OexG X.K C bm newId) (iC : findIn X.K (.ref C) "__init__" = some (some (.ref fI))) (tI : typeIn X.K (.ref fI) = some (.type "function"))
    (F1 : FnOk X.prog X.w X.K X.mg X.base (L2.CX X.prog X.w) k fI fd ps (spX C fs ks)) (hr : Room (k + 1) X.A) (hb : Binds X.K fd ps []) (hg : Gl X x) (hm : X.mg x = some (.ref C)) (ha : PA X (e :: es) ta)
    (hdb : (x == ("__debug__" : Str)) = false := by decide) (he : starEach (e :: es) X.env = (false, eval e X.env) :: starEach es X.env := by rfl) (hpl : (backTo pos (starEach es X.env)).any (·.1) = false := by rfl) :
    PE X (.Call (.Name x p) (e :: es) [] pos) (tValX C fs ks ta) := ⟨fun pins s σ H Q I h =>
  wpAny_Call_Name_kw (ld_glob I hg hm (callWith_K (h₀ := X.base) I.ok.mod.kin c.kC (thn (ha.run pos pins s σ H _ I h) fun us s1 ⟨vs, H1, I1, r1, hz, hk, q1⟩ => ⟨I1.kIn, by
    refine run_x T c iC tI F1 hr hb I1 r1 hz hk fun a d h0 h2 g2 d2 t2 H2 na nd ne up keeps un ok2 bare J eH => ?_
    have key := q1 a d na nd ne
    rw [← kept_eq (o1 := exo a C none) ne, ← eH] at key
    exact ⟨.ref a, H2, J, rfl, key⟩⟩) he hpl) hdb)⟩
end
end XG
end
section
set_option maxHeartbeats 4000000
/-! X4: try with any number of except clauses, named or not; what a suite may ask of its exception. -/
namespace XG
open PySem PySem.Spec PySem.W PySem.Calls PyProof.Rows PySem.HandSPX L2
/-- a clause: its class, the slot of its name, its suite -/
structure Hd where
  c : Value
  i : Option Nat
  ts : Addr → Value → Option Addr → TS
def Hd.ends (h : Hd) (D : Ends) : Ends := match h.i with
  | none => D
  | some i => { nx := fun τ H => D.nx (τ.set i none) H, rt := D.rt, bk := fun τ H => D.bk (τ.set i none) H, ct := fun τ H => D.ct (τ.set i none) H }
def Hd.slot (h : Hd) (a : Addr) (σ : L2.St) : L2.St := match h.i with
  | none => σ
  | some i => σ.set i (some (.ref a))
def wG (K : Frag) (Wout : WX) (D : Ends) : List Hd → WX
  | [] => Wout
  | h :: r => fun cls d σ H => ∃ b, exmOne K cls h.c = some b ∧ (b = true → ∀ a, H a = none → h.ts a cls d (h.ends D) (h.slot a σ) H) ∧ (b = false → wG K Wout D r cls d σ H)
/-- a suite's derivation, for whatever exception comes -/
def SuiteOk (X : Cx) (b : List Stmt) (ts : Addr → Value → Option Addr → TS) : Prop := ∀ (a : Addr) (oe : Obj) (cls : Value) (d : Option Addr) (pn : List (Addr × Obj)), Zc cls d oe → (∃ vs, oe.data = .fields vs) → PSs (X.suite a ((a, oe) :: pn)) b (ts a cls d)
inductive HdsG (X : Cx) : List ExceptHandler → List Hd → Prop
  | nil : HdsG X [] []
  | bare {x : Str} {c : Value} {ts : Addr → Value → Option Addr → TS} {b0 : Stmt} {b : List Stmt} {np pos : Pos} {r : List ExceptHandler} {l : List Hd} (hc : Names X x c) (hs : SuiteOk X (b0 :: b) ts) (t : HdsG X r l) :
      HdsG X (.ExceptHandler (some (.Name x np)) none (b0 :: b) pos :: r) (⟨c, none, ts⟩ :: l)
  | named {x n : Str} {i : Nat} {c : Value} {ts : Addr → Value → Option Addr → TS} {b0 : Stmt} {b : List Stmt} {np pos : Pos} {r : List ExceptHandler} {l : List Hd} (hc : Names X x c) (nd : X.N.Nodup) (hi : X.N[i]? = some n) (hl : X.env.kindOf n = some .local) (hs : SuiteOk X (b0 :: b) ts) (t : HdsG X r l) :
      HdsG X (.ExceptHandler (some (.Name x np)) (some n) (b0 :: b) pos :: r) (⟨c, some i, ts⟩ :: l)
section
variable {X : Cx} {Wout : WX} {D : Ends} {pins : List (Addr × Obj)} {σ : L2.St} {H : Hp} {a : Addr} {B : Heap} {cls : Value} {d : Option Addr} {s sI : Shared}
/-- where a clause's suite begins: the state with the exception at a pinned -/
theorem suite_at (J : Inv X pins σ H sI) (hf : X.env.frame = some X.env.locals) (out : ∀ b o, sI.heap.get? b = some o → b ∉ frs X.stack → B.get? b = some o) (es : X.stack = X.env :: X.outer) {g : Heap} (fl : FlyingZ B (X.env :: X.outer) a (Zc cls d) g) (up : sI.heap.UpToSlots g) (eo : s.os = sI.os) (ag : AllBare s.gens) (na : H a = none) :
    ∃ oe, Zc cls d oe ∧ (∃ vs, oe.data = .fields vs) ∧ g.get? a = some oe ∧ Inv (X.suite a ((a, oe) :: (X.pn ++ pins))) [] σ H { s with heap := g } := by
  obtain ⟨oe, vs, ge, z, de⟩ := fl.there
  have off : a ∉ frs (X.env :: X.outer) := fun m => by
    obtain ⟨_, o2, e2, no⟩ := fl.2.2.1.mem m
    rw [ge] at e2
    cases e2
    exact no _ de
  have nl : a ≠ X.env.locals := fun e => off (List.mem_filterMap.mpr ⟨X.env, by simp, by rw [hf, e]⟩)
  have nf : a ∉ X.fs := fun m => by
    obtain ⟨v, hv, e⟩ := List.mem_filterMap.mp m
    exact off (List.mem_filterMap.mpr ⟨v, List.mem_cons_of_mem _ hv, e⟩)
  exact ⟨oe, z, ⟨vs, de⟩, ge, (J.landed (s' := { s with heap := g }) out fl.1 up eo ag).suite ge de na nl nf⟩
theorem clauses (tk : Takes X Wout) (es : X.stack = X.env :: X.outer) (hf : X.env.frame = some X.env.locals) (J : Inv X pins σ H sI) (out : ∀ b o, sI.heap.get? b = some o → b ∉ frs X.stack → B.get? b = some o) {g : Heap} (fl : FlyingZ B (X.env :: X.outer) a (Zc cls d) g) (up : sI.heap.UpToSlots g) (eo : s.os = sI.os) (ag : AllBare s.gens) (na : H a = none) :
    ∀ {hds : List ExceptHandler} {l : List Hd}, HdsG X hds l → wG X.K Wout D l cls d σ H → wpAny (model X.prog X.w) X.A (handleBy (.ref a) X.env hds) (SP X pins D) X.xe { s with heap := g } := by
  intro hds l hh
  obtain ⟨oe3, z3, _, ge3, I3⟩ := suite_at (s := s) J hf out es fl up eo ag na
  have look : Looks (model X.prog X.w) g (typeOf (.ref a)) cls := fun A Q E s k q => wpAny_typeOf_ref (k _ _ ge3) (by rw [z3.1]; exact q)
  have test : ∀ {x : Str} {c : Value} {np : Pos} {Q : Value → Shared → Prop} {E : Value → Shared → Prop}, Names X x c → Q c { s with heap := g } → wpAny (model X.prog X.w) (X.A.mark (some (.ref a))) (eval (.Name x np) X.env) Q E { s with heap := g } := by
    rintro x c np Q E ⟨gl, nd, h | ⟨h, hv, nn⟩⟩ q
    · exact ld_glob (X := X.suite a ((a, oe3) :: (X.pn ++ pins))) I3 gl h q nd
    · exact ld_blt (X := X.suite a ((a, oe3) :: (X.pn ++ pins))) I3 gl h hv q nn nd
  induction hh with
  | nil =>
    intro w
    refine wpAny_handleBy_nil ?_
    obtain ⟨_, _, _, oe, vs, tb, _, _, ge, _, de, e1, _⟩ := id fl
    unfold PySem.passOn
    refine wpAny_bind (wpAny_field ge de e1 ?_)
    rw [if_neg (by simp)]
    have thrown : wpAny (model X.prog X.w) X.A (setFlight (.ref a) X.env.frame) (fun _ s4 => wpAny (model X.prog X.w) X.A (throw (.ref a) : Sem Flow) (SP X pins D) X.xe s4) X.xe { s with heap := g } := by
      rw [hf]
      refine setFlight_upZ fl fun g4 held4 up4 => wpAny_throw (tk _ _ ?_)
      exact ⟨a, B, sI, pins, σ, H, cls, d, rfl, J, out, up.trans up4, .inr (.inr (by rw [es]; exact held4)), na, eo, ag, w⟩
    first
      | exact wpAny_bind (wpAny_pure (wpAny_bind thrown))
      | exact wpAny_bind thrown
  | bare hc hs t ih =>
    rintro ⟨b, hb, yes, no⟩
    refine wpAny_handleBy_cons (codeAny_handlers_test (test hc ((exm_one (M := model X.prog X.w) I3.kIn look hb).here ?_))) (by intro q; cases q)
    cases b with
    | false => exact ih (no rfl)
    | true =>
      refine codeAny_handlers_suite (lands_againZ fl fun g4 fl4 up4 => ?_)
      obtain ⟨oe, z, dt, ge, I4⟩ := suite_at (s := s) J hf out es fl4 (up.trans up4) eo ag na
      refine wpAny_mono ((hs a oe cls d (X.pn ++ pins) z dt).run [] _ _ H _ I4 (yes rfl a na)) (fun f s6 q => ?_) fun _ _ (z : False) => z.elim
      match f, q with
      | .next, ⟨_, _, I6, q6⟩ => exact ⟨_, _, I6.unsuite J.ok, q6⟩
      | .brk, ⟨_, _, I6, q6⟩ => exact ⟨_, _, I6.unsuite J.ok, q6⟩
      | .cont, ⟨_, _, I6, q6⟩ => exact ⟨_, _, I6.unsuite J.ok, q6⟩
      | .ret u, ⟨_, _, _, I6, r6, q6⟩ => exact ⟨_, _, _, I6.unsuite J.ok, r6, q6⟩
  | @named x n i c ts b0 b np pos r l hc nd hi hl hs t ih =>
    rintro ⟨b, hb, yes, no⟩
    refine wpAny_handleBy_cons (codeAny_handlers_test (test hc ((exm_one (M := model X.prog X.w) I3.kIn look hb).here ?_))) (by intro q; cases q)
    cases b with
    | false => exact ih (no rfl)
    | true =>
      refine codeAny_handlers_suite_as (lands_againZ fl fun g4 fl4 up4 => ?_)
      obtain ⟨oe, z, dt, ge, I4⟩ := suite_at (s := s) J hf out es fl4 (up.trans up4) eo ag na
      refine store_ok (X := X.suite a ((a, oe) :: (X.pn ++ pins))) (v := .ref a) I4 nd hi (.inl hl) rfl (fun s5 I5 => ?_) (.inr hl)
      refine wpAny_mono ((hs a oe cls d (X.pn ++ pins) z dt).run [] s5 _ H _ I5 (yes rfl a na)) (fun f s6 q => ?_) fun _ _ (z : False) => z.elim
      have past : ∀ {σ6 : L2.St} {H6 : Hp} {Q : Shared → Prop}, Inv (X.suite a ((a, oe) :: (X.pn ++ pins))) [] σ6 H6 s6 → (∀ s7, Inv X pins (σ6.set i none) H6 s7 → Q s7) →
          wpAny (model X.prog X.w) X.A (do bindName X.env n .none; unbindBehindTheSuite X.env n pos) (fun _ s7 => Q s7) X.xe s6 := fun I6 k => gone_ok (I6.unsuite J.ok) nd hi hl k
      match f, q with
      | .next, ⟨_, _, I6, q6⟩ => exact past I6 fun s7 J7 => ⟨_, _, J7, q6⟩
      | .brk, ⟨_, _, I6, q6⟩ => exact past I6 fun s7 J7 => ⟨_, _, J7, q6⟩
      | .cont, ⟨_, _, I6, q6⟩ => exact past I6 fun s7 J7 => ⟨_, _, J7, q6⟩
      | .ret u, ⟨_, _, _, I6, r6, q6⟩ => exact past I6 fun s7 J7 => ⟨_, _, _, J7, r6, q6⟩
/-- try: body, except ..: suites -/
theorem ps_tryG {body : List Stmt} {h0 : ExceptHandler} {hds : List ExceptHandler} {l : List Hd} {pos : Pos} {tb : WX → TS} (es : X.stack = X.env :: X.outer) (hf : X.env.frame = some X.env.locals) (tk : Takes X Wout)
    (hb : ∀ (W : WX) (pn : List (Addr × Obj)) (xe : Value → Shared → Prop), Takes (X.tr pn xe) W → PSs (X.tr pn xe) body (tb W)) (hh : HdsG X (h0 :: hds) l) : PS X (.Try body (h0 :: hds) [] [] pos) (fun D σ H => tb (wG X.K Wout D l) D σ H) :=
  ⟨fun pins s σ H D I h => by
    have ok := I.ok
    have fr : X.A.frames = some (X.env :: X.outer) := by rw [ok.frames, es]
    refine wpAny_Try_except (wpAny_mono ((hb (wG X.K Wout D l) (X.pn ++ pins) (fun e s1 => wpAny (model X.prog X.w) X.A (noteFrame e X.env) (fun _ s2 => wpAny (model X.prog X.w) X.A (setFlight e none) (fun _ s3 =>
      wpAny (model X.prog X.w) X.A (handleBy e X.env (h0 :: hds)) (SP X pins D) X.xe s3) X.xe s2) X.xe s1) (fun u s2 air => ?_)).run [] s σ H D (I.toTry _) h) (fun f s1 q => ?_) fun e s1 q => q)
    · obtain ⟨a, B, sI, pins2, σ2, H2, cls, d, rfl, J2, out, up, sky, na, eo, ag, w⟩ := air
      show wpAny (model X.prog X.w) X.A (noteFrame (.ref a) X.env) _ _ _
      refine Sky.land Zc.steady fr hf (show Sky B (X.env :: X.outer) a (Zc cls d) X.env.locals s2.heap by rw [← es]; exact sky) fun g fl up2 => ?_
      exact clauses tk es hf (J2.ofTry ok) out fl (up.trans up2) eo ag na hh w
    · match f, q with
      | .next, ⟨σ2, H2, J, q⟩ => exact wpAny_execs_nil ⟨σ2, H2, J.ofTry ok, q⟩
      | .brk, ⟨σ2, H2, J, q⟩ => exact ⟨σ2, H2, J.ofTry ok, q⟩
      | .cont, ⟨σ2, H2, J, q⟩ => exact ⟨σ2, H2, J.ofTry ok, q⟩
      | .ret u, ⟨v, σ2, H2, J, r, q⟩ => exact ⟨v, σ2, H2, J.ofTry ok, r, q⟩⟩
end
end XG
end
section
/-! X5: raise, try, the caught exception, over trees. -/
namespace TL
open PySem PySem.Spec L2
open XG (Kd okAll OexG BaseF spX)
def kdD : Kd → D → Prop
  | .any, _ => True
  | .str, d => ∃ s, d = .str s ∧ s.length ≤ 1000000
  | .int, d => ∃ i : Int, d = .int i ∧ i.natAbs.log2 < 1920
def okD : List Kd → List D → Prop
  | [], ds => ds = []
  | k :: ks, ds => ∃ d r, ds = d :: r ∧ kdD k d ∧ okD ks r
abbrev fldsD (fs : List Str) (ds : List D) : List (Str × D) := (fs.zip ds).reverse
section
variable {B : Bd} {G : GH} {H : Hp}
theorem okD_ok : ∀ {ks : List Kd} {ds : List D} {vs : List V}, okD ks ds → RpL B G H ds vs → okAll ks vs
  | [], _, _, h, r => by rw [show _ = [] from h] at r; exact r.nil_inv
  | k :: ks, _, _, ⟨d, q, rfl, hk, hq⟩, r => by
    obtain ⟨v, u, rfl, r1, r2⟩ := r.uncons
    refine ⟨v, u, rfl, ?_, okD_ok hq r2⟩
    cases k with
    | any => exact trivial
    | str => obtain ⟨s, rfl, l⟩ := hk; exact ⟨s, r1.str_inv, l⟩
    | int => obtain ⟨i, rfl, l⟩ := hk; exact ⟨i, r1.int_inv, l⟩
theorem rpF_one {f : Str} {d : D} {v : V} (h : Rp B G H d v) : RpF B G H [(f, d)] [(f, v)] := by
  unfold RpF; exact ⟨v, [], rfl, h, by unfold RpF; rfl⟩
theorem rpF_app : ∀ {xs ys : List (Str × D)} {vs us : List (Str × V)}, RpF B G H xs vs → RpF B G H ys us → RpF B G H (xs ++ ys) (vs ++ us)
  | [], _, vs, _, h, h2 => by unfold RpF at h; rw [h]; exact h2
  | (k, d) :: xs, _, vs, _, h, h2 => by
    unfold RpF at h
    obtain ⟨v, r, rfl, h1, h3⟩ := h
    show RpF B G H ((k, d) :: (xs ++ _)) ((k, v) :: (r ++ _))
    unfold RpF
    exact ⟨v, _, rfl, h1, rpF_app h3 h2⟩
theorem rpF_flds : ∀ {fs : List Str} {ds : List D} {vs : List V}, RpL B G H ds vs → RpF B G H (fldsD fs ds) (XG.flds fs vs)
  | [], _, _, _ => by simp [fldsD, XG.flds, RpF]
  | _ :: _, [], vs, r => by rw [r.nil_inv]; simp [fldsD, XG.flds, RpF]
  | f :: fs, d :: ds, vs, r => by
    obtain ⟨v, u, rfl, r1, r2⟩ := r.uncons
    show RpF B G H ((f, d) :: fs.zip ds).reverse ((f, v) :: fs.zip u).reverse
    rw [List.reverse_cons, List.reverse_cons]
    exact rpF_app (rpF_flds r2) (rpF_one r1)
end
section
variable {P : Program} {w : World} {K : PySem.W.Frag} {mg : Str → Option Value} {base : Heap}
/-- x is an exception class with an __init__ that stores its arguments in the fields fs -/
def CalX (P : Program) (w : World) (K : PySem.W.Frag) (mg : Str → Option Value) (base : Heap) (x : Str) (C : Addr) (k : Nat) (fs : List Str) (ks : List Kd) : Prop :=
  ∃ (B newId initId : String) (bm : List Value) (fI : Addr) (fd : FuncData) (ps : List Str), BaseF B newId initId bm ∧ OexG K C bm newId ∧ PySem.W.findIn K (.ref C) "__init__" = some (some (.ref fI)) ∧ PySem.W.typeIn K (.ref fI) = some (.type "function") ∧
    FnOk P w K mg base (L2.CX P w) k fI fd ps (spX C fs ks) ∧ Binds K fd ps [] ∧ mg x = some (.ref C)
/-- x is an exception class without an own __init__ -/
def CalE (K : PySem.W.Frag) (mg : Str → Option Value) (x : Str) (C : Addr) : Prop :=
  ∃ (B newId initId : String) (bm : List Value), ExcBaseFacts B newId initId bm ∧ PySem.W.excIn K C bm newId = true ∧ mg x = some (.ref C) ∧ PySem.W.keepIn K (.ref C) = true ∧ PySem.W.subIn K (.ref C) (.type "BaseException") = some true ∧ PySem.W.typeIn K (.ref C) = some (.type "type")
end
def sRaiseX (C : Addr) (fs : List Str) (ks : List Kd) (ta : A1) : S1 := fun _ E τ G => ta τ G (fun ds G1 => ds.length ≤ 1000 ∧ okD ks ds ∧ E (.ref C) (fldsD fs ds) τ G1) (fun c f g => E c f τ g)
def sRaiseE (C : Addr) : S1 := fun _ E τ G => E (.ref C) [] τ G
section
variable {X : Cx} {W : WX} {k : Nat} {C : Addr} {fs : List Str} {ks : List Kd} {x : Str} {e : Expr} {es : List Expr} {t : A1} {p p2 pos pos2 : Pos}
theorem qs_raiseX (c : CalX X.prog X.w X.K X.mg X.base x C k fs ks) (cn : Cn X W) (hc : X.calm = true) (hr : Room (k + 1) X.A) (hg : Gl X x) (ha : QA X W (e :: es) t) (hdb : (x == ("__debug__" : Str)) = false := by decide)
    (he : starEach (e :: es) X.env = (false, eval e X.env) :: starEach es X.env := by rfl) (hpl : (backTo pos (starEach es X.env)).any (·.1) = false := by rfl) : QS X W (.Raise (some (.Call (.Name x p) (e :: es) [] pos)) none pos2) (sRaiseX C fs ks t) := by
  obtain ⟨B, nw, ini, bm, fI, fd, ps, hB, hO, hi, ht, hF, hb, hm⟩ := c
  refine PS.imp (ps_raise hc cn.tk (XG.pmk_x hB hO hi ht hF hr hb hg hm ha hdb he hpl)) fun D' σ H ⟨F, τ, G, DT, KT, P, q⟩ => ?_
  refine LA.inS P (k := fun ds τ G1 => ds.length ≤ 1000 ∧ okD ks ds ∧ KT (.ref C) (fldsD fs ds) τ G1) q fun vs ds G1 H1 p1 r1 s1 q1 => ?_
  refine ⟨by rw [r1.length]; exact q1.1, okD_ok q1.2.1 r1, fun d hd => ?_⟩
  have st : Stp G1 H1 G1 (upd H1 d (.xd (XG.flds fs vs))) := Stp.fresh hd
  exact p1.ex _ _ _ σ τ G1 _ (p1.sl.step p1.wd st) ⟨p1.wd.of_none hd, _, upd_same, (rpF_flds r1).step p1.wd st⟩ (p1.wd.fresh hd) st q1.2.2
theorem qs_raiseE {m : Str} {j : Nat} (c : CalE X.K X.mg x C) (cn : Cn X W) (hc : X.calm = true) (hg : Gl X x) (hdb : (x == ("__debug__" : Str)) = false := by decide) : QS X W (.Raise (some (.Call (.Name x p) [.Constant (.str m) j p2] [] pos)) none pos2) (sRaiseE C) := by
  obtain ⟨B, nw, ini, bm, hB, hO, hm, hk, hs, ht⟩ := c
  exact PS.imp (ps_raise hc cn.tk (pmk_own hB hO hm hk (raises_own hs ht) hg hdb)) fun D' σ H ⟨F, τ, G, DT, KT, P, q⟩ => P.ex _ _ _ σ τ G H P.sl rfl P.wd Stp.refl q
end
/-! ### try -/
structure Hx where
  c : Value
  i : Option Nat
  ts : Addr → Value → Option Addr → S1
def Hx.ends (h : Hx) (D : En) : En := match h.i with
  | none => D
  | some i => { nx := fun τ G => D.nx (τ.set i none) G, rt := D.rt, bk := fun τ G => D.bk (τ.set i none) G, ct := fun τ G => D.ct (τ.set i none) G }
def Hx.slot (h : Hx) (a : Addr) (cls : Value) (d : Option Addr) (fs : List (Str × D)) (τ : Sl) : Sl := match h.i with
  | none => τ
  | some i => τ.set i (some (.exc a cls d fs))
def Hx.low (B : Bd) (h : Hx) : XG.Hd := ⟨h.c, h.i, fun a cls d => LS B WF (h.ts a cls d)⟩
def wT (K : PySem.W.Frag) (DT : En) (E : KS) : List Hx → KS
  | [] => E
  | h :: r => fun cls fs τ G => ∃ b, PySem.W.exmOne K cls h.c = some b ∧ (b = true → ∀ a d, (d = none → fs = []) → h.ts a cls d (h.ends DT) (fun _ _ _ _ => False) (h.slot a cls d fs τ) G) ∧ (b = false → wT K DT E r cls fs τ G)
def sTry (K : PySem.W.Frag) (tb : S1) (l : List Hx) : S1 := fun DT E τ G => tb DT (wT K DT E l) τ G
section
variable {B : Bd} {W : WX} {D' : Ends} {σ : L2.St} {H : Hp} {DT : En} {KT : KS} {τ : Sl} {G : GH} {K : PySem.W.Frag}
theorem rp_exc {a : Addr} {cls : Value} {d : Option Addr} {fs : List (Str × D)} (x : RpX B G H d fs) : Rp B G H (.exc a cls d fs) (.ref a) := by
  cases d with
  | none => unfold RpX at x; unfold Rp; exact ⟨rfl, x⟩
  | some d => unfold RpX at x; unfold Rp; obtain ⟨o, fvs, h, r⟩ := x; exact ⟨rfl, fvs, h, o, r⟩
theorem wT_ok {F : Addr → Prop} (P : PtS (B.hide F) W D' σ H DT KT τ G) {cls : Value} {d : Option Addr} {fs : List (Str × D)} (x : RpX (B.hide F) G H d fs) : ∀ {l : List Hx}, wT K DT KT l cls fs τ G → XG.wG K W D' (l.map (Hx.low B)) cls d σ H
  | [], h => P.ex cls d fs σ τ G H P.sl x P.wd Stp.refl h
  | h :: r, ⟨b, hb, yes, no⟩ => by
    refine ⟨b, hb, fun e a na => ?_, fun e => wT_ok P x (no e)⟩
    have q := yes e a d fun z => by subst z; exact x
    obtain ⟨c, i, ts⟩ := h
    cases i with
    | none => exact ⟨F, τ, G, DT, _, ⟨P.sl, P.wd, P.nx, P.rt, P.bk, P.ct, fun _ _ _ _ _ _ _ _ _ _ _ (z : False) => z.elim⟩, q⟩
    | some i =>
      refine ⟨F, τ.set i (some (.exc a cls d fs)), G, Hx.ends ⟨c, some i, ts⟩ DT, _, ⟨P.sl.set (rp_exc x), P.wd, fun σ' τ' G' H' r w s q => P.nx _ _ G' H' r.clear w s q, P.rt, fun σ' τ' G' H' r w s q => P.bk _ _ G' H' r.clear w s q, fun σ' τ' G' H' r w s q => P.ct _ _ G' H' r.clear w s q, fun _ _ _ _ _ _ _ _ _ _ _ (z : False) => z.elim⟩, q⟩
theorem ls_try {tb : S1} {l : List Hx} (h : LS B W (sTry K tb l) D' σ H) : LS B (XG.wG K W D' (l.map (Hx.low B))) tb D' σ H := by
  obtain ⟨F, τ, G, DT, KT, P, q⟩ := h
  exact ⟨F, τ, G, DT, _, ⟨P.sl, P.wd, P.nx, P.rt, P.bk, P.ct, fun c d fs σ' τ' G' H' r x w s q => wT_ok (P.next r w s) x q⟩, q⟩
end
/-- the context of a try's body, as its rules see it -/
theorem Cn.tr {X : Cx} {W W' : WX} {pn : List (Addr × Obj)} {xe : Value → Shared → Prop} (cn : Cn X W) (tk : Takes (X.tr pn xe) W') : Cn (X.tr pn xe) W' := ⟨cn.grd, tk⟩
inductive HxOk (X : Cx) : List ExceptHandler → List Hx → Prop
  | nil : HxOk X [] []
  | bare {x : Str} {c : Value} {ts : Addr → Value → Option Addr → S1} {b0 : Stmt} {b : List Stmt} {np pos : Pos} {r : List ExceptHandler} {l : List Hx} (hc : Names X x c) (hs : ∀ (a : Addr) (oe : Obj) (cls : Value) (d : Option Addr) (pn : List (Addr × Obj)), Zc cls d oe → (∃ vs, oe.data = .fields vs) → QSs (X.suite a ((a, oe) :: pn)) WF (b0 :: b) (ts a cls d)) (t : HxOk X r l) :
      HxOk X (.ExceptHandler (some (.Name x np)) none (b0 :: b) pos :: r) (⟨c, none, ts⟩ :: l)
  | named {x n : Str} (i : Nat) {c : Value} {ts : Addr → Value → Option Addr → S1} {b0 : Stmt} {b : List Stmt} {np pos : Pos} {r : List ExceptHandler} {l : List Hx} (hc : Names X x c) (nd : X.N.Nodup) (hi : X.N[i]? = some n) (hl : X.env.kindOf n = some .local)
      (hs : ∀ (a : Addr) (oe : Obj) (cls : Value) (d : Option Addr) (pn : List (Addr × Obj)), Zc cls d oe → (∃ vs, oe.data = .fields vs) → QSs (X.suite a ((a, oe) :: pn)) WF (b0 :: b) (ts a cls d)) (t : HxOk X r l) :
      HxOk X (.ExceptHandler (some (.Name x np)) (some n) (b0 :: b) pos :: r) (⟨c, some i, ts⟩ :: l)
theorem HxOk.low {X : Cx} {hds : List ExceptHandler} {l : List Hx} (h : HxOk X hds l) : XG.HdsG X hds (l.map (Hx.low (bd X))) := by
  induction h with
  | nil => exact .nil
  | bare hc hs t ih => exact .bare hc hs ih
  | named i hc nd hi hl hs t ih => exact .named hc nd hi hl hs ih
theorem qs_try {X : Cx} {W : WX} {body : List Stmt} {h0 : ExceptHandler} {hds : List ExceptHandler} {l : List Hx} {pos : Pos} {tb : S1} (cn : Cn X W) (es : X.stack = X.env :: X.outer) (hf : X.env.frame = some X.env.locals)
    (hb : ∀ (W' : WX) (pn : List (Addr × Obj)) (xe : Value → Shared → Prop), Takes (X.tr pn xe) W' → QSs (X.tr pn xe) W' body tb) (hh : HxOk X (h0 :: hds) l) : QS X W (.Try body (h0 :: hds) [] [] pos) (sTry X.K tb l) :=
  PS.imp (XG.ps_tryG (tb := fun W' => LS (bd X) W' tb) es hf cn.tk hb hh.low) fun D' σ H h => ls_try h
theorem names_own {X : Cx} {x : Str} {C : Addr} (hg : Gl X x) (hm : X.mg x = some (.ref C)) (hd : (x == ("__debug__" : Str)) = false := by decide) : Names X x (.ref C) := ⟨hg, hd, .inl hm⟩
theorem names_blt {X : Cx} {x : Str} {T : String} (hg : Gl X x) (hm : X.mg x = none) (hv : bootBuiltins x = some (.type T)) (hn : x ≠ "__name__" := by decide) (hd : (x == ("__debug__" : Str)) = false := by decide) : Names X x (.type T) := ⟨hg, hd, .inr ⟨hm, hv, hn⟩⟩
/-! ### the exception in its suite -/
section
variable {X : Cx} {W : WX} {a : Addr} {oe : Obj} {cls : Value} {d : Option Addr} {pn : List (Addr × Obj)} {e : Expr} {es : List Expr} {te : E1} {ta : A1} {n : Str} {p pos : Pos}
/-- e.f -/
def eXf (K : PySem.W.Frag) (a : Addr) (cls : Value) (d : Option Addr) (f : Str) (te : E1) : E1 := fun τ G Q E => te τ G (fun x G1 => match x with
  | .exc a' c' d' fs => a' = a ∧ c' = cls ∧ d' = d ∧ (∃ C, cls = .ref C ∧ XfC K C ∧ PySem.W.findIn K (.ref C) f = some none) ∧ (match getK fs f with
    | some v => Q v G1
    | none => False)
  | _ => False) E
theorem qe_xf (hz : Zc cls d oe) (hf : ∃ vs, oe.data = .fields vs) (he : QE (X.suite a ((a, oe) :: pn)) W e te) (hb : attributeBase e n X.env (eval e X.env) = eval e X.env := by rfl) :
    QE (X.suite a ((a, oe) :: pn)) W (.Attribute e n pos) (eXf X.K a cls d n te) := by
  by_cases h : ∃ C, cls = .ref C ∧ XfC X.K C ∧ PySem.W.findIn X.K (.ref C) n = some none
  · obtain ⟨C, rfl, xf, no⟩ := h
    refine PE.imp (pe_xf xf no hz hf he hb) fun σ H Q ⟨F, τ, G, QT', ET, P, q⟩ => ?_
    refine LE.bind (PT := P) (k := fun x τ G1 Q E => match x with
      | .exc a' c' d' fs => a' = a ∧ c' = .ref C ∧ d' = d ∧ (∃ C', (Value.ref C : Value) = .ref C' ∧ XfC X.K C' ∧ PySem.W.findIn X.K (.ref C') n = some none) ∧ (match getK fs n with
        | some v => Q v G1
        | none => False)
      | _ => False) q fun v x G1 H1 p1 r1 s1 q1 => ?_
    split at q1
    · rename_i a' c' d' fs
      obtain ⟨rfl, rfl, rfl, _, q2⟩ := q1
      split at q2
      · rename_i u eu
        cases d' with
        | none =>
          unfold Rp at r1
          rw [r1.2] at eu
          cases eu
        | some dd =>
          unfold Rp at r1
          obtain ⟨rfl, fvs, hd, ho, rf⟩ := r1
          obtain ⟨v2, e2, r2⟩ := (RpG.f.mp rf).some eu
          exact ⟨rfl, rfl, dd, fvs, v2, rfl, hd, (lookup_valV n fvs).trans e2, p1.ok _ _ G1 H1 r2 p1.wd Stp.refl q2⟩
      · exact q2.elim
    · exact q1.elim
  · refine ⟨fun pins s σ H Q I ⟨F, τ, G, QT', ET, P, q⟩ => attr_of hb (thn (he.run pins s σ H (fun _ _ => False) I ?_) fun u s1 ⟨v, H1, I1, r1, z⟩ => z.elim)⟩
    refine LE.bind (PT := P) (k := fun x τ G1 Q E => match x with
      | .exc a' c' d' fs => a' = a ∧ c' = cls ∧ d' = d ∧ (∃ C, cls = .ref C ∧ XfC X.K C ∧ PySem.W.findIn X.K (.ref C) n = some none) ∧ (match getK fs n with
        | some v => Q v G1
        | none => False)
      | _ => False) q fun v x G1 H1 p1 r1 s1 q1 => ?_
    split at q1
    · exact h q1.2.2.2.1
    · exact q1
/-- isinstance(e, ..) -/
structure ExK (K : PySem.W.Frag) (C : Addr) : Prop where
  cl : (PySem.W.clsIn K C).isSome = true
  ga : PySem.W.findIn K (.ref C) "__getattribute__" = some (some (.builtin "BaseException.__getattribute__"))
  gg : PySem.W.findIn K (.ref C) "__getattr__" = some none
  ex : PySem.W.subIn K (.ref C) (.type "BaseException") = some true
  ca : PySem.W.findIn K (.ref C) "__class__" = some (some (.builtin "object.__class__"))
  cg : PySem.W.specialIn K (.builtin "object.__class__") "__get__" = some (some (.builtin "getset_descriptor.__get__"))
  tk : PySem.W.takesIn K (.builtin "object.__class__") = some true
  ob : PySem.W.mroIn K C (.type "object") = some true
def rIsX (K : PySem.W.Frag) (a : Addr) (cls : Value) (d : Option Addr) : RC := fun ds G Q => match ds with
  | [.exc a' c' d' _, .tup cs] => a' = a ∧ c' = cls ∧ d' = d ∧ (∃ C, cls = .ref C ∧ ExK K C) ∧ ∃ us b, clsD cs = some us ∧ PySem.W.kitAny K cls us = some b ∧ Q (.bl b) G
  | [.exc a' c' d' _, c] => a' = a ∧ c' = cls ∧ d' = d ∧ (∃ C, cls = .ref C ∧ ExK K C) ∧ ∃ u b, clD c = some u ∧ PySem.W.kitOne K cls u = some b ∧ Q (.bl b) G
  | _ => False
def rIsXV (K : PySem.W.Frag) (a : Addr) (cls : Value) (d : Option Addr) : List V → Hp → VK → Prop := fun vs H Q => (∃ C, cls = .ref C ∧ ExK K C) ∧ (d = none ∨ ∃ dd fvs, d = some dd ∧ H dd = some (.xd fvs)) ∧ ((∃ c u b, vs = [.ref a, c] ∧ ClsV c u ∧ PySem.W.kitOne K cls u = some b ∧ Q (.bl b) H) ∨
  (∃ tp cs us b, vs = [.ref a, .ref tp] ∧ H tp = some (.tup cs) ∧ Paired ClsV cs us ∧ PySem.W.kitAny K cls us = some b ∧ Q (.bl b) H))
theorem call_isX (hz : Zc cls d oe) (hf : ∃ vs, oe.data = .fields vs) : CallR (X.suite a ((a, oe) :: pn)) (.builtin "isinstance") (rIsXV X.K a cls d) := by
  intro pins s σ H xs us Q I r ⟨⟨C, ec, ok⟩, hd, h⟩
  subst ec
  obtain ⟨here, _⟩ := I.pin (a, oe) (by simp)
  obtain ⟨vs, hv⟩ := hf
  have od : ∃ od, PySem.W.InstAt s.heap a oe C od ∧ PySem.W.KitX X.K (.ref a) (.ref C) (fun h => PySem.W.InstAt h a oe C od) := by
    have Z : ∀ od, PySem.W.KitX X.K (.ref a) (.ref C) (fun h => PySem.W.InstAt h a oe C od) := fun od => PySem.W.kitx_exc ok.cl ok.ga ok.gg ok.ex ok.ca ok.cg ok.tk ok.ob
    have no : PySem.W.notCls oe = true := by unfold PySem.W.notCls; rw [hv]
    rcases hd with rfl | ⟨dd, fvs, rfl, hx⟩
    · exact ⟨none, ⟨here, hz.1, no, by rw [hz.2]; exact trivial⟩, Z _⟩
    · obtain ⟨mA, hns, _⟩ := (show ObjOk X.prog X.w H s.heap dd (.xd fvs) from I.hok dd _ hx)
      obtain ⟨o, _, _, ho, _⟩ := hns
      exact ⟨some o, ⟨here, hz.1, no, by rw [hz.2]; exact ho⟩, Z _⟩
  obtain ⟨od, J, Z⟩ := od
  rcases h with ⟨c, u, b, rfl, k, e, q⟩ | ⟨tp, cs, ws, b, rfl, hT, k, e, q⟩
  · obtain ⟨u1, u2, rfl, r1, r2⟩ := vals2 r
    cases (show u1 = Value.ref a from r1)
    have e2 := k.eq r2
    subst e2
    exact PySem.W.kia_one Z I.kIn J e (fun z => nomatch z) fun tk => ⟨.bl b, H, I.tok tk, rfl, q⟩
  · obtain ⟨u1, u2, rfl, r1, r2⟩ := vals2 r
    cases (show u1 = Value.ref a from r1)
    cases (show u2 = Value.ref tp from r2)
    obtain ⟨_, its, rv, o, h1, h2, n, h3⟩ := (show ObjOk X.prog X.w H s.heap tp (.tup cs) from I.hok tp _ hT)
    have e3 := ClsV.all k rv
    subst e3
    obtain ⟨oc, odc, dt, sl⟩ := o
    simp only at h2 h3
    subst h2; subst h3
    exact PySem.W.kia_tup Z I.kIn J h1 e (fun z => nomatch z) fun tk => ⟨.bl b, H, I.tok tk, rfl, q⟩
theorem sim_isX {B : Bd} : SimC B (rIsX B.K a cls d) (rIsXV B.K a cls d) := by
  intro F W σ H Q τ G QT' ET ds vs p r h
  have av : ∀ {d' : Option Addr} {fs : List (Str × D)} {v : V}, Rp (B.hide F) G H (.exc a cls d' fs) v → v = .ref a ∧ (d' = none ∨ ∃ dd fvs, d' = some dd ∧ H dd = some (.xd fvs)) := fun {d' fs v} r => by
    cases d' with
    | none => unfold Rp at r; exact ⟨r.1, .inl rfl⟩
    | some dd => unfold Rp at r; obtain ⟨e, fvs, h, _⟩ := r; exact ⟨e, .inr ⟨dd, fvs, rfl, h⟩⟩
  unfold rIsX at h
  split at h
  · obtain ⟨v, u, rfl, r1, r2⟩ := r.inv2
    obtain ⟨rfl, rfl, rfl, ok, us, b, e1, e2, q⟩ := h
    obtain ⟨tp, cs, rfl, f, rc⟩ := r2.tup_inv
    obtain ⟨rfl, hx⟩ := av r1
    exact ⟨ok, hx, .inr ⟨tp, cs, us, b, rfl, f, clsD_ok rc e1, e2, p.bl q⟩⟩
  · obtain ⟨v, u, rfl, r1, r2⟩ := r.inv2
    obtain ⟨rfl, rfl, rfl, ok, u', b, e1, e2, q⟩ := h
    obtain ⟨rfl, hx⟩ := av r1
    exact ⟨ok, hx, .inl ⟨u, u', b, rfl, clD_ok r2 e1, e2, p.bl q⟩⟩
  · exact h.elim
def eIsX (K : PySem.W.Frag) (a : Addr) (cls : Value) (d : Option Addr) (ta : A1) : E1 := eB (rIsX K a cls d) ta
theorem qe_isX (hz : Zc cls d oe) (hf : ∃ vs, oe.data = .fields vs) (ha : QA (X.suite a ((a, oe) :: pn)) W (e :: es) ta) (he : starEach (e :: es) (X.suite a ((a, oe) :: pn)).env = (false, eval e (X.suite a ((a, oe) :: pn)).env) :: starEach es (X.suite a ((a, oe) :: pn)).env) (hpl : (backTo pos (starEach es (X.suite a ((a, oe) :: pn)).env)).any (·.1) = false)
    (hg : Gl X "isinstance") (hm : X.mg "isinstance" = none) : QE (X.suite a ((a, oe) :: pn)) W (.Call (.Name "isinstance" p) (e :: es) [] pos) (eIsX X.K a cls d ta) := qe_bi (X := X.suite a ((a, oe) :: pn)) (sim_isX (B := bd X)) (call_isX hz hf) hg hm (by rfl) ha (he := he) (hpl := hpl)
end
end TL
end
section
/-! X6: the text that an exception's __init__ hands on. -/
namespace XG
open PySem PySem.Spec PySem.W PySem.Calls PyProof.Rows PySem.HandSPX L2
theorem repr_le {n k : Nat} (hk : 1 ≤ k) (h : n < 10 ^ k) : (Nat.repr n).length ≤ k := by
  have := digits10_le hk h
  simpa [Nat.repr] using this
theorem int_le {i : Int} {k : Nat} (hk : 1 ≤ k) (h : i.natAbs < 10 ^ k) : (Str.ofString (toString i)).length ≤ k + 1 := by
  rw [ofString_len]
  cases i with
  | ofNat m =>
    have := repr_le hk (n := m) h
    show (Nat.repr m).length ≤ _
    omega
  | negSucc m =>
    have := repr_le hk (n := m + 1) h
    show ("-" ++ Nat.repr (m + 1)).length ≤ _
    have h1 : "-".length = 1 := by decide
    rw [String.length_append, h1]
    omega
theorem lt_of_log2 {n k : Nat} (h : n.log2 < k) : n < 2 ^ k := by
  by_cases z : n = 0
  · subst z; exact Nat.two_pow_pos k
  · exact (Nat.log2_lt z).mp h
theorem p1920 : (2 : Nat) ^ 1920 < 10 ^ 600 := by decide +kernel
theorem int_le600 {i : Int} (h : i.natAbs.log2 < 1920) : (Str.ofString (toString i)).length ≤ 601 := int_le (by decide) (Nat.lt_trans (lt_of_log2 h) p1920)
/-- a piece of a text: written | a parameter's -/
def mT : Sum Str Nat → TE
  | .inl s => tC (.str s)
  | .inr i => tFmt (tVar i)
def mOk (σ : L2.St) : Sum Str Nat → Prop
  | .inl s => s.length ≤ 1000
  | .inr i => ∃ v, σ[i]? = some (some v) ∧ (Kd.ok .str v ∨ Kd.ok .int v)
theorem app_len (s t : Str) : (s ++ t).length = s.length + t.length := by
  show (s.cps ++ t.cps).size = _
  rw [Array.size_append]
  rfl
theorem msg_go {σ : L2.St} {H : Hp} {Q : Str → Hp → Prop} (q : ∀ m, Q m H) : ∀ (ps : List (Sum Str Nat)) (acc : Str), (∀ p ∈ ps, mOk σ p) → acc.length + 1000601 * ps.length ≤ sizeLine → tJs (ps.map mT) acc σ H Q
  | [], acc, _, _ => q acc
  | p :: ps, acc, h, l => by
    have s0 : sizeLine = 16777216 := rfl
    simp only [List.length_cons] at l
    have hp := h p (List.mem_cons_self ..)
    have rest : ∀ y : Str, y.length ≤ 1000601 → (acc ++ y).length ≤ sizeLine ∧ tJs (ps.map mT) (acc ++ y) σ H Q := fun y hy => by
      have e := app_len acc y
      exact ⟨by omega, msg_go q ps _ (fun p hp => h p (List.mem_cons_of_mem _ hp)) (by omega)⟩
    show mT p σ H _
    match p, hp with
    | .inl s, hs => exact ⟨s, rfl, rest s (by have : s.length ≤ 1000 := hs; omega)⟩
    | .inr i, ⟨v, e, k⟩ =>
      refine ⟨v, e, ?_⟩
      rcases k with ⟨s, rfl, l2⟩ | ⟨n, rfl, l2⟩
      · exact .inl ⟨s, rfl, by omega, s, rfl, rest s (by omega)⟩
      · exact .inr ⟨n, rfl, l2, _, rfl, rest _ (by have := int_le600 l2; omega)⟩
/-- the whole text -/
def tMsg (ps : List (Sum Str Nat)) : TE := fun σ H Q => tJs (ps.map mT) Str.empty σ H fun out H1 => Q (.str out) H1
theorem msg_ok {σ : L2.St} {H : Hp} {Q : VK} {ps : List (Sum Str Nat)} (h : ∀ p ∈ ps, mOk σ p) (l : ps.length ≤ 16) (q : ∀ m, Q m H) : tMsg ps σ H Q :=
  msg_go (Q := fun out H1 => Q (.str out) H1) (fun m => q (.str m)) ps Str.empty h (by
    have s0 : sizeLine = 16777216 := rfl
    have : Str.empty.length = 0 := rfl
    omega)
theorem pe_msg {X : Cx} {v1 v2 : Expr} {rest : List Expr} {pos : Pos} {ps : List (Sum Str Nat)} (h : PJ X (v1 :: v2 :: rest) (ps.map mT)) : PE X (.JoinedStr (v1 :: v2 :: rest) pos) (tMsg ps) := pe_joined h
end XG
end
section
namespace WK
open PySem PySem.Spec L2 TL
def N_is_name : List Str := ["value", "letter"]
def ps_is_name : List Str := ["value"]
abbrev lv_is_name : Nat := 1
def t_is_name (Cs : List Addr) (K : PySem.W.Frag) : S1 :=
    (sSeq (sIf (tOr' (tNot' (tBl (eIsi Cs K (aCons (eVar 0) (aCons (eC (.ty "str")) aNil))))) (tNot' (tBl (eChain rLeT rLeT (eC (.int 1)) (eLen (aCons (eVar 0) aNil)) (eC (.int 8)))))) (sRet (eC (.bl false))) sNext)
    (sRet (eAll (aCons (eLc (iSeq (eVar 0)) (.nm 1) tTrue (eIn (eVar 1) (eC (.str "abcdefghijklmnopqrstuvwxyz"))) [1]) aNil))))
abbrev sp0_is_name (Cs : List Addr) (K : PySem.W.Frag) : SpT := spOf N_is_name 1 (t_is_name Cs K)
def N_require_nodes : List Str := ["value", "position", "node"]
def ps_require_nodes : List Str := ["value"]
abbrev lv_require_nodes : Nat := 2
def t_require_nodes (Cs : List Addr) (K : PySem.W.Frag) (sp_is_name : SpT) : S1 :=
    (sSeq (sIf (tOr' (tNot' (tBl (eIsi Cs K (aCons (eVar 0) (aCons (eC (.ty "list")) aNil))))) (tNot' (tBl (eChain rLeT rLeT (eC (.int 1)) (eLen (aCons (eVar 0) aNil)) (eC (.int 16)))))) sNever sNext)
    (sFor (iEnum' 0 (aCons (eVar 0) aNil)) (.tp (.cons (.nm 1) (.cons (.nm 2) .nil))) (sSeq (sIf (tNot' (tBl (eCall sp_is_name [] (aCons (eVar 2) aNil)))) sNever sNext)
    (sIf (tBl (eIn (eVar 2) (eSl (eVar 0) oNone (oSome (eVar 1))))) sNever sNext))))
abbrev sp0_require_nodes (Cs : List Addr) (K : PySem.W.Frag) (sp_is_name : SpT) : SpT := spOf N_require_nodes 1 (t_require_nodes Cs K sp_is_name)
def N_reachable : List Str := ["edges", "start", "found", "visited", "targets", "source", "target"]
def ps_reachable : List Str := ["edges", "start"]
abbrev lv_reachable : Nat := 1
def t_reachable  : S1 :=
    (sSeq (sSet 2 (eLstC (aCons (eVar 1) aNil)))
    (sSeq (sSet 3 (eC (.int 0)))
    (sSeq (sWhile (tBl (eLt (eVar 3) (eLen (aCons (eVar 2) aNil)))) (sSeq (sSet 4 (eLc (iSeq (eVar 0)) (.tp (.cons (.nm 5) (.cons (.nm 6) .nil))) (tAnd' (tBl (eEq (eVar 5) (eIx (eVar 2) (eVar 3)))) (tBl (eNotIn (eVar 6) (eVar 2)))) (eVar 6) [5, 6]))
    (sSeq (sExpr (eLm mExtend (eVar 2) (aCons (eVar 4) aNil)))
    (sAug 3 (fun i j => i + j) (eC (.int 1))))))
    (sFrz 2 (sRet (eVar 2))))))
abbrev sp0_reachable  : SpT := spOf N_reachable 2 (t_reachable )
def N_edge_problem : List Str := ["edge", "nodes", "edges", "source", "target", "end"]
def ps_edge_problem : List Str := ["edge", "nodes", "edges"]
abbrev lv_edge_problem : Nat := 2
def t_edge_problem (Cs : List Addr) (K : PySem.W.Frag) (sp_reachable : SpT) : S1 :=
    (sSeq (sIf (tOr' (tNot' (tBl (eIsi Cs K (aCons (eVar 0) (aCons (eC (.ty "tuple")) aNil))))) (tBl (eNe (eLen (aCons (eVar 0) aNil)) (eC (.int 2))))) (sRet (eC (.str "edge"))) sNext)
    (sSeq (sAsg (eVar 0) (.tp (.cons (.nm 3) (.cons (.nm 4) .nil))))
    (sSeq (sIf (tOr' (tNot' (tBl (eAll (aCons (eLc (iSeq (eVar 0)) (.nm 5) tTrue (eAnd (eIsi Cs K (aCons (eVar 5) (aCons (eC (.ty "str")) aNil))) (eIn (eVar 5) (eVar 1))) [5]) aNil)))) (tBl (eEq (eVar 3) (eVar 4)))) (sRet (eC (.str "ends"))) sNext)
    (sSeq (sIf (tBl (eIn (eVar 0) (eVar 2))) (sRet (eC (.str "duplicate"))) sNext)
    (sRet (eIf (tBl (eIn (eVar 3) (eCall sp_reachable [] (aCons (eVar 2) (aCons (eVar 4) aNil))))) (eC (.str "cycle")) (eC .non)))))))
abbrev sp0_edge_problem (Cs : List Addr) (K : PySem.W.Frag) (sp_reachable : SpT) : SpT := spOf N_edge_problem 3 (t_edge_problem Cs K sp_reachable)
def N_require_edges : List Str := ["value", "nodes", "position", "edge", "problem"]
def ps_require_edges : List Str := ["value", "nodes"]
abbrev lv_require_edges : Nat := 3
def t_require_edges (Cs : List Addr) (K : PySem.W.Frag) (sp_edge_problem : SpT) : S1 :=
    (sSeq (sIf (tAnd' (tNot' (tBl (eIsi Cs K (aCons (eVar 0) (aCons (eC (.ty "list")) aNil))))) (tBl (eNe (eVar 0) (eTup aNil)))) sNever sNext)
    (sFor (iEnum' 0 (aCons (eVar 0) aNil)) (.tp (.cons (.nm 2) (.cons (.nm 3) .nil))) (sSeq (sSet 4 (eCall sp_edge_problem [] (aCons (eVar 3) (aCons (eVar 1) (aCons (eSl (eVar 0) oNone (oSome (eVar 2))) aNil)))))
    (sIf (tBl (eIsNot (eVar 4) (eC .non))) sNever sNext))))
abbrev sp0_require_edges (Cs : List Addr) (K : PySem.W.Frag) (sp_edge_problem : SpT) : SpT := spOf N_require_edges 2 (t_require_edges Cs K sp_edge_problem)
def N_Graph_init : List Str := ["self", "nodes", "edges", "node"]
def ps_Graph_init : List Str := ["self", "nodes", "edges"]
abbrev lv_Graph_init : Nat := 4
def t_Graph_init (C_Graph : Addr) (sp_require_nodes sp_require_edges sp_reachable : SpT) : S1 :=
    (sSeq (sExpr (eCall sp_require_nodes [] (aCons (eVar 1) aNil)))
    (sSeq (sExpr (eCall sp_require_edges [] (aCons (eVar 2) (aCons (eVar 1) aNil))))
    (sSeq (sFldT C_Graph "own_nodes" (eVar 0) (eTuple (aCons (eVar 1) aNil)))
    (sSeq (sFldT C_Graph "own_edges" (eVar 0) (eTuple (aCons (eVar 2) aNil)))
    (sFldT C_Graph "own_after" (eVar 0) (eFrz (eDcC (iSeq (eVar 1)) (.nm 3) tTrue (eVar 3) (eCall sp_reachable [] (aCons (eVar 2) (aCons (eVar 3) aNil))) [3])))))))
abbrev sp0_Graph_init (C_Graph : Addr) (sp_require_nodes sp_require_edges sp_reachable : SpT) : SpT := spOf N_Graph_init 3 (t_Graph_init C_Graph sp_require_nodes sp_require_edges sp_reachable)
def N_Graph_state : List Str := ["self"]
def ps_Graph_state : List Str := ["self"]
abbrev lv_Graph_state : Nat := 1
def t_Graph_state (C_Graph : Addr) : S1 :=
    (sRet (eTup (aCons (eFld C_Graph "own_nodes" (eVar 0)) (aCons (eFld C_Graph "own_edges" (eVar 0)) aNil))))
abbrev sp0_Graph_state (C_Graph : Addr) : SpT := spOf N_Graph_state 1 (t_Graph_state C_Graph)
def N_Graph_eq : List Str := ["self", "other"]
def ps_Graph_eq : List Str := ["self", "other"]
abbrev lv_Graph_eq : Nat := 2
def t_Graph_eq (Cs : List Addr) (K : PySem.W.Frag) (C_Graph : Addr) (sp_Graph_state : SpT) : S1 :=
    (sRet (eAnd (eIsi Cs K (aCons (eVar 1) (aCons (eC (.ref C_Graph)) aNil))) (eEq (eMeth C_Graph "state" sp_Graph_state [] (eVar 0) aNil) (eMeth C_Graph "state" sp_Graph_state [] (eVar 1) aNil))))
abbrev sp0_Graph_eq (Cs : List Addr) (K : PySem.W.Frag) (C_Graph : Addr) (sp_Graph_state : SpT) : SpT := spOf N_Graph_eq 2 (t_Graph_eq Cs K C_Graph sp_Graph_state)
def N_Graph_repr : List Str := ["self"]
def ps_Graph_repr : List Str := ["self"]
abbrev lv_Graph_repr : Nat := 1
def t_Graph_repr (C_Graph : Addr) : S1 :=
    (sRet (eJs [(eC (.str "Graph(")), (eFmtR (eList (aCons (eFld C_Graph "own_nodes" (eVar 0)) aNil))), (eC (.str ", ")), (eFmtR (eList (aCons (eFld C_Graph "own_edges" (eVar 0)) aNil))), (eC (.str ")"))] Str.empty))
abbrev sp0_Graph_repr (C_Graph : Addr) : SpT := spOf N_Graph_repr 1 (t_Graph_repr C_Graph)
def N_Graph_nodes : List Str := ["self"]
def ps_Graph_nodes : List Str := ["self"]
abbrev lv_Graph_nodes : Nat := 1
def t_Graph_nodes (C_Graph : Addr) : S1 :=
    (sRet (eList (aCons (eFld C_Graph "own_nodes" (eVar 0)) aNil)))
abbrev sp0_Graph_nodes (C_Graph : Addr) : SpT := spOf N_Graph_nodes 1 (t_Graph_nodes C_Graph)
def N_Graph_edges : List Str := ["self"]
def ps_Graph_edges : List Str := ["self"]
abbrev lv_Graph_edges : Nat := 1
def t_Graph_edges (C_Graph : Addr) : S1 :=
    (sRet (eList (aCons (eFld C_Graph "own_edges" (eVar 0)) aNil)))
abbrev sp0_Graph_edges (C_Graph : Addr) : SpT := spOf N_Graph_edges 1 (t_Graph_edges C_Graph)
def N_law_pot : List Str := ["script", "index", "cell"]
def ps_law_pot : List Str := ["script", "index"]
abbrev lv_law_pot : Nat := 1
def t_law_pot  : S1 :=
    (sSeq (sSet 2 (eC (.int 0)))
    (sSeq (sIf (tBl (eLt (eVar 1) (eLen (aCons (eVar 0) aNil)))) (sSet 2 (eAbs (aCons (eIx (eVar 0) (eVar 1)) aNil))) sNext)
    (sRet (eLstC (aCons (eMax2 (aCons (eC (.int 0)) (aCons (eSub (eVar 2) (ePow (eC (.int 10)) (eC (.int 18)))) aNil))) (aCons (eAdd (eMod (ePow (eAdd (eAdd (eMod (eVar 2) (eC (.int 2147483629))) (eMul (eC (.int 1013)) (eVar 1))) (eC (.int 7))) (eC (.int 3))) (eC (.int 2147483587))) (eC (.int 1))) aNil))))))
abbrev sp0_law_pot  : SpT := spOf N_law_pot 2 (t_law_pot )
def N_law_draw : List Str := ["pot", "bound", "digit"]
def ps_law_draw : List Str := ["pot", "bound"]
abbrev lv_law_draw : Nat := 1
def t_law_draw  : S1 :=
    (sSeq (sIf (tBl (eGt (eIx (eVar 0) (eC (.int 0))) (eC (.int 0)))) (sSeq (sPutNm (eVar 0) (eC (.int 0)) (eDvm (aCons (eIx (eVar 0) (eC (.int 0))) (aCons (eVar 1) aNil))) 2)
    (sRet (eVar 2))) sNext)
    (sSeq (sPut (eVar 0) (eC (.int 1)) (eMod (eAdd (eMul (eIx (eVar 0) (eC (.int 1))) (eC (.int 48271))) (eC (.int 10037))) (eC (.int 2147483587))))
    (sRet (eMod (eDiv (eMod (eMul (eIx (eVar 0) (eC (.int 1))) (eIx (eVar 0) (eC (.int 1)))) (eC (.int 2147483563))) (eC (.int 7))) (eVar 1)))))
abbrev sp0_law_draw  : SpT := spOf N_law_draw 2 (t_law_draw )
def N_law_choice : List Str := ["pot", "options"]
def ps_law_choice : List Str := ["pot", "options"]
abbrev lv_law_choice : Nat := 2
def t_law_choice (sp__law_draw : SpT) : S1 :=
    (sRet (eIx (eVar 1) (eCall sp__law_draw [] (aCons (eVar 0) (aCons (eLen (aCons (eVar 1) aNil)) aNil)))))
abbrev sp0_law_choice (sp__law_draw : SpT) : SpT := spOf N_law_choice 2 (t_law_choice sp__law_draw)
def N_law_name : List Str := ["pot", "used", "letters", "size", "word", "turn", "one", "other"]
def ps_law_name : List Str := ["pot", "used"]
abbrev lv_law_name : Nat := 2
def t_law_name (sp__law_draw : SpT) : S1 :=
    (sSeq (sSet 2 (eC (.str "abcdefghijklmnopqrstuvwxyz")))
    (sSeq (sSet 3 (eIx (eLst (aCons (eC (.int 1)) (aCons (eC (.int 1)) (aCons (eC (.int 2)) (aCons (eC (.int 8)) (aCons (eAdd (eC (.int 1)) (eCall sp__law_draw [] (aCons (eVar 0) (aCons (eC (.int 8)) aNil)))) aNil)))))) (eCall sp__law_draw [] (aCons (eVar 0) (aCons (eC (.int 5)) aNil)))))
    (sSeq (sSet 4 (eSm rJoin (eC (.str "")) (aOne (eLc (iRng (aCons (eVar 3) aNil)) (.nm 5) tTrue (eIx (eVar 2) (eCall sp__law_draw [] (aCons (eVar 0) (aCons (eC (.int 26)) aNil)))) [5]))))
    (sSeq (sIf (tBl (eEq (eCall sp__law_draw [] (aCons (eVar 0) (aCons (eC (.int 12)) aNil))) (eC (.int 0)))) (sSet 4 (eIx (eLst (aCons (eC (.str "node")) (aCons (eC (.str "edge")) (aCons (eC (.str "step")) (aCons (eC (.str "leave")) (aCons (eC (.str "join")) (aCons (eC (.str "accept")) (aCons (eC (.str "process")) (aCons (eC (.str "deliver")) aNil))))))))) (eCall sp__law_draw [] (aCons (eVar 0) (aCons (eC (.int 8)) aNil))))) sNext)
    (sSeq (sIf (tBl (eIn (eVar 4) (eVar 1))) (sRet (eIx (eLc (iZip (aCons (eVar 2) (aCons (eRevS (eVar 2)) aNil))) (.tp (.cons (.nm 6) (.cons (.nm 7) .nil))) (tBl (eNotIn (eAdd (eAdd (eVar 6) (eVar 7)) (eC (.str "q"))) (eVar 1))) (eAdd (eAdd (eVar 6) (eVar 7)) (eC (.str "q"))) [6, 7]) (eC (.int 0)))) sNext)
    (sRet (eVar 4)))))))
abbrev sp0_law_name (sp__law_draw : SpT) : SpT := spOf N_law_name 2 (t_law_name sp__law_draw)
def N_law_names : List Str := ["pot", "number", "found", "turn"]
def ps_law_names : List Str := ["pot", "number"]
abbrev lv_law_names : Nat := 3
def t_law_names (sp__law_name : SpT) : S1 :=
    (sSeq (sSet 2 (eLstC aNil))
    (sSeq (sFor (iRng (aCons (eVar 1) aNil)) (.nm 3) (sExpr (eLm mAppend (eVar 2) (aCons (eCall sp__law_name [] (aCons (eVar 0) (aCons (eVar 2) aNil))) aNil))))
    (sFrz 2 (sRet (eVar 2)))))
abbrev sp0_law_names (sp__law_name : SpT) : SpT := spOf N_law_names 2 (t_law_names sp__law_name)
def N_law_mixed : List Str := ["pot", "options", "rest", "found"]
def ps_law_mixed : List Str := ["pot", "options"]
abbrev lv_law_mixed : Nat := 2
def t_law_mixed (sp__law_draw : SpT) : S1 :=
    (sSeq (sPar 2 3 (aCons (eListC (aCons (eVar 1) aNil)) (aCons (eLstC aNil) aNil)))
    (sSeq (sWhile (tBl (eNe (eVar 2) (eLst aNil))) (sExpr (eLm mAppend (eVar 3) (aCons (eLm mPopAt (eVar 2) (aCons (eCall sp__law_draw [] (aCons (eVar 0) (aCons (eLen (aCons (eVar 2) aNil)) aNil))) aNil)) aNil))))
    (sFrz 3 (sFrz 2 (sRet (eVar 3))))))
abbrev sp0_law_mixed (sp__law_draw : SpT) : SpT := spOf N_law_mixed 2 (t_law_mixed sp__law_draw)
def N_law_graph : List Str := ["pot", "most", "points", "order", "shape", "arrows", "high", "lows", "low"]
def ps_law_graph : List Str := ["pot", "most"]
abbrev lv_law_graph : Nat := 4
def t_law_graph (sp__law_names sp__law_draw sp__law_mixed : SpT) : S1 :=
    (sSeq (sSet 2 (eCall sp__law_names [] (aCons (eVar 0) (aCons (eIx (eLst (aCons (eVar 1) (aCons (eAdd (eC (.int 1)) (eCall sp__law_draw [] (aCons (eVar 0) (aCons (eVar 1) aNil)))) (aCons (eAdd (eC (.int 1)) (eCall sp__law_draw [] (aCons (eVar 0) (aCons (eMin2 (aCons (eC (.int 4)) (aCons (eVar 1) aNil))) aNil)))) aNil)))) (eCall sp__law_draw [] (aCons (eVar 0) (aCons (eC (.int 3)) aNil)))) aNil))))
    (sSeq (sAsg (eTup (aCons (eCall sp__law_mixed [] (aCons (eVar 0) (aCons (eVar 2) aNil))) (aCons (eCall sp__law_draw [] (aCons (eVar 0) (aCons (eC (.int 4)) aNil))) (aCons (eLst aNil) aNil)))) (.tp (.cons (.nm 3) (.cons (.nm 4) (.cons (.nm 5) .nil)))))
    (sSeq (sFor (iRng2' (aCons (eC (.int 1)) (aCons (eLen (aCons (eVar 3) aNil)) aNil))) (.nm 6) (sSeq (sSet 7 (eLc (iRng (aCons (eVar 6) aNil)) (.nm 8) (tBl (eEq (eCall sp__law_draw [] (aCons (eVar 0) (aCons (eC (.int 3)) aNil))) (eC (.int 0)))) (eVar 8) [8]))
    (sSeq (sSet 7 (eIx (eLst (aCons (eVar 7) (aCons (eLst (aCons (eSub (eVar 6) (eC (.int 1))) aNil)) (aCons (eLst aNil) (aCons (eLst (aCons (eDiv (eSub (eVar 6) (eC (.int 1))) (eC (.int 2))) aNil)) aNil))))) (eVar 4)))
    (sSet 5 (eAdd (eVar 5) (eLc (iSeq (eVar 7)) (.nm 8) tTrue (eTup (aCons (eIx (eVar 3) (eVar 8)) (aCons (eIx (eVar 3) (eVar 6)) aNil))) [8]))))))
    (sRet (eTup (aCons (eVar 2) (aCons (eCall sp__law_mixed [] (aCons (eVar 0) (aCons (eVar 5) aNil))) aNil)))))))
abbrev sp0_law_graph (sp__law_names sp__law_draw sp__law_mixed : SpT) : SpT := spOf N_law_graph 2 (t_law_graph sp__law_names sp__law_draw sp__law_mixed)
end WK
end
section
/-! TP: reading the upper level: how the readings compute. -/
namespace TL
open PySem PySem.Spec L2
section
variable {τ : Sl} {G : GH} {Q : KD} {E : KX} {p : Addr} {x y z : D} {i j : Int} {xs ys : List D} {a b : Bool} {s t : Str} {C : Addr} {fs : List (Str × D)}
theorem vQ_ref {xs : List D} (h : G p = some (.lst xs)) : vQ G (.ref p) = some xs := by unfold vQ; simp [h]
theorem vL_ref {xs : List D} (h : G p = some (.lst xs)) : vL G (.ref p) = some xs := by unfold vL; simp [h]
theorem vI_ref (h : G p = some (.ins C fs)) : vI G (.ref p) = some (C, fs) := by unfold vI; simp [h]
theorem vQ_lst : vQ G (.lst xs) = some xs := rfl
theorem vQ_tup : vQ G (.tup xs) = some xs := rfl
theorem vQ_scr : vQ G (.scr xs) = some xs := rfl
theorem vL_lst : vL G (.lst xs) = some xs := rfl
theorem vI_ins : vI G (.ins C fs) = some (C, fs) := rfl
theorem vIt_lst : vIt G (.lst xs) = some xs := rfl
theorem vIt_tup : vIt G (.tup xs) = some xs := rfl
theorem vIt_scr : vIt G (.scr xs) = some xs := rfl
theorem vIt_str : vIt G (.str s) = some (signsD s) := rfl
theorem vIt_ref {xs : List D} (h : G p = some (.lst xs)) : vIt G (.ref p) = some xs := vQ_ref h
/-! operations -/
theorem r_add : rAddT (.int i) (.int j) G Q E = Q (.int (i + j)) G := rfl
theorem r_addS : rAddT (.str s) (.str t) G Q E = (s.length + t.length ≤ sizeLine ∧ Q (.str (s ++ t)) G) := rfl
theorem r_addL : rAddT (.lst xs) (.lst ys) G Q E = (xs.length + ys.length ≤ sizeLine ∧ Q (.lst (xs ++ ys)) G) := rfl
theorem r_sub : rSubT (.int i) (.int j) G Q E = (CT i j ∧ Q (.int (i - j)) G) := rfl
theorem r_mul : rMulT (.int i) (.int j) G Q E = (CMulT i j ∧ Q (.int (i * j)) G) := rfl
theorem r_div : rDivT (.int i) (.int j) G Q E = (CDivT i j ∧ Q (.int (i / j)) G) := rfl
theorem r_mod : rModT (.int i) (.int j) G Q E = (0 < j ∧ Q (.int (i % j)) G) := rfl
theorem r_pow : rPowT (.int i) (.int j) G Q E = ((0 ≤ j ∧ j ≤ 1000000 ∧ i.natAbs < 2 ^ 64) ∧ Q (.int (i ^ j.toNat)) G) := rfl
theorem r_neg : rNegT (.int i) G Q E = Q (.int (-i)) G := rfl
theorem r_lt : rLtT (.int i) (.int j) G Q E = Q (.bl (decide (i < j))) G := by first | rfl | simp [rLtT, rCmpT]
theorem r_le : rLeT (.int i) (.int j) G Q E = Q (.bl (decide (i ≤ j))) G := by first | rfl | simp [rLeT, rCmpT]
theorem r_gt : rGtT (.int i) (.int j) G Q E = Q (.bl (decide (i > j))) G := by first | rfl | simp [rGtT, rCmpT]
theorem r_ge : rGeT (.int i) (.int j) G Q E = Q (.bl (decide (i ≥ j))) G := by first | rfl | simp [rGeT, rCmpT]
theorem r_ix {xs : List D} (h : vQ G x = some xs) (hs : ∀ z, x ≠ .str z) : rIxT' x (.int i) G Q E = (match atI xs i with
  | some d => Q d G
  | none => False) := by
  unfold rIxT'
  split
  · exact absurd rfl (hs _)
  · rw [h] <;> rfl
theorem r_ixL : rIxT' (.lst xs) (.int i) G Q E = (match atI xs i with
  | some d => Q d G
  | none => False) := rfl
theorem r_ixT : rIxT' (.tup xs) (.int i) G Q E = (match atI xs i with
  | some d => Q d G
  | none => False) := rfl
theorem r_ixS : rIxT' (.scr xs) (.int i) G Q E = (match atI xs i with
  | some d => Q d G
  | none => False) := rfl
theorem r_ixR {xs : List D} (h : G p = some (.lst xs)) : rIxT' (.ref p) (.int i) G Q E = (match atI xs i with
  | some d => Q d G
  | none => False) := r_ix (vQ_ref h) (fun _ => nofun)
theorem atI_nat {α : Type} {xs : List α} {n : Nat} : atI xs ((n : Nat) : Int) = xs[n]? := by
  unfold atI ixN
  rw [if_pos (by omega)]
  by_cases h : ((n : Nat) : Int) < xs.length
  · rw [if_pos h]; simp
  · rw [if_neg h]
    have : xs.length ≤ n := by omega
    simp [List.getElem?_eq_none this]
theorem atI_0 {α : Type} {xs : List α} : atI xs 0 = xs[0]? := atI_nat (n := 0)
theorem atI_1 {α : Type} {xs : List α} : atI xs 1 = xs[1]? := atI_nat (n := 1)
theorem atI_2 {α : Type} {xs : List α} : atI xs 2 = xs[2]? := atI_nat (n := 2)
theorem putC_lst {xs : List D} {n : Nat} (h : G p = some (.lst xs)) (hn : n < xs.length) : putC G (.ref p) (.int ((n : Nat) : Int)) x = some (gup G p (.lst (xs.set n x))) := by
  unfold putC
  simp only [h]
  unfold ixN
  rw [if_pos (by omega), if_pos (by omega)]
  simp
theorem putC_0 {xs : List D} (h : G p = some (.lst xs)) (hn : 0 < xs.length) : putC G (.ref p) (.int 0) x = some (gup G p (.lst (xs.set 0 x))) := putC_lst h hn
theorem putC_1 {xs : List D} (h : G p = some (.lst xs)) (hn : 1 < xs.length) : putC G (.ref p) (.int 1) x = some (gup G p (.lst (xs.set 1 x))) := putC_lst h hn
theorem b_abs : rAbs' [.int i] G Q = Q (.int (if i < 0 then -i else i)) G := rfl
theorem b_max : rMax2' [.int i, .int j] G Q = Q (.int (if j > i then j else i)) G := rfl
theorem b_min : rMin2' [.int i, .int j] G Q = Q (.int (if j < i then j else i)) G := rfl
theorem b_dvm : rDvm [.int i, .int j] G Q = (CDivP i j ∧ Q (.tup [.int (i / j), .int (i % j)]) G) := rfl
theorem b_lenL : rLen' [.lst xs] G Q = Q (.int xs.length) G := rfl
theorem b_lenT : rLen' [.tup xs] G Q = Q (.int xs.length) G := rfl
theorem b_lenQ : rLen' [.scr xs] G Q = Q (.int xs.length) G := rfl
theorem b_lenR {xs : List D} (h : G p = some (.lst xs)) : rLen' [.ref p] G Q = Q (.int xs.length) G := by
  unfold rLen' lenD
  simp only [vQ_ref h]
theorem b_lenS (h : s.length ≤ sizeLine) : rLen' [.str s] G Q = Q (.int s.length) G := by
  unfold rLen' lenD
  simp only [if_pos h]
theorem CT_true : CT i j = True := rfl
end
end TL
end
section
namespace PL
open PySem PySem.Spec L2 TL WK
local macro_rules | `(tactic| kwd_rel) => `(tactic| simp only [startT, spOf, sSeq, sIf, sSet, sRet, sRetN, sExpr, sNext, sPar, sPutNm, sPut, sAug, sAsg, eC, eVar, aNil, aCons, aOne, eOp, eUn, eB, eAdd, eSub, eMul, eDiv, eMod, ePow, eNeg, eLt, eLe, eGt, eGe, eEq, eNe, eIs, eIsNot, eIn, eNotIn, eIx, eAbs, eMax2, eMin2, eDvm, eLen, eList, eListC, eTuple, eAll, eAny, eSum, tBl, tNot', tAnd', tOr', eAnd, eOr, eNot, eIf, eTup, eLst, eLstC, eCall, eMeth, eMake, eFld, r_add, r_addS, r_addL, r_sub, r_mul, r_div, r_mod, r_pow, r_neg, r_lt, r_le, r_gt, r_ge, r_ixL, r_ixT, r_ixS, atI_0, atI_1, atI_2, b_abs, b_max, b_min, b_dvm, b_lenL, b_lenT, b_lenQ, CT_true, true_and, List.map, List.length, List.replicate, List.cons_append, List.nil_append, List.getElem?_cons_zero, List.getElem?_cons_succ, List.getElem?_nil, List.set_cons_zero, List.set_cons_succ])
def potD (a b : Int) : Cl := .lst [.int a, .int b]
/-- a pot stands at p -/
def Pot (G : GH) (p : Addr) : Prop := ∃ a b : Int, 0 ≤ a ∧ 0 ≤ b ∧ b < 2147483648 ∧ G p = some (potD a b)
def spDraw : SpT := fun ds G Q E => ∃ (p : Addr) (n : Int), ds = [.ref p, .int n] ∧ Pot G p ∧ 0 < n ∧ n.natAbs.log2 < 9000 ∧ ∀ (d a b : Int), 0 ≤ d → d < n → 0 ≤ a → 0 ≤ b → b < 2147483648 → Q (.int d) (gup G p (potD a b))
theorem log2_lt {n : Nat} {k : Nat} (h : n < 2 ^ k) (hk : 0 < k) : n.log2 < k := by
  by_cases z : n = 0
  · subst z; simpa using hk
  · exact (Nat.log2_lt z).mpr h
theorem ne_of_log2 {n : Int} (h : n.natAbs.log2 < 9000) : True := trivial
theorem cdivp {i n : Int} (hn : 0 < n) (hl : n.natAbs.log2 < 9000) : CDivP i n := by
  refine ⟨hn, ?_⟩
  exact PyProof.noPylong_of_log2 hl
theorem cmulT {i j : Int} {a b : Nat} (hi : i.natAbs < 2 ^ a) (hj : j.natAbs < 2 ^ b) (ha : 0 < a) (hb : 0 < b) (h : a + b ≤ 1000000) : CMulT i j := by
  have := log2_lt hi ha
  have := log2_lt hj hb
  unfold CMulT
  omega
theorem cdivT {i : Int} {n : Nat} (h : 0 < n) (hl : n < 2 ^ 64) : CDivT i (n : Int) := by
  refine ⟨by omega, ?_⟩
  have := log2_lt hl (by decide)
  simp only [Int.natAbs_natCast]
  omega
theorem draw_ok : ∀ ds G Q E, spDraw ds G Q E → sp0_law_draw ds G Q E := by
  rintro ds G Q E ⟨p, n, rfl, ⟨a, b, h1, h2, h3, hG⟩, hn, hl, k⟩
  refine ⟨rfl, ?_⟩
  unfold potD at hG
  unfold t_law_draw N_law_draw
  kwd_rel
  simp only [r_ixR hG, atI_0, atI_1, List.getElem?_cons_zero, List.getElem?_cons_succ]
  kwd_rel
  by_cases ha : a > 0
  · rw [if_pos (decide_eq_true ha)]
    simp only [r_ixR hG, atI_0, List.getElem?_cons_zero, b_dvm]
    refine ⟨cdivp hn hl, ?_⟩
    rw [putC_0 hG (by simp)]
    simp only [List.set_cons_zero]
    exact k (a % n) (a / n) b (Int.emod_nonneg _ (by omega)) (Int.emod_lt_of_pos _ hn) (Int.ediv_nonneg h1 (by omega)) h2 h3
  · rw [if_neg (by simpa using ha)]
    simp only [r_ixR hG, atI_1, List.getElem?_cons_zero, List.getElem?_cons_succ, r_mul, r_add, r_mod]
    refine ⟨cmulT (a := 31) (b := 16) (by omega) (by decide) (by decide) (by decide) (by decide), by decide, ?_⟩
    rw [putC_1 hG (by simp)]
    simp only [List.set_cons_zero, List.set_cons_succ, r_ixR gup_same, atI_1, List.getElem?_cons_zero, List.getElem?_cons_succ, r_mul, r_mod, r_div]
    have c0 : 0 ≤ (b * 48271 + 10037) % 2147483587 := Int.emod_nonneg _ (by decide)
    have c1 : (b * 48271 + 10037) % 2147483587 < 2147483587 := Int.emod_lt_of_pos _ (by decide)
    refine ⟨cmulT (a := 31) (b := 31) (by omega) (by omega) (by decide) (by decide) (by decide), by decide, cdivT (n := 7) (by decide) (by decide), hn, ?_⟩
    exact k _ a _ (Int.emod_nonneg _ (by omega)) (Int.emod_lt_of_pos _ hn) h1 c0 (by omega)
end PL
end
section
/-! TP2: rules for loops and comprehensions at the upper level; data written as trees. -/
namespace TL
open PySem PySem.Spec L2
/-! ### loops by invariants -/
theorem for_inv {t : TgN} {body : S1} {DT : En} {E : KS} {gd : GH → Prop} {xs : List D} (I : Nat → Sl → GH → Prop)
    (hg : ∀ i τ G, I i τ G → gd G)
    (hs : ∀ i d τ G, xs[i]? = some d → I i τ G → ∃ τ1, gT t d τ G = some τ1 ∧ ∀ K : Sl → GH → Prop, (∀ τ2 G2, I (i + 1) τ2 G2 → K τ2 G2) → body { DT with nx := K, ct := K, bk := DT.nx } E τ1 G)
    (he : ∀ τ G, I xs.length τ G → DT.nx τ G) {τ : Sl} {G : GH} (h0 : I 0 τ G) : sForL t body DT E gd xs τ G := by
  suffices H : ∀ (r : List D) (i : Nat) (τ : Sl) (G : GH), xs.drop i = r → i ≤ xs.length → I i τ G → sForL t body DT E gd r τ G from H xs 0 τ G rfl (Nat.zero_le _) h0
  intro r
  induction r with
  | nil =>
    intro i τ G e hi q
    have : i = xs.length := by
      have := List.drop_eq_nil_iff.mp e
      omega
    subst this
    exact he τ G q
  | cons d r ih =>
    intro i τ G e hi q
    have e1 : xs[i]? = some d := by
      have := congrArg (·[0]?) e
      simpa using this
    have hl : i < xs.length := (List.getElem?_eq_some_iff.mp e1).1
    have e2 : xs.drop (i + 1) = r := by
      rw [← List.tail_drop, e]
      rfl
    obtain ⟨τ1, h1, h2⟩ := hs i d τ G e1 q
    unfold sForL
    rw [h1]
    exact h2 _ fun τ2 G2 q2 => ⟨hg _ _ _ q2, ih (i + 1) τ2 G2 e2 hl q2⟩
theorem lc_inv {t : TgN} {tt : T1} {te : E1} {τ : Sl} {gd : GH → Prop} {Q : List D → GH → Prop} {xs : List D} (I : Nat → List D → GH → Prop)
    (hg : ∀ i acc G, I i acc G → gd G) (hl : ∀ i acc G, I i acc G → acc.length ≤ i) (hn : xs.length ≤ 16384)
    (hs : ∀ i d acc G, xs[i]? = some d → I i acc G → ∃ τ1, gT t d τ G = some τ1 ∧ ∀ (K : D → GH → Prop) (K2 : GH → Prop), (∀ y G2, I (i + 1) (acc ++ [y]) G2 → K y G2) → (∀ G2, I (i + 1) acc G2 → K2 G2) →
      tt τ1 G (fun b G2 => if b = true then te τ1 G2 K EF else K2 G2) EF)
    (he : ∀ acc G, I xs.length acc G → Q acc G) {G : GH} (h0 : I 0 [] G) : eLcL t tt te τ gd Q xs [] G := by
  suffices H : ∀ (r : List D) (i : Nat) (acc : List D) (G : GH), xs.drop i = r → i ≤ xs.length → I i acc G → eLcL t tt te τ gd Q r acc G from H xs 0 [] G rfl (Nat.zero_le _) h0
  intro r
  induction r with
  | nil =>
    intro i acc G e hi q
    have : i = xs.length := by
      have := List.drop_eq_nil_iff.mp e
      omega
    subst this
    exact he acc G q
  | cons d r ih =>
    intro i acc G e hi q
    have e1 : xs[i]? = some d := by
      have := congrArg (·[0]?) e
      simpa using this
    have hl' : i < xs.length := (List.getElem?_eq_some_iff.mp e1).1
    have e2 : xs.drop (i + 1) = r := by
      rw [← List.tail_drop, e]
      rfl
    obtain ⟨τ1, h1, h2⟩ := hs i d acc G e1 q
    unfold eLcL
    rw [h1]
    refine ⟨?_, h2 _ _ (fun y G2 q2 => ⟨hg _ _ _ q2, ih (i + 1) _ G2 e2 hl' q2⟩) fun G2 q2 => ⟨hg _ _ _ q2, ih (i + 1) acc G2 e2 hl' q2⟩⟩
    have := hl _ _ _ q
    have : sizeLine = 16777216 := rfl
    omega
/-- a comprehension that only reads: f d is what it keeps of d -/
theorem lc_fm {t : TgN} {tt : T1} {te : E1} {τ : Sl} {gd : GH → Prop} {Q : List D → GH → Prop} {xs : List D} {G : GH} (f : D → Option D) (hg : gd G) (hn : xs.length ≤ 16384)
    (hs : ∀ d ∈ xs, ∃ τ1, gT t d τ G = some τ1 ∧ ∀ (K : D → GH → Prop) (K2 : GH → Prop), (match f d with
      | some y => K y G
      | none => K2 G) → tt τ1 G (fun b G2 => if b = true then te τ1 G2 K EF else K2 G2) EF)
    (he : Q (xs.filterMap f) G) : eLcL t tt te τ gd Q xs [] G := by
  refine lc_inv (fun i acc G' => G' = G ∧ acc = (xs.take i).filterMap f) (fun i acc G' h => by rw [h.1]; exact hg) (fun i acc G' h => ?_) hn (fun i d acc G' e h => ?_) (fun acc G' h => ?_) ⟨rfl, by simp⟩
  · rw [h.2]
    exact Nat.le_trans (List.length_filterMap_le ..) (by simp; omega)
  · obtain ⟨rfl, rfl⟩ := h
    obtain ⟨τ1, h1, h2⟩ := hs d (List.mem_of_getElem? e)
    refine ⟨τ1, h1, fun K K2 k k2 => h2 K K2 ?_⟩
    have e2 : xs.take (i + 1) = xs.take i ++ [d] := by rw [List.take_add_one, e]; rfl
    cases hf : f d with
    | some y => exact k y _ ⟨rfl, by rw [e2, List.filterMap_append]; simp [hf]⟩
    | none => exact k2 _ ⟨rfl, by rw [e2, List.filterMap_append]; simp [hf]⟩
  · obtain ⟨rfl, rfl⟩ := h
    rw [List.take_length]
    exact he
theorem while_inv {c : T1} {body : S1} {DT : En} {E : KS} (I : Nat → Sl → GH → Prop)
    (hs : ∀ n τ G, I n τ G → ∀ K : Sl → GH → Prop, (∀ m τ2 G2, m < n → I m τ2 G2 → K τ2 G2) → c τ G (fun b G1 => if b = true then body { DT with nx := K, ct := K, bk := DT.nx } E τ G1 else DT.nx τ G1) (fun c f g => E c f τ g))
    {n : Nat} {τ : Sl} {G : GH} (h : I n τ G) : sWhile c body DT E τ G := by
  suffices H : ∀ (n : Nat) (m : Nat) (τ : Sl) (G : GH), m ≤ n → I m τ G → sWhileN c body DT E (n + 1) τ G from ⟨n + 1, H n n τ G (Nat.le_refl _) h⟩
  intro n
  induction n with
  | zero =>
    intro m τ G hm q
    exact hs m τ G q _ fun m' τ2 G2 hlt _ => by omega
  | succ n ih =>
    intro m τ G hm q
    exact hs m τ G q _ fun m' τ2 G2 hlt q2 => ih m' τ2 G2 (by omega) q2
/-! ### data -/
class Enc (α : Type) [DecidableEq α] where
  enc : α → D
  eqv : ∀ a b : α, eqD (enc a) (enc b) = decide (a = b)
abbrev enc {α : Type} [DecidableEq α] [Enc α] (a : α) : D := Enc.enc a
theorem beq_dec {α : Type} [BEq α] [LawfulBEq α] [DecidableEq α] (a b : α) : (a == b) = decide (a = b) := by
  by_cases h : a = b <;> simp [h]
instance : Enc Str := ⟨.str, fun a b => by simp only [eqD, toPy, PyData.eqv]; exact beq_dec a b⟩
instance : Enc Int := ⟨.int, fun a b => by simp only [eqD, toPy, PyData.eqv]; exact beq_dec a b⟩
section
variable {α β : Type} [DecidableEq α] [DecidableEq β] [Enc α] [Enc β]
theorem eqL_map : ∀ xs ys : List α, PyData.eqvAll (toPyL (xs.map enc)) (toPyL (ys.map enc)) = decide (xs = ys)
  | [], [] => rfl
  | [], _ :: _ => rfl
  | _ :: _, [] => rfl
  | x :: xs, y :: ys => by
    show PyData.eqvAll (toPy (enc x) :: toPyL (xs.map enc)) (toPy (enc y) :: toPyL (ys.map enc)) = _
    rw [PyData.eqvAll, show PyData.eqv (toPy (enc x)) (toPy (enc y)) = decide (x = y) from Enc.eqv x y, eqL_map xs ys]
    by_cases h1 : x = y <;> by_cases h2 : xs = ys <;> simp [h1, h2]
instance : Enc (List α) := ⟨fun xs => .lst (xs.map enc), fun a b => eqL_map a b⟩
instance : Enc (α × β) := ⟨fun p => .tup [enc p.1, enc p.2], fun a b => by
  show PyData.eqvAll [toPy (enc a.1), toPy (enc a.2)] [toPy (enc b.1), toPy (enc b.2)] = _
  rw [PyData.eqvAll, PyData.eqvAll, PyData.eqvAll, show PyData.eqv (toPy (enc a.1)) (toPy (enc b.1)) = decide (a.1 = b.1) from Enc.eqv _ _, show PyData.eqv (toPy (enc a.2)) (toPy (enc b.2)) = decide (a.2 = b.2) from Enc.eqv _ _]
  by_cases h1 : a.1 = b.1 <;> by_cases h2 : a.2 = b.2 <;> simp [h1, h2, Prod.ext_iff]⟩
theorem enc_inj {a b : α} (h : (enc a : D) = enc b) : a = b := by
  have := Enc.eqv a b
  have h' : (Enc.enc a : D) = Enc.enc b := h
  rw [h', Enc.eqv b b] at this
  simpa using this
theorem any_enc (xs : List α) (x : α) : ((xs.map enc).any fun e => eqD e (enc x)) = decide (x ∈ xs) := by
  induction xs with
  | nil => simp
  | cons a xs ih =>
    rw [List.map_cons, List.any_cons, ih, Enc.eqv]
    by_cases h : a = x
    · simp [h]
    · simp [h, Ne.symm h]
end
theorem encS {s : Str} : (enc s : D) = .str s := rfl
theorem encI {s : Int} : (enc s : D) = .int s := rfl
theorem encP {α β : Type} [DecidableEq α] [DecidableEq β] [Enc α] [Enc β] {p : α × β} : (enc p : D) = .tup [enc p.1, enc p.2] := rfl
theorem encL {α : Type} [DecidableEq α] [Enc α] {p : List α} : (enc p : D) = .lst (p.map enc) := rfl
/-! ### pots -/
/-- only p may have changed -/
def Same (p : Addr) (G G' : GH) : Prop := ∀ a, a ≠ p → G' a = G a
theorem Same.refl {p : Addr} {G : GH} : Same p G G := fun _ _ => rfl
theorem Same.trans {p : Addr} {G G' G2 : GH} (h : Same p G G') (h' : Same p G' G2) : Same p G G2 := fun a n => (h' a n).trans (h a n)
theorem Same.gup {p : Addr} {G : GH} {c : Cl} : Same p G (gup G p c) := fun _ n => gup_ne n
theorem Same.get {p a : Addr} {G G' : GH} {c : Cl} (h : Same p G G') (n : a ≠ p) (e : G a = some c) : G' a = some c := (h a n).trans e
/-! ### computing -/
section
variable {G : GH} {Q : KD} {E : KX} {p : Addr} {x y : D} {xs ys : List D} {neg : Bool}
theorem r_eqS' {s t : Str} : rEqT neg (.str s) (.str t) G Q E = Q (.bl (neg != decide (s = t))) G := rfl
theorem r_eqS {s t : Str} (_ : PyData.strOk s = true) (_ : PyData.strOk t = true) : rEqT neg (.str s) (.str t) G Q E = Q (.bl (neg != decide (s = t))) G := rfl
theorem r_eqI {i j : Int} : rEqT neg (.int i) (.int j) G Q E = Q (.bl (neg != decide (i = j))) G := by
  show (True ∧ True ∧ Q (.bl (neg != eqD (enc i) (enc j))) G) = _
  rw [Enc.eqv]; simp
theorem r_eqG {d e : D} (hx : vD G x = d) (hy : vD G y = e) (h1 : Pl d 60) (h2 : Pl e 60) (hq : Q (.bl (neg != eqD d e)) G) : rEqT neg x y G Q E := by
  unfold rEqT
  rw [hx, hy]
  split
  · simp [Pl] at h1
  · rename_i s t
    have : eqD (.str s) (.str t) = decide (s = t) := Enc.eqv s t
    rw [← this]
    exact hq
  · exact ⟨h1, h2, hq⟩
theorem r_eqE {α : Type} [DecidableEq α] [Enc α] {a b : α} (hx : vD G x = Enc.enc a) (hy : vD G y = Enc.enc b) (h1 : Pl (Enc.enc a) 60) (h2 : Pl (Enc.enc b) 60) {r : Bool} (hr : r = true ↔ a = b) (k : Q (.bl (neg != r)) G) : rEqT neg x y G Q E := by
  refine r_eqG hx hy h1 h2 ?_
  have : eqD (Enc.enc a) (Enc.enc b) = r := by
    rw [Enc.eqv, Bool.eq_iff_iff, hr]
    simp
  rw [this]
  exact k
theorem vD_ref (h : G p = some (.lst xs)) : vD G (.ref p) = .lst xs := by unfold vD; simp [h]
theorem r_inG {ys : List D} (hy : vQ G y = some ys) (hs : ∀ z, y ≠ .str z) (h1 : Pl x 50) (h2 : PlL ys 50) (hq : Q (.bl (neg != ys.any fun e => eqD e x)) G) : rInT neg x y G Q E := by
  unfold rInT
  split
  · exact absurd rfl (hs _)
  · rw [hy]; exact ⟨h1, h2, hq⟩
theorem frz_lst {xs : List D} (h : G p = some (.lst xs)) : frz G (.ref p) = some (.lst xs, gdel G p) := by unfold frz; simp [h]
theorem frz_dK {xs : List (Key × D)} (h : G p = some (.dK xs)) : frz G (.ref p) = some (.dK xs, gdel G p) := by unfold frz; simp [h]
theorem frz_ins {C : Addr} {fs : List (Str × D)} (h : G p = some (.ins C fs)) : frz G (.ref p) = some (.ins C fs, gdel G p) := by unfold frz; simp [h]
end
end TL
end
section
set_option exponentiation.threshold 100
namespace PL
open PySem PySem.Spec L2 TL WK
local macro_rules | `(tactic| kwd_rel) => `(tactic| simp only [startT, spOf, sSeq, sIf, sSet, sRet, sRetN, sExpr, sNext, sPar, sPutNm, sPut, sAug, sAsg, eC, eVar, aNil, aCons, aOne, eOp, eUn, eB, eAdd, eSub, eMul, eDiv, eMod, ePow, eNeg, eLt, eLe, eGt, eGe, eEq, eNe, eIs, eIsNot, eIn, eNotIn, eIx, eAbs, eMax2, eMin2, eDvm, eLen, eList, eListC, eTuple, eAll, eAny, eSum, tBl, tNot', tAnd', tOr', eAnd, eOr, eNot, eIf, eTup, eLst, eLstC, eCall, eMeth, eMake, eFld, eLm, sFrz, eFrz, r_add, r_addS, r_addL, r_sub, r_mul, r_div, r_mod, r_pow, r_neg, r_lt, r_le, r_gt, r_ge, r_ixL, r_ixT, r_ixS, atI_0, atI_1, atI_2, b_abs, b_max, b_min, b_dvm, b_lenL, b_lenT, b_lenQ, CT_true, true_and, List.map, List.length, List.replicate, List.cons_append, List.nil_append, List.append_nil, Nat.zero_le, List.getElem?_cons_zero, List.getElem?_cons_succ, List.getElem?_nil, List.set_cons_zero, List.set_cons_succ])
theorem eqD_nil {xs : List D} : eqD (.lst xs) (.lst []) = xs.isEmpty := by
  cases xs <;> simp [eqD, toPy, toPyL, PyData.eqv, PyData.eqvAll]
theorem ne_of_get {G : GH} {p q : Addr} {c : Cl} (h : G p = some c) (n : G q = none) : p ≠ q := fun e => by rw [e, n] at h; cases h
theorem Pot.ne {G : GH} {p q : Addr} (h : Pot G p) (n : G q = none) : p ≠ q := by
  obtain ⟨a, b, _, _, _, e⟩ := h
  exact ne_of_get e n
theorem Pot.up {G : GH} {p q : Addr} {c : Cl} (h : Pot G p) (n : p ≠ q) : Pot (gup G q c) p := by
  obtain ⟨a, b, h1, h2, h3, e⟩ := h
  exact ⟨a, b, h1, h2, h3, by rw [gup_ne n]; exact e⟩
theorem Pot.del {G : GH} {p q : Addr} (h : Pot G p) (n : p ≠ q) : Pot (gdel G q) p := by
  obtain ⟨a, b, h1, h2, h3, e⟩ := h
  exact ⟨a, b, h1, h2, h3, by rw [gdel_ne n]; exact e⟩
theorem Pot.new {G : GH} {p : Addr} {a b : Int} (h1 : 0 ≤ a) (h2 : 0 ≤ b) (h3 : b < 2147483648) : Pot (gup G p (potD a b)) p := ⟨a, b, h1, h2, h3, gup_same⟩
/-- a draw, as a caller sees it -/
theorem sp_draw {p : Addr} {n : Int} {G : GH} {Q : KD} {E : KX} (h : Pot G p) (hn : 0 < n) (hb : n < 2 ^ 62) (k : ∀ d G', 0 ≤ d → d < n → Pot G' p → Same p G G' → Q (.int d) G') : spDraw [.ref p, .int n] G Q E :=
  ⟨p, n, rfl, h, hn, log2_lt (k := 9000) (Nat.lt_of_lt_of_le (m := 2 ^ 62) (by omega) (Nat.pow_le_pow_right (by decide) (show 62 ≤ 9000 by decide))) (by decide), fun d a b h1 h2 h3 h4 h5 => k d _ h1 h2 (Pot.new h3 h4 h5) Same.gup⟩
theorem getElem_perm {α : Type} : ∀ {l : List α} {i : Nat} (h : i < l.length), (l[i] :: l.eraseIdx i).Perm l
  | x :: l, 0, _ => List.Perm.refl _
  | x :: l, i + 1, h => by
    have h' : i < l.length := by simpa using h
    simp only [List.getElem_cons_succ, List.eraseIdx_cons_succ]
    exact (List.Perm.swap _ _ _).trans ((getElem_perm h').cons x)
def spMixed : SpT := fun ds G Q E => ∃ p d xs, ds = [.ref p, d] ∧ Pot G p ∧ vQ G d = some xs ∧ xs.length ≤ 1000 ∧ PlL xs 50 ∧ ∀ ys G', ys.Perm xs → Pot G' p → Same p G G' → Q (.lst ys) G'
theorem mixed_ok : ∀ ds G Q E, spMixed ds G Q E → sp0_law_mixed spDraw ds G Q E := by
  rintro ds G Q E ⟨p, d, xs, rfl, hp, hx, hn, hpl, k⟩
  refine ⟨rfl, ?_⟩
  unfold t_law_mixed N_law_mixed
  kwd_rel
  show rLstC' [d] G _
  unfold rLstC'
  simp only [hx]
  have s0 : sizeLine = 16777216 := rfl
  intro q hq
  intro r hr
  have nq : p ≠ q := hp.ne hq
  have nqr : q ≠ r := ne_of_get gup_same hr
  have nr : p ≠ r := (hp.up nq).ne hr
  have hr0 : G r = none := by rw [gup_ne nqr.symm] at hr; exact hr
  refine while_inv (fun n τ G' => ∃ rest acc, n = rest.length ∧ τ = [some (.ref p), some d, some (.ref q), some (.ref r)] ∧ G' q = some (.lst rest) ∧ G' r = some (.lst acc) ∧ Pot G' p ∧ (∀ a, a ≠ p → a ≠ q → a ≠ r → G' a = G a) ∧ (acc ++ rest).Perm xs) ?_ (n := xs.length) ⟨xs, [], rfl, rfl, by rw [gup_ne nqr]; exact gup_same, gup_same, (hp.up nq).up nr, fun a h1 h2 h3 => by rw [gup_ne h3, gup_ne h2], by simp⟩
  rintro n τ G' ⟨rest, acc, rfl, rfl, h1, h2, h3, h4, h5⟩ K hK
  have hl : acc.length + rest.length = xs.length := by rw [← h5.length_eq]; simp
  have hpr : PlL rest 50 := plL_iff.mpr fun x hx => plL_iff.mp hpl x (h5.mem_iff.mp (List.mem_append_right acc hx))
  kwd_rel
  refine r_eqG (y := .lst []) (e := .lst []) (vD_ref h1) rfl (by simpa [Pl] using plL_mono (by decide) hpr) (by simp [Pl, PlL]) ?_
  cases rest with
  | nil =>
    simp only [eqD_nil, List.isEmpty_nil, bne_self_eq_false, Bool.false_eq_true, if_false]
    simp only [frz_lst h2]
    rw [frz_lst (G := gdel G' r) (p := q) (xs := []) (by rw [gdel_ne nqr]; exact h1)]
    refine k acc _ (by simpa using h5) ((h3.del nr).del nq) fun a ha => ?_
    by_cases e1 : a = q
    · subst e1; rw [gdel_same, hq]
    · rw [gdel_ne e1]
      by_cases e2 : a = r
      · subst e2; rw [gdel_same, hr0]
      · rw [gdel_ne e2, h4 a ha e1 e2]
  | cons x rest =>
    simp only [eqD_nil, List.isEmpty_cons, Bool.bne_false, if_true]
    simp only [vL_ref h1, vL_ref h2, Option.isSome_some, true_and, b_lenR h1]
    refine sp_draw h3 (by simp) (by simp at hl ⊢; omega) fun i G2 i0 i1 p2 s2 => ?_
    have g1 : G2 q = some (.lst (x :: rest)) := s2.get nq.symm h1
    have g2 : G2 r = some (.lst acc) := s2.get nr.symm h2
    simp only [g1, mPopAt]
    have i2 : i.toNat < (x :: rest).length := by omega
    rw [if_pos (by simp only [List.length_cons] at hl i1; omega), seqIndex_of i0 i1]
    simp only [List.getElem?_eq_getElem i2]
    rw [gup_ne nqr.symm, g2]
    simp only [mAppend]
    rw [if_pos (by omega)]
    refine hK ((x :: rest).eraseIdx i.toNat).length _ _ (by rw [List.length_eraseIdx, if_pos i2]; simp) ⟨_, _, rfl, rfl, by rw [gup_ne nqr]; exact gup_same, gup_same, (p2.up nq).up nr, fun a a1 a2 a3 => by rw [gup_ne a3, gup_ne a2, s2 a a1]; exact h4 a a1 a2 a3, ?_⟩
    rw [List.append_assoc]
    exact ((getElem_perm i2).append_left acc).trans h5
end PL
end
section
namespace PL
open PySem PySem.Spec L2 TL WK
local macro_rules | `(tactic| kwd_rel) => `(tactic| simp only [startT, spOf, sSeq, sIf, sSet, sRet, sRetN, sExpr, sNext, sPar, sPutNm, sPut, sAug, sAsg, eC, eVar, aNil, aCons, aOne, eOp, eUn, eB, eAdd, eSub, eMul, eDiv, eMod, ePow, eNeg, eLt, eLe, eGt, eGe, eEq, eNe, eIs, eIsNot, eIn, eNotIn, eIx, eAbs, eMax2, eMin2, eDvm, eLen, eList, eListC, eTuple, eAll, eAny, eSum, tBl, tNot', tAnd', tOr', eAnd, eOr, eNot, eIf, eTup, eLst, eLstC, eCall, eMeth, eMake, eFld, eLm, eLc, eLcC, iSeq, iRng, iRng2', TL.iZip, eSm, eRevS, sFrz, eFrz, sFor, r_add, r_addS, r_addL, r_sub, r_mul, r_div, r_mod, r_pow, r_neg, r_lt, r_le, r_gt, r_ge, r_ixL, r_ixT, r_ixS, r_eqI, atI_0, atI_1, atI_2, b_abs, b_max, b_min, b_dvm, b_lenL, b_lenT, b_lenQ, vIt_str, vIt_lst, vIt_tup, CT_true, true_and, wipeT, List.map, List.length, List.replicate, List.cons_append, List.nil_append, List.append_nil, Nat.zero_le, List.getElem?_cons_zero, List.getElem?_cons_succ, List.getElem?_nil, List.set_cons_zero, List.set_cons_succ])
theorem atI_mem {α : Type} {xs : List α} {i : Int} (h0 : 0 ≤ i) (h1 : i < xs.length) : ∃ x ∈ xs, atI xs i = some x := by
  obtain ⟨n, rfl⟩ := Int.eq_ofNat_of_zero_le h0
  have hn : n < xs.length := by omega
  exact ⟨xs[n], List.getElem_mem hn, by rw [TL.atI_nat, List.getElem?_eq_getElem hn]⟩
abbrev cl (s : Str) : List Nat := s.cps.toList
theorem cl_ext {s t : Str} (h : cl s = cl t) : s = t := by
  cases s; cases t
  simp only [cl] at h
  rw [Array.toList_inj.mp h]
theorem cl_len (s : Str) : (cl s).length = s.length := Array.length_toList
theorem cl_app (s t : Str) : cl (s ++ t) = cl s ++ cl t := Array.toList_append
/-- a name: 1 to 8 letters -/
def Nm (s : Str) : Prop := 1 ≤ s.length ∧ s.length ≤ 8 ∧ ∀ c ∈ cl s, 97 ≤ c ∧ c < 123
instance (s : Str) : Decidable (Nm s) := by unfold Nm; infer_instance
def abc : Str := "abcdefghijklmnopqrstuvwxyz"
theorem abc_cl : cl abc = List.range' 97 26 := by decide +kernel
theorem abc_len : abc.length = 26 := by decide +kernel
theorem strOk_of {s : Str} (h : ∀ c ∈ cl s, c < 0x110000) : PyData.strOk s = true := by
  unfold PyData.strOk
  rw [← Array.all_toList]
  exact List.all_eq_true.mpr fun c hc => decide_eq_true (h c hc)
theorem Nm.ok {s : Str} (h : Nm s) : PyData.strOk s = true := strOk_of fun c hc => by have := h.2.2 c hc; omega
theorem vQ_same {p : Addr} {G G' : GH} {d : D} (h : TL.Same p G G') (n : d ≠ .ref p) : vQ G' d = vQ G d := by
  cases d with
  | ref q =>
    have : q ≠ p := fun e => n (by rw [e])
    unfold vQ
    simp only [h q this]
  | _ => rfl
theorem plS {us : List Str} (h : ∀ u ∈ us, Nm u) : PlL (us.map D.str) 50 := plL_iff.mpr fun x hx => by
  obtain ⟨u, hu, rfl⟩ := List.mem_map.mp hx
  simpa [Pl] using (h u hu).ok
theorem any_str (us : List Str) (s : Str) : ((us.map D.str).any fun e => eqD e (.str s)) = decide (s ∈ us) := any_enc us s
theorem strsD_map : ∀ ys : List Str, strsD (ys.map D.str) = some ys
  | [] => rfl
  | y :: r => by show (strsD (r.map D.str)).map (y :: ·) = _; rw [strsD_map r]; rfl
theorem join_e : ∀ ys : List Str, cl (Str.join Str.empty ys) = (ys.map cl).flatten
  | [] => rfl
  | [x] => by simp [Str.join]
  | x :: y :: r => by
    show cl (x ++ Str.empty ++ Str.join Str.empty (y :: r)) = _
    rw [cl_app, cl_app, join_e (y :: r)]
    simp [cl, Str.empty]
def one (c : Nat) : Str := ⟨#[c]⟩
theorem join_ones (cs : List Nat) : cl (Txt.join "" (cs.map one)) = cs := by
  rw [TL.join_eq]
  show cl (Str.join Str.empty (cs.map one)) = cs
  rw [join_e]
  induction cs with
  | nil => rfl
  | cons c r ih => simpa [one, cl] using ih
def spName : SpT := fun ds G Q E => ∃ (p : Addr) (u : D) (us : List Str), ds = [.ref p, u] ∧ Pot G p ∧ vQ G u = some (us.map D.str) ∧ (∀ s ∈ us, Nm s) ∧ us.length ≤ 25 ∧ u ≠ .ref p ∧ (∀ z, u ≠ .str z) ∧ ∀ s G', Nm s → s ∉ us → Pot G' p → TL.Same p G G' → Q (.str s) G'
section
variable {A B C D F R : S1} {DT : En} {E : KS} {τ : Sl} {G : GH}
theorem cut1 (I : Sl → GH → Prop) (h1 : ∀ K : Sl → GH → Prop, (∀ τ' G', I τ' G' → K τ' G') → sSeq A (fun _ _ => K) DT E τ G) (h2 : ∀ τ' G', I τ' G' → R DT E τ' G') : sSeq A R DT E τ G := h1 (R DT E) h2
theorem cut2 (I : Sl → GH → Prop) (h1 : ∀ K : Sl → GH → Prop, (∀ τ' G', I τ' G' → K τ' G') → sSeq A (sSeq B (fun _ _ => K)) DT E τ G) (h2 : ∀ τ' G', I τ' G' → R DT E τ' G') : sSeq A (sSeq B R) DT E τ G := h1 (R DT E) h2
theorem cut3 (I : Sl → GH → Prop) (h1 : ∀ K : Sl → GH → Prop, (∀ τ' G', I τ' G' → K τ' G') → sSeq A (sSeq B (sSeq C (fun _ _ => K))) DT E τ G) (h2 : ∀ τ' G', I τ' G' → R DT E τ' G') : sSeq A (sSeq B (sSeq C R)) DT E τ G := h1 (R DT E) h2
theorem cut4 (I : Sl → GH → Prop) (h1 : ∀ K : Sl → GH → Prop, (∀ τ' G', I τ' G' → K τ' G') → sSeq A (sSeq B (sSeq C (sSeq D (fun _ _ => K)))) DT E τ G) (h2 : ∀ τ' G', I τ' G' → R DT E τ' G') : sSeq A (sSeq B (sSeq C (sSeq D R))) DT E τ G := h1 (R DT E) h2
theorem cut5 (I : Sl → GH → Prop) (h1 : ∀ K : Sl → GH → Prop, (∀ τ' G', I τ' G' → K τ' G') → sSeq A (sSeq B (sSeq C (sSeq D (sSeq F (fun _ _ => K))))) DT E τ G) (h2 : ∀ τ' G', I τ' G' → R DT E τ' G') : sSeq A (sSeq B (sSeq C (sSeq D (sSeq F R)))) DT E τ G := h1 (R DT E) h2
end
theorem ix_list {xs : List D} {i : Int} {G : GH} {Q : KD} {E : KX} (h0 : 0 ≤ i) (h1 : i < xs.length) (h : ∀ x ∈ xs, atI xs i = some x → Q x G) : rIxT' (.lst xs) (.int i) G Q E := by
  obtain ⟨x, hx, ex⟩ := atI_mem h0 h1
  rw [r_ixL, ex]
  exact h x hx ex
theorem ix_str {z : Str} {i : Int} {G : GH} {Q : KD} {E : KX} (hz : z.length ≤ sizeLine) (h0 : 0 ≤ i) (h1 : i < z.length) (h : ∀ c ∈ cl z, atI (cl z) i = some c → Q (.str (one c)) G) : rIxT' (.str z) (.int i) G Q E := by
  obtain ⟨x, hx, ex⟩ := atI_mem (xs := cl z) h0 (by rw [cl_len]; exact h1)
  show z.length ≤ sizeLine ∧ (match atI (cl z) i with
      | some c => Q (.str ⟨#[c]⟩) G
      | none => False)
  rw [ex]
  exact ⟨hz, h x hx ex⟩
def cand (i : Nat) : Str := ⟨#[97 + i, 122 - i, 113]⟩
def fCand (us : List Str) : D → Option D
  | .tup [.str a, .str b] => if a ++ b ++ "q" ∈ us then none else some (.str (a ++ b ++ "q"))
  | _ => none
theorem zip_abc : zipD (signsD abc) (signsD (revS abc)) = (List.range 26).map fun i => .tup [.str (one (97 + i)), .str (one (122 - i))] := by rfl
theorem cand_eq (i : Nat) : one (97 + i) ++ one (122 - i) ++ "q" = cand i := rfl
theorem cand_nd : ((List.range 26).map cand).Nodup := by decide +kernel
theorem cand_nm : ∀ i < 26, Nm (cand i) := by decide +kernel
theorem nodup_le {α : Type} [DecidableEq α] : ∀ {xs ys : List α}, xs.Nodup → (∀ x ∈ xs, x ∈ ys) → xs.length ≤ ys.length
  | [], _, _, _ => Nat.zero_le _
  | x :: xs, ys, h, s => by
    obtain ⟨h1, h2⟩ := List.nodup_cons.mp h
    have hx := s x (List.mem_cons_self ..)
    have := nodup_le (ys := ys.erase x) h2 fun y hy => by
      have : y ≠ x := fun e => h1 (by rw [← e]; exact hy)
      exact (List.mem_erase_of_ne this).mpr (s y (List.mem_cons_of_mem _ hy))
    have l := List.length_erase_of_mem hx
    have : 0 < ys.length := List.length_pos_of_mem hx
    simp only [List.length_cons]
    omega
theorem sum_one : ∀ cs : List Nat, ((cs.map one).map (·.length)).sum = cs.length
  | [] => rfl
  | c :: r => by
    rw [List.map_cons, List.map_cons, List.sum_cons, sum_one r, List.length_cons]
    show 1 + r.length = _
    omega
theorem words_nm : ∀ w ∈ (["node", "edge", "step", "leave", "join", "accept", "process", "deliver"] : List Str), Nm w := by decide +kernel
theorem name_ok : ∀ ds G Q E, spName ds G Q E → sp0_law_name spDraw ds G Q E := by
  rintro ds G Q E ⟨p, u, us, rfl, hp, hu, hn, hl, hup, hus, k⟩
  refine ⟨rfl, ?_⟩
  have s0 : sizeLine = 16777216 := rfl
  unfold t_law_name N_law_name
  refine cut4 (fun τ' G' => ∃ (n : D) (w : Str), τ' = [some (.ref p), some u, some (.str abc), some n, some (.str w), none, none, none] ∧ Nm w ∧ Pot G' p ∧ TL.Same p G G') (fun K hK => ?_) ?_
  · kwd_rel
    refine sp_draw hp (by decide) (by decide) fun d1 G1 a1 b1 p1 s1 => ?_
    refine ⟨by omega, sp_draw p1 (by decide) (by decide) fun d2 G2 a2 b2 p2 s2 => ?_⟩
    refine ix_list a2 b2 fun x hx _ => ?_
    have : ∃ n : Nat, x = .int n ∧ 1 ≤ n ∧ n ≤ 8 := by
      simp only [List.mem_cons, List.not_mem_nil, or_false] at hx
      rcases hx with rfl | rfl | rfl | rfl | rfl
      · exact ⟨1, rfl, by omega, by omega⟩
      · exact ⟨1, rfl, by omega, by omega⟩
      · exact ⟨2, rfl, by omega, by omega⟩
      · exact ⟨8, rfl, by omega, by omega⟩
      · obtain ⟨m, rfl⟩ := Int.eq_ofNat_of_zero_le a1
        exact ⟨1 + m, by push_cast; rfl, by omega, by omega⟩
    obtain ⟨n, rfl, n1, n8⟩ := this
    refine ⟨by omega, by omega, ?_⟩
    have ln : (rngD 0 (n : Int).toNat).length = n := by simp [rngD]
    refine lc_inv (fun i acc G' => ∃ cs : List Nat, cs.length = i ∧ acc = (cs.map one).map D.str ∧ (∀ c ∈ cs, 97 ≤ c ∧ c < 123) ∧ Pot G' p ∧ TL.Same p G G') (fun _ _ _ _ => trivial) (fun i acc G' h => ?_) (by omega) (fun i d acc G' e h => ?_) (fun acc G' h => ?_) ⟨[], rfl, rfl, by simp, p2, s1.trans s2⟩
    · obtain ⟨cs, rfl, rfl, _⟩ := h
      simp
    · obtain ⟨cs, rfl, rfl, hc, p3, s3⟩ := h
      refine ⟨_, rfl, fun K' K2 k' k2 => ?_⟩
      simp only [tTrue, if_true]
      kwd_rel
      refine sp_draw p3 (by decide) (by decide) fun d4 G4 a4 b4 p4 s4 => ?_
      refine ix_str (z := abc) (by rw [abc_len]; decide) a4 (by rw [abc_len]; exact b4) fun c hc' _ => k' _ _ ⟨cs ++ [c], by simp, by simp, ?_, p4, s3.trans s4⟩
      intro c1 h1
      rcases List.mem_append.mp h1 with h1 | h1
      · exact hc c1 h1
      · rw [abc_cl] at hc'
        simp at h1 hc'
        omega
    · obtain ⟨cs, lc, rfl, hc, p3, s3⟩ := h
      rw [ln] at lc
      subst lc
      unfold rJoin
      simp only [vQ_lst, strsD_map]
      have hw := join_ones cs
      have nw : Nm (Txt.join "" (cs.map one)) := ⟨by rw [← cl_len, hw]; omega, by rw [← cl_len, hw]; omega, by rw [hw]; exact hc⟩
      have sm := sum_one cs
      have le : (Str.ofString "").length = 0 := by decide
      refine ⟨by rw [sm, le]; omega, ?_⟩
      refine sp_draw p3 (by decide) (by decide) fun d5 G5 a5 b5 p5 s5 => ?_
      simp only [r_eqI]
      by_cases e5 : d5 = 0
      · simp only [e5, decide_true, Bool.bne_true, Bool.not_false, if_true]
        refine ⟨by omega, sp_draw p5 (by decide) (by decide) fun d6 G6 a6 b6 p6 s6 => ?_⟩
        refine ix_list a6 b6 fun x hx _ => ?_
        have : ∃ w : Str, x = .str w ∧ Nm w := by
          simp only [List.mem_cons, List.not_mem_nil, or_false] at hx
          rcases hx with rfl | rfl | rfl | rfl | rfl | rfl | rfl | rfl <;> exact ⟨_, rfl, words_nm _ (by simp)⟩
        obtain ⟨w, rfl, nw⟩ := this
        exact hK _ _ ⟨_, w, rfl, nw, p6, (s3.trans s5).trans s6⟩
      · simp only [e5, decide_false, Bool.bne_false, Bool.false_eq_true, if_false]
        exact hK _ _ ⟨_, _, rfl, nw, p5, s3.trans s5⟩
  · rintro τ' G' ⟨n, w, rfl, nw, p1, s1⟩
    have hu' : vQ G' u = some (us.map D.str) := (vQ_same s1 hup).trans hu
    kwd_rel
    refine r_inG hu' hus (by simpa [Pl] using nw.ok) (plS hn) ?_
    rw [any_str]
    by_cases hw : w ∈ us
    · simp only [hw, decide_true]
      simp only [Bool.bne_true, Bool.not_false, if_true]
      refine ⟨by decide +kernel, ?_⟩
      rw [zip_abc]
      refine lc_fm (fCand us) trivial (by simp) (fun d hd => ?_) ?_
      · obtain ⟨i, hi, rfl⟩ := List.mem_map.mp hd
        refine ⟨_, rfl, fun K K2 h => ?_⟩
        have hi' : i < 26 := by simpa using hi
        have nc := cand_nm i hi'
        have ec : one (97 + i) ++ one (122 - i) ++ Str.ofString "q" = cand i := rfl
        kwd_rel
        have l1 : (one (97 + i)).length + (one (122 - i)).length ≤ sizeLine := by show 1 + 1 ≤ 16777216; decide
        have l2 : (one (97 + i) ++ one (122 - i)).length + (Str.ofString "q").length ≤ sizeLine := by show 2 + 1 ≤ 16777216; decide
        refine ⟨l1, l2, r_inG hu' hus (by rw [ec]; simpa [Pl] using nc.ok) (plS hn) ?_⟩
        rw [ec, any_str]
        have ef : fCand us (.tup [.str (one (97 + i)), .str (one (122 - i))]) = if cand i ∈ us then none else some (.str (cand i)) := rfl
        rw [ef] at h
        by_cases hc : cand i ∈ us
        · simpa [hc] using h
        · simp only [hc, decide_false, Bool.bne_false, if_true, if_false] at h ⊢
          exact ⟨l1, l2, h⟩
      · have : ∃ i < 26, cand i ∉ us := by
          refine Classical.byContradiction fun hno => ?_
          have h2 : ∀ x ∈ (List.range 26).map cand, x ∈ us := fun x hx => by
            obtain ⟨i, hi, rfl⟩ := List.mem_map.mp hx
            exact Classical.byContradiction fun h3 => hno ⟨i, by simpa using hi, h3⟩
          have := nodup_le (cand_nd) h2
          simp at this
          omega
        obtain ⟨i, hi, hc⟩ := this
        have hm : D.str (cand i) ∈ ((List.range 26).map fun i => D.tup [.str (one (97 + i)), .str (one (122 - i))]).filterMap (fCand us) :=
          List.mem_filterMap.mpr ⟨_, List.mem_map.mpr ⟨i, by simpa using hi, rfl⟩, by show (if cand i ∈ us then none else some (D.str (cand i))) = _; rw [if_neg hc]⟩
        have hp : 0 < (((List.range 26).map fun i => D.tup [.str (one (97 + i)), .str (one (122 - i))]).filterMap (fCand us)).length := List.length_pos_of_mem hm
        rw [List.getElem?_eq_getElem hp]
        obtain ⟨d, hd, e⟩ := List.mem_filterMap.mp (List.getElem_mem hp)
        obtain ⟨j, hj, rfl⟩ := List.mem_map.mp hd
        have e' : (if cand j ∈ us then none else some (D.str (cand j))) = some _ := e
        by_cases hcj : cand j ∈ us
        · rw [if_pos hcj] at e'; cases e'
        · rw [if_neg hcj] at e'
          rw [← Option.some.inj e']
          exact k _ G' (cand_nm j (by simpa using hj)) hcj p1 s1
    · simp only [hw, decide_false]
      exact k w G' nw hw p1 s1
end PL
end
section
namespace PL
open PySem PySem.Spec L2 TL WK
local macro_rules | `(tactic| kwd_rel) => `(tactic| simp only [startT, spOf, sSeq, sIf, sSet, sRet, sRetN, sExpr, sNext, sPar, sPutNm, sPut, sAug, sAsg, eC, eVar, aNil, aCons, aOne, eOp, eUn, eB, eAdd, eSub, eMul, eDiv, eMod, ePow, eNeg, eLt, eLe, eGt, eGe, eEq, eNe, eIs, eIsNot, eIn, eNotIn, eIx, eAbs, eMax2, eMin2, eDvm, eLen, eList, eListC, eTuple, eAll, eAny, eSum, tBl, tNot', tAnd', tOr', eAnd, eOr, eNot, eIf, eTup, eLst, eLstC, eCall, eMeth, eMake, eFld, eLm, eLc, eLcC, iSeq, iRng, iRng2', TL.iZip, eSm, eRevS, sFrz, eFrz, sFor, r_add, r_addS, r_addL, r_sub, r_mul, r_div, r_mod, r_pow, r_neg, r_lt, r_le, r_gt, r_ge, r_ixL, r_ixT, r_ixS, r_eqI, atI_0, atI_1, atI_2, b_abs, b_max, b_min, b_dvm, b_lenL, b_lenT, b_lenQ, vIt_str, vIt_lst, vIt_tup, CT_true, true_and, wipeT, List.map, List.length, List.replicate, List.cons_append, List.nil_append, List.append_nil, Nat.zero_le, List.getElem?_cons_zero, List.getElem?_cons_succ, List.getElem?_nil, List.set_cons_zero, List.set_cons_succ])
def spNames : SpT := fun ds G Q E => ∃ (p : Addr) (n : Nat), ds = [.ref p, .int n] ∧ Pot G p ∧ n ≤ 25 ∧ ∀ (ss : List Str) G', ss.length = n → ss.Nodup → (∀ s ∈ ss, Nm s) → Pot G' p → TL.Same p G G' → Q (.lst (ss.map D.str)) G'
theorem names_ok : ∀ ds G Q E, spNames ds G Q E → sp0_law_names spName ds G Q E := by
  rintro ds G Q E ⟨p, n, rfl, hp, hn, k⟩
  refine ⟨rfl, ?_⟩
  unfold t_law_names N_law_names
  kwd_rel
  intro q hq
  have s0 : sizeLine = 16777216 := rfl
  have nq : p ≠ q := hp.ne hq
  refine ⟨by omega, by omega, ?_⟩
  have ln : (rngD 0 (n : Int).toNat).length = n := by simp [rngD]
  refine for_inv (fun i τ' G' => ∃ (ss : List Str) (d : Option D), τ' = [some (.ref p), some (.int n), some (.ref q), d] ∧ ss.length = i ∧ ss.Nodup ∧ (∀ s ∈ ss, Nm s) ∧ Pot G' p ∧ G' q = some (.lst (ss.map D.str)) ∧ ∀ a, a ≠ p → a ≠ q → G' a = G a) (fun _ _ _ _ => trivial) ?_ ?_ ⟨[], none, rfl, rfl, by simp, by simp, hp.up nq, gup_same, fun a h1 h2 => gup_ne h2⟩
  · rintro i d τ' G' e ⟨ss, d0, rfl, li, nd, nm, p1, g1, o1⟩
    refine ⟨_, rfl, fun K hK => ?_⟩
    have hi : i < n := by rw [← ln]; exact (List.getElem?_eq_some_iff.mp e).1
    kwd_rel
    simp only [vL_ref g1, Option.isSome_some, true_and]
    refine ⟨p, _, ss, rfl, p1, vQ_ref g1, nm, by omega, fun e => nq.symm (by injection e), fun _ => nofun, fun s G2 ns hs p2 s2 => ?_⟩
    have g2 : G2 q = _ := s2.get nq.symm g1
    simp only [g2, mAppend]
    rw [if_pos (by simp; omega)]
    refine hK _ _ ⟨ss ++ [s], _, rfl, by simp; omega, ?_, ?_, p2.up nq, by rw [gup_same, List.map_append]; rfl, fun a h1 h2 => by rw [gup_ne h2, s2 a h1]; exact o1 a h1 h2⟩
    · exact List.nodup_append.mpr ⟨nd, by simp, fun a ha b hb => by simp at hb; subst hb; exact fun e => hs (e ▸ ha)⟩
    · intro a ha
      rcases List.mem_append.mp ha with h | h
      · exact nm a h
      · simp at h; subst h; exact ns
  · rintro τ' G' ⟨ss, d, rfl, li, nd, nm, p1, g1, o1⟩
    kwd_rel
    simp only [frz_lst g1]
    rw [ln] at li
    refine k ss _ li nd nm (p1.del nq) fun a ha => ?_
    by_cases e : a = q
    · subst e; rw [gdel_same, hq]
    · rw [gdel_ne e, o1 a ha e]
end PL
end
section
namespace PL
open PySem PySem.Spec L2 TL WK
local macro_rules | `(tactic| kwd_rel) => `(tactic| simp only [startT, spOf, sSeq, sIf, sSet, sRet, sRetN, sExpr, sNext, sPar, sPutNm, sPut, sAug, sAsg, eC, eVar, aNil, aCons, aOne, eOp, eUn, eB, eAdd, eSub, eMul, eDiv, eMod, ePow, eNeg, eLt, eLe, eGt, eGe, eEq, eNe, eIs, eIsNot, eIn, eNotIn, eIx, eAbs, eMax2, eMin2, eDvm, eLen, eList, eListC, eTuple, eAll, eAny, eSum, tBl, tNot', tAnd', tOr', eAnd, eOr, eNot, eIf, eTup, eLst, eLstC, eCall, eMeth, eMake, eFld, eLm, eLc, eLcC, iSeq, iRng, iRng2', TL.iZip, eSm, eRevS, sFrz, eFrz, sFor, r_add, r_addS, r_addL, r_sub, r_mul, r_div, r_mod, r_pow, r_neg, r_lt, r_le, r_gt, r_ge, r_ixL, r_ixT, r_ixS, r_eqI, atI_0, atI_1, atI_2, b_abs, b_max, b_min, b_dvm, b_lenL, b_lenT, b_lenQ, vIt_str, vIt_lst, vIt_tup, CT_true, true_and, wipeT, List.map, List.length, List.replicate, List.cons_append, List.nil_append, List.append_nil, Nat.zero_le, List.getElem?_cons_zero, List.getElem?_cons_succ, List.getElem?_nil, List.set_cons_zero, List.set_cons_succ, gT, gsT, TgL.len, TL.vQ_tup, TL.vQ_lst, Nat.reduceAdd, Nat.reduceEqDiff, if_true, eSl, oSome, oNone])
abbrev Ed := Str × Str
abbrev edD (e : Ed) : D := .tup [.str e.1, .str e.2]
/-- a good graph -/
structure Gd (ps : List Str) (es : List Ed) : Prop where
  nd : ps.Nodup
  nm : ∀ s ∈ ps, Nm s
  l1 : 1 ≤ ps.length
  l16 : ps.length ≤ 16
  ein : ∀ e ∈ es, e.1 ∈ ps ∧ e.2 ∈ ps
  en : es.Nodup
  rk : ∃ r : Str → Nat, ∀ e ∈ es, r e.1 < r e.2
theorem Gd.le {ps : List Str} {es : List Ed} (g : Gd ps es) : es.length ≤ 256 := by
  have h : ∀ e ∈ es, e ∈ ps.flatMap fun a => ps.map fun b => (a, b) := fun e he => by
    obtain ⟨h1, h2⟩ := g.ein e he
    exact List.mem_flatMap.mpr ⟨e.1, h1, List.mem_map.mpr ⟨e.2, h2, rfl⟩⟩
  have := nodup_le g.en h
  have l : ∀ (qs : List Str), (qs.flatMap fun a => ps.map fun b => (a, b)).length = qs.length * ps.length := by
    intro qs
    induction qs with
    | nil => simp
    | cons q qs ih => rw [List.flatMap_cons, List.length_append, ih, List.length_map, List.length_cons, Nat.succ_mul]; omega
  rw [l] at this
  have : ps.length * ps.length ≤ 16 * 16 := Nat.mul_le_mul g.l16 g.l16
  omega
theorem perm_map_inv {α β : Type} {f : α → β} {l1 l2 : List β} (h : l1.Perm l2) : ∀ {xs : List α}, l2 = xs.map f → ∃ zs : List α, l1 = zs.map f ∧ zs.Perm xs := by
  induction h with
  | nil => intro xs e; exact ⟨[], rfl, by cases xs with | nil => exact .nil | cons _ _ => cases e⟩
  | cons x h ih =>
    intro xs e
    cases xs with
    | nil => cases e
    | cons a r =>
      obtain ⟨rfl, e2⟩ := List.cons.inj e
      obtain ⟨zs, rfl, q⟩ := ih e2
      exact ⟨a :: zs, rfl, q.cons a⟩
  | swap x y l =>
    intro xs e
    match xs, e with
    | [], e => cases e
    | [_], e => cases e
    | a :: b :: r, e =>
      obtain ⟨rfl, e2⟩ := List.cons.inj e
      obtain ⟨rfl, rfl⟩ := List.cons.inj e2
      exact ⟨b :: a :: r, rfl, .swap a b r⟩
  | trans h1 h2 ih1 ih2 =>
    intro xs e
    obtain ⟨zs, rfl, q⟩ := ih2 e
    obtain ⟨ws, rfl, q2⟩ := ih1 rfl
    exact ⟨ws, rfl, q2.trans q⟩
def rkOf : List Str → Str → Nat
  | [], _ => 0
  | x :: r, s => if x = s then 0 else rkOf r s + 1
theorem rkOf_at : ∀ {o : List Str} {a : Nat} {s : Str}, o.Nodup → o[a]? = some s → rkOf o s = a
  | [], _, _, _, e => by simp at e
  | x :: r, 0, s, _, e => by simp at e; simp [rkOf, e]
  | x :: r, a + 1, s, h, e => by
    obtain ⟨h1, h2⟩ := List.nodup_cons.mp h
    have e' : r[a]? = some s := by simpa using e
    have : x ≠ s := fun q => h1 (by rw [q]; exact List.mem_of_getElem? e')
    rw [rkOf, if_neg this, rkOf_at h2 e']
theorem ix_nat {xs : List D} {j : Nat} {x : D} {G : GH} {Q : KD} {E : KX} (h : xs[j]? = some x) : rIxT' (.lst xs) (.int (j : Nat)) G Q E = Q x G := by
  rw [r_ixL, TL.atI_nat, h]
def arr (o : List Str) (h : Nat) (ls : List Nat) : List Ed := ls.map fun j => (o.getD j Str.empty, o.getD h Str.empty)
def fArr (o : List Str) (h : Nat) : D → Option D
  | .int j => some (edD (o.getD j.toNat Str.empty, o.getD h Str.empty))
  | _ => none
theorem fArr_map (o : List Str) (h : Nat) : ∀ ls : List Nat, (ls.map fun j => D.int (j : Nat)).filterMap (fArr o h) = (arr o h ls).map edD
  | [] => rfl
  | j :: r => by
    rw [List.map_cons, List.filterMap_cons]
    show edD _ :: (r.map fun j => D.int (j : Nat)).filterMap (fArr o h) = _
    rw [fArr_map o h r]
    rfl
theorem getD_at {o : List Str} {j : Nat} (h : j < o.length) : o[j]? = some (o.getD j Str.empty) := by
  rw [List.getD_eq_getElem?_getD, List.getElem?_eq_getElem h]; rfl
theorem nodup_map {α β : Type} {f : α → β} : ∀ {l : List α}, l.Nodup → (∀ a ∈ l, ∀ b ∈ l, f a = f b → a = b) → (l.map f).Nodup
  | [], _, _ => by simp
  | x :: r, h, i => by
    obtain ⟨h1, h2⟩ := List.nodup_cons.mp h
    refine List.nodup_cons.mpr ⟨fun q => ?_, nodup_map h2 fun a ha b hb => i a (List.mem_cons_of_mem _ ha) b (List.mem_cons_of_mem _ hb)⟩
    obtain ⟨y, hy, e⟩ := List.mem_map.mp q
    exact h1 (by rw [i x (List.mem_cons_self ..) y (List.mem_cons_of_mem _ hy) e.symm]; exact hy)
def spGraph : SpT := fun ds G Q E => ∃ (p : Addr) (m : Nat), ds = [.ref p, .int m] ∧ Pot G p ∧ 1 ≤ m ∧ m ≤ 16 ∧ ∀ (ps : List Str) (es : List Ed) G', Gd ps es → ps.length ≤ m → Pot G' p → TL.Same p G G' → Q (.tup [.lst (ps.map D.str), .lst (es.map edD)]) G'
/-- arrows along an order, below position h -/
structure Along (o : List Str) (h : Nat) (es : List Ed) : Prop where
  en : es.Nodup
  at_ : ∀ e ∈ es, ∃ a b, a < b ∧ b < h ∧ o[a]? = some e.1 ∧ o[b]? = some e.2
  le : es.length ≤ 16 * h
theorem Along.add {o : List Str} {h : Nat} {es : List Ed} (ndo : o.Nodup) (a : Along o h es) (hh : h < o.length) {ls : List Nat} (nl : ls.Nodup) (lt : ∀ j ∈ ls, j < h) (ll : ls.length ≤ 16) : Along o (h + 1) (es ++ arr o h ls) where
  en := by
    refine List.nodup_append.mpr ⟨a.en, nodup_map nl fun i hi j hj e => ?_, fun x hx y hy e => ?_⟩
    · have e1 : o.getD i Str.empty = o.getD j Str.empty := congrArg Prod.fst e
      have li := lt i hi
      have lj := lt j hj
      exact (List.getElem?_inj (show i < o.length by omega) ndo).mp (by rw [getD_at (by omega), getD_at (by omega), e1])
    · obtain ⟨i, j, hij, hj, e1, e2⟩ := a.at_ x hx
      obtain ⟨l, hl, rfl⟩ := List.mem_map.mp hy
      subst e
      have : o[h]? = o[j]? := by rw [e2, getD_at hh]
      have := (List.getElem?_inj hh ndo).mp this
      omega
  at_ := fun e he => by
    rcases List.mem_append.mp he with he | he
    · obtain ⟨i, j, h1, h2, h3⟩ := a.at_ e he
      exact ⟨i, j, h1, by omega, h3⟩
    · obtain ⟨l, hl, rfl⟩ := List.mem_map.mp he
      have := lt l hl
      exact ⟨l, h, this, by omega, getD_at (by omega), getD_at hh⟩
  le := by
    have := a.le
    simp [arr]
    omega
theorem plE {es : List Ed} (h : ∀ e ∈ es, Nm e.1 ∧ Nm e.2) : PlL (es.map edD) 50 := plL_iff.mpr fun x hx => by
  obtain ⟨u, hu, rfl⟩ := List.mem_map.mp hx
  simpa [Pl, PlL] using ⟨(h u hu).1.ok, (h u hu).2.ok⟩
theorem graph_ok : ∀ ds G Q E, spGraph ds G Q E → sp0_law_graph spNames spDraw spMixed ds G Q E := by
  rintro ds G Q E ⟨p, m, rfl, hp, m1, m16, k⟩
  refine ⟨rfl, ?_⟩
  have s0 : sizeLine = 16777216 := rfl
  unfold t_law_graph N_law_graph
  refine cut1 (fun τ' G' => ∃ (ps : List Str), τ' = [some (.ref p), some (.int m), some (.lst (ps.map D.str)), none, none, none, none, none, none] ∧ 1 ≤ ps.length ∧ ps.length ≤ m ∧ ps.Nodup ∧ (∀ s ∈ ps, Nm s) ∧ Pot G' p ∧ TL.Same p G G') (fun K hK => ?_) ?_
  · kwd_rel
    refine sp_draw hp (by omega) (by omega) fun d1 G1 a1 b1 p1 s1 => ?_
    have mi : (if (m : Int) < 4 then (m : Int) else 4) = ((min 4 m : Nat) : Int) := by omega
    rw [mi, r_add]
    refine sp_draw p1 (by omega) (by omega) fun d2 G2 a2 b2 p2 s2 => ?_
    refine ⟨by omega, sp_draw p2 (by omega) (by omega) fun d3 G3 a3 b3 p3 s3 => ?_⟩
    refine ix_list a3 b3 fun x hx _ => ?_
    have : ∃ n : Nat, x = .int n ∧ 1 ≤ n ∧ n ≤ m := by
      simp only [List.mem_cons, List.not_mem_nil, or_false] at hx
      rcases hx with rfl | rfl | rfl
      · exact ⟨m, rfl, by omega, by omega⟩
      · obtain ⟨z, rfl⟩ := Int.eq_ofNat_of_zero_le a1
        exact ⟨1 + z, by push_cast; rfl, by omega, by omega⟩
      · obtain ⟨z, rfl⟩ := Int.eq_ofNat_of_zero_le a2
        exact ⟨1 + z, by push_cast; rfl, by omega, by omega⟩
    obtain ⟨n, rfl, n1, nm⟩ := this
    exact ⟨p, n, rfl, p3, by omega, fun ss G4 ls nd hn p4 s4 => hK _ _ ⟨ss, rfl, by omega, by omega, nd, hn, p4, ((s1.trans s2).trans s3).trans s4⟩⟩
  · rintro τ' G' ⟨ps, rfl, l1, lm, nd, hn, p1, s1⟩
    refine cut1 (fun τ' G' => ∃ (o : List Str) (sh : Int), τ' = [some (.ref p), some (.int m), some (.lst (ps.map D.str)), some (.lst (o.map D.str)), some (.int sh), some (.lst []), none, none, none] ∧ o.Perm ps ∧ 0 ≤ sh ∧ sh < 4 ∧ Pot G' p ∧ TL.Same p G G') (fun K hK => ?_) ?_
    · kwd_rel
      refine ⟨p, _, _, rfl, p1, rfl, by simp; omega, plS hn, fun ys G2 pm p2 s2 => ?_⟩
      obtain ⟨o, rfl, po⟩ := perm_map_inv pm rfl
      refine sp_draw p2 (by omega) (by omega) fun d3 G3 a3 b3 p3 s3 => ?_
      exact ⟨by omega, hK _ _ ⟨o, d3, rfl, po, a3, b3, p3, (s1.trans s2).trans s3⟩⟩
    · rintro τ' G' ⟨o, sh, rfl, po, h0, h4, p2, s2⟩
      have lo : o.length = ps.length := po.length_eq
      have ndo : o.Nodup := (po.nodup_iff).mpr nd
      refine cut1 (fun τ' G' => ∃ (es : List Ed) (x y z : Option D), τ' = [some (.ref p), some (.int m), some (.lst (ps.map D.str)), some (.lst (o.map D.str)), some (.int sh), some (.lst (es.map edD)), x, y, z] ∧ Along o o.length es ∧ Pot G' p ∧ TL.Same p G G') (fun K hK => ?_) ?_
      · kwd_rel
        simp only [List.length_map]
        refine ⟨by omega, ?_⟩
        have lr : (rngD 1 ((o.length : Int) - 1).toNat).length = o.length - 1 := by simp [rngD]
        refine for_inv (fun i τ' G' => ∃ (es : List Ed) (x y z : Option D), τ' = [some (.ref p), some (.int m), some (.lst (ps.map D.str)), some (.lst (o.map D.str)), some (.int sh), some (.lst (es.map edD)), x, y, z] ∧ Along o (i + 1) es ∧ Pot G' p ∧ TL.Same p G G') (fun _ _ _ _ => trivial) ?_ ?_ ⟨[], none, none, none, rfl, ⟨by simp, by simp, by simp⟩, p2, s2⟩
        · rintro i d τ' G' e ⟨es, x, y, z, rfl, al, p3, s3⟩
          have hi : i < o.length - 1 := by rw [← lr]; exact (List.getElem?_eq_some_iff.mp e).1
          obtain rfl : d = .int ((i + 1 : Nat) : Int) := by
            unfold rngD at e
            rw [List.getElem?_map, List.getElem?_range (by omega)] at e
            rw [← Option.some.inj e]
            push_cast
            rw [Int.add_comm]
          refine ⟨_, rfl, fun K2 hK2 => ?_⟩
          refine cut2 (fun τ' G' => ∃ (ls : List Nat) (z : Option D), τ' = [some (.ref p), some (.int m), some (.lst (ps.map D.str)), some (.lst (o.map D.str)), some (.int sh), some (.lst (es.map edD)), some (.int ((i + 1 : Nat) : Int)), some (.lst (ls.map fun j => D.int (j : Nat))), z] ∧ ls.Nodup ∧ (∀ j ∈ ls, j < i + 1) ∧ ls.length ≤ 16 ∧ Pot G' p ∧ TL.Same p G G') (fun K3 hK3 => ?_) ?_
          · kwd_rel
            refine ⟨by omega, by omega, ?_⟩
            have lr2 : (rngD 0 ((i + 1 : Nat) : Int).toNat).length = i + 1 := by simp [rngD]
            refine lc_inv (fun k acc G' => ∃ ls : List Nat, acc = (ls.map fun j => D.int (j : Nat)) ∧ ls.Nodup ∧ (∀ j ∈ ls, j < k) ∧ ls.length ≤ k ∧ Pot G' p ∧ TL.Same p G G') (fun _ _ _ _ => trivial) (fun k acc G' h => ?_) (by omega) (fun k d acc G' e h => ?_) (fun acc G' h => ?_) ⟨[], rfl, by simp, by simp, by simp, p3, s3⟩
            · obtain ⟨ls, rfl, _, _, h, _⟩ := h
              simpa using h
            · obtain ⟨ls, rfl, nl, lt, ll, p4, s4⟩ := h
              have hk : k < i + 1 := by rw [← lr2]; exact (List.getElem?_eq_some_iff.mp e).1
              obtain rfl : d = .int (k : Nat) := by
                unfold rngD at e
                rw [List.getElem?_map, List.getElem?_range (by omega)] at e
                rw [← Option.some.inj e]
                simp
              refine ⟨_, rfl, fun K4 K5 k4 k5 => ?_⟩
              kwd_rel
              refine sp_draw p4 (by omega) (by omega) fun d5 G5 a5 b5 p5 s5 => ?_
              rw [r_eqI]
              by_cases e5 : d5 = 0
              · simp only [e5, decide_true, Bool.bne_true, Bool.not_false, if_true]
                refine k4 _ _ ⟨ls ++ [k], by simp, ?_, ?_, by simp; omega, p5, s4.trans s5⟩
                · exact List.nodup_append.mpr ⟨nl, by simp, fun a ha b hb => by simp at hb; have := lt a ha; omega⟩
                · intro j hj
                  rcases List.mem_append.mp hj with h | h
                  · have := lt j h; omega
                  · simp at h; omega
              · simp only [e5, decide_false, Bool.bne_false, Bool.false_eq_true, if_false]
                exact k5 _ ⟨ls, rfl, nl, fun j hj => by have := lt j hj; omega, by omega, p5, s4.trans s5⟩
            · obtain ⟨ls, rfl, nl, lt, ll, p4, s4⟩ := h
              rw [lr2] at lt ll
              refine ⟨by omega, cdivT (n := 2) (by decide) (by decide), by omega, by omega, ?_⟩
              refine ix_list (Q := fun d G5 => K3 _ G5) (E := fun _ _ _ => False) h0 h4 fun x hx _ => ?_
              have e1 : (((i + 1 : Nat) : Int) - 1) = ((i : Nat) : Int) := by omega
              have e2 : ((i : Nat) : Int) / 2 = ((i / 2 : Nat) : Int) := by omega
              rw [e1, e2] at hx
              simp only [List.mem_cons, List.not_mem_nil, or_false] at hx
              rcases hx with rfl | rfl | rfl | rfl
              · exact hK3 _ _ ⟨ls, _, rfl, nl, lt, by omega, p4, s4⟩
              · exact hK3 _ _ ⟨[i], _, rfl, by simp, by simp, by simp, p4, s4⟩
              · exact hK3 _ _ ⟨[], _, rfl, by simp, by simp, by simp, p4, s4⟩
              · exact hK3 _ _ ⟨[i / 2], _, rfl, by simp, by simp; omega, by simp, p4, s4⟩
          · rintro τ' G4 ⟨ls, z, rfl, nl, lt, ll, p4, s4⟩
            kwd_rel
            refine lc_fm (fArr o (i + 1)) trivial (by simp; omega) (fun d hd => ?_) ?_
            · obtain ⟨j, hj, rfl⟩ := List.mem_map.mp hd
              have hj' := lt j hj
              refine ⟨_, rfl, fun K4 K5 h => ?_⟩
              simp only [tTrue, if_true]
              kwd_rel
              rw [TL.atI_nat, TL.atI_nat, List.getElem?_map, List.getElem?_map, getD_at (o := o) (j := j) (by omega), getD_at (o := o) (j := i + 1) (by omega)]
              exact ⟨by omega, h⟩
            · rw [fArr_map]
              have al2 := al.add ndo (by omega) nl lt ll
              refine ⟨by have := al2.le; simp at this ⊢; omega, ?_⟩
              rw [← List.map_append]
              exact hK2 _ _ ⟨_, _, _, _, rfl, al2, p4, s4⟩
        · rintro τ' G' ⟨es, x, y, z, rfl, al, p3, s3⟩
          refine hK _ _ ⟨es, x, y, z, rfl, ?_, p3, s3⟩
          rw [lr] at al
          rw [show o.length = o.length - 1 + 1 by omega]
          exact al
      · rintro τ' G' ⟨es, x, y, z, rfl, al, p3, s3⟩
        kwd_rel
        have hin : ∀ e ∈ es, e.1 ∈ ps ∧ e.2 ∈ ps := fun e he => by
          obtain ⟨a, b, _, _, e1, e2⟩ := al.at_ e he
          exact ⟨po.mem_iff.mp (List.mem_of_getElem? e1), po.mem_iff.mp (List.mem_of_getElem? e2)⟩
        refine ⟨p, _, _, rfl, p3, rfl, by have := al.le; simp; omega, plE fun e he => ⟨hn _ (hin e he).1, hn _ (hin e he).2⟩, fun ys G4 pm p4 s4 => ?_⟩
        obtain ⟨fs, rfl, pf⟩ := perm_map_inv pm rfl
        refine ⟨by omega, k ps fs G4 ⟨nd, hn, l1, by omega, fun e he => hin e (pf.mem_iff.mp he), pf.nodup_iff.mpr al.en, rkOf o, fun e he => ?_⟩ lm p4 (s3.trans s4)⟩
        obtain ⟨a, b, hab, _, e1, e2⟩ := al.at_ e (pf.mem_iff.mp he)
        rw [rkOf_at ndo e1, rkOf_at ndo e2]
        exact hab
end PL
end
section
namespace PL
open PySem PySem.Spec L2 TL WK
local macro_rules | `(tactic| kwd_rel) => `(tactic| simp only [startT, spOf, sSeq, sIf, sSet, sRet, sRetN, sExpr, sNext, sPar, sPutNm, sPut, sAug, sAsg, eC, eVar, aNil, aCons, aOne, eOp, eUn, eB, eAdd, eSub, eMul, eDiv, eMod, ePow, eNeg, eLt, eLe, eGt, eGe, eEq, eNe, eIs, eIsNot, eIn, eNotIn, eIx, eAbs, eMax2, eMin2, eDvm, eLen, eList, eListC, eTuple, eAll, eAny, eSum, tBl, tNot', tAnd', tOr', eAnd, eOr, eNot, eIf, eTup, eLst, eLstC, eCall, eMeth, eMake, eFld, eLm, eLc, eLcC, iSeq, iRng, iRng2', TL.iZip, eSm, eRevS, sFrz, eFrz, sFor, r_add, r_addS, r_addL, r_sub, r_mul, r_div, r_mod, r_pow, r_neg, r_lt, r_le, r_gt, r_ge, r_ixL, r_ixT, r_ixS, r_eqI, atI_0, atI_1, atI_2, b_abs, b_max, b_min, b_dvm, b_lenL, b_lenT, b_lenQ, vIt_str, vIt_lst, vIt_tup, CT_true, true_and, wipeT, List.map, List.length, List.replicate, List.cons_append, List.nil_append, List.append_nil, Nat.zero_le, List.getElem?_cons_zero, List.getElem?_cons_succ, List.getElem?_nil, List.set_cons_zero, List.set_cons_succ, gT, gsT, TgL.len, TL.vQ_tup, TL.vQ_lst, Nat.reduceAdd, Nat.reduceEqDiff, if_true, eSl, oSome, oNone])
theorem vIt_of {G : GH} {d : D} {xs : List D} (h : vQ G d = some xs) : vIt G d = some xs := by
  cases d <;> first | exact h | (simp [vQ] at h)
theorem vQ_ns {G : GH} {d : D} {xs : List D} (h : vQ G d = some xs) : ∀ z, d ≠ .str z := by
  rintro z rfl
  simp [vQ] at h
theorem vQ_up {G : GH} {d : D} {xs : List D} {q : Addr} {c : Cl} (h : vQ G d = some xs) (hq : G q = none) : vQ (gup G q c) d = some xs := by
  cases d with
  | ref a =>
    have : a ≠ q := by
      rintro rfl
      simp [vQ, hq] at h
    unfold vQ at h ⊢
    simp only [gup_ne this]
    exact h
  | _ => exact h
/-- what can be reached -/
structure Rch (es : List Ed) (s : Str) (rs : List Str) : Prop where
  nd : rs.Nodup
  st : s ∈ rs
  cl : ∀ e ∈ es, e.1 ∈ rs → e.2 ∈ rs
  mn : ∀ P : Str → Prop, P s → (∀ e ∈ es, P e.1 → P e.2) → ∀ x ∈ rs, P x
  nm : ∀ x ∈ rs, Nm x
  le : rs.length ≤ es.length + 1
def spReach : SpT := fun ds G Q E => ∃ (d : D) (s : Str) (es : List Ed), ds = [d, .str s] ∧ vQ G d = some (es.map edD) ∧ es.Nodup ∧ es.length ≤ 256 ∧ (∀ e ∈ es, Nm e.1 ∧ Nm e.2) ∧ Nm s ∧ ∀ rs : List Str, Rch es s rs → Q (.lst (rs.map D.str)) G
def fRch (rs : List Str) (x : Str) : D → Option D
  | .tup [.str a, .str b] => if a = x ∧ b ∉ rs then some (.str b) else none
  | _ => none
def tgt (es : List Ed) (rs : List Str) (x : Str) : List Str := (es.filter fun e => decide (e.1 = x ∧ e.2 ∉ rs)).map (·.2)
theorem fRch_map (rs : List Str) (x : Str) : ∀ es : List Ed, (es.map edD).filterMap (fRch rs x) = (tgt es rs x).map D.str
  | [] => rfl
  | e :: r => by
    rw [List.map_cons, List.filterMap_cons]
    have h : fRch rs x (edD e) = if e.1 = x ∧ e.2 ∉ rs then some (.str e.2) else none := rfl
    rw [h, fRch_map rs x r]
    unfold tgt
    by_cases c : e.1 = x ∧ e.2 ∉ rs
    · rw [if_pos c, List.filter_cons_of_pos (by simpa using c)]; rfl
    · rw [if_neg c, List.filter_cons_of_neg (by simpa using c)]
theorem mem_tgt {es : List Ed} {rs : List Str} {x b : Str} : b ∈ tgt es rs x ↔ (x, b) ∈ es ∧ b ∉ rs := by
  unfold tgt
  simp only [List.mem_map, List.mem_filter, decide_eq_true_eq]
  constructor
  · rintro ⟨e, ⟨h1, rfl, h2⟩, rfl⟩
    exact ⟨h1, h2⟩
  · rintro ⟨h1, h2⟩
    exact ⟨(x, b), ⟨h1, rfl, h2⟩, rfl⟩
theorem tgt_nd {es : List Ed} {rs : List Str} {x : Str} (h : es.Nodup) : (tgt es rs x).Nodup := by
  refine nodup_map (h.filter _) fun a ha b hb e => ?_
  have h1 := (List.mem_filter.mp ha).2
  have h2 := (List.mem_filter.mp hb).2
  simp only [decide_eq_true_eq] at h1 h2
  exact Prod.ext (h1.1.trans h2.1.symm) e
theorem reach_ok : ∀ ds G Q E, spReach ds G Q E → sp0_reachable ds G Q E := by
  rintro ds G Q E ⟨d, s, es, rfl, hd, en, el, hn, hs, k⟩
  refine ⟨rfl, ?_⟩
  have s0 : sizeLine = 16777216 := rfl
  unfold t_reachable N_reachable
  kwd_rel
  refine ⟨by omega, fun q hq => ?_⟩
  refine while_inv (fun n τ' G' => ∃ (rs : List Str) (v : Nat) (x y z : Option D), n = 300 - v ∧ v ≤ rs.length ∧ τ' = [some d, some (.str s), some (.ref q), some (.int v), x, y, z] ∧ G' = gup G q (.lst (rs.map D.str)) ∧ rs.Nodup ∧ s ∈ rs ∧ (∀ i, i < v → ∀ e ∈ es, rs[i]? = some e.1 → e.2 ∈ rs) ∧
    (∀ P : Str → Prop, P s → (∀ e ∈ es, P e.1 → P e.2) → ∀ x ∈ rs, P x)) ?_ (n := 300) ⟨[s], 0, none, none, none, rfl, by simp, rfl, rfl, by simp, by simp, by simp, fun P h _ x hx => by simp at hx; rw [hx]; exact h⟩
  rintro n τ' G' ⟨rs, v, x, y, z, rfl, hv, rfl, rfl, nd, st, cl, mn⟩ K hK
  have hle : rs.length ≤ es.length + 1 := by
    have := nodup_le (ys := s :: es.map (·.2)) nd fun x hx => mn (fun x => x ∈ s :: es.map (·.2)) (by simp) (fun e he _ => List.mem_cons_of_mem _ (List.mem_map.mpr ⟨e, he, rfl⟩)) x hx
    simpa using this
  have hnm : ∀ x ∈ rs, Nm x := mn Nm hs fun e he _ => (hn e he).2
  kwd_rel
  simp only [b_lenR gup_same, List.length_map, r_lt]
  by_cases hlt : v < rs.length
  · have hlt' : (v : Int) < rs.length := by omega
    simp only [hlt', decide_true, if_true]
    have hd2 : vQ (gup G q (.lst (rs.map D.str))) d = some (es.map edD) := vQ_up hd hq
    simp only [vIt_of hd2]
    obtain ⟨w, hw⟩ : ∃ w, rs[v]? = some w := ⟨rs[v], List.getElem?_eq_getElem hlt⟩
    have hwm : w ∈ rs := List.mem_of_getElem? hw
    refine lc_fm (fRch rs w) (vIt_of hd2) (by simp; omega) (fun t ht => ?_) ?_
    · obtain ⟨e, he, rfl⟩ := List.mem_map.mp ht
      refine ⟨_, rfl, fun K4 K5 h => ?_⟩
      have he' := hn e he
      kwd_rel
      rw [r_ixR gup_same, TL.atI_nat, List.getElem?_map, hw]
      simp only [Option.map_some]
      rw [r_eqS he'.1.ok (hnm w hwm).ok]
      have hf : fRch rs w (edD e) = if e.1 = w ∧ e.2 ∉ rs then some (.str e.2) else none := rfl
      rw [hf] at h
      by_cases c1 : e.1 = w
      · simp only [c1, decide_true, Bool.bne_true, Bool.not_false, if_true]
        refine r_inG (vQ_ref gup_same) (fun _ => nofun) (by simpa [Pl] using he'.2.ok) (plS hnm) ?_
        rw [any_str]
        by_cases c2 : e.2 ∈ rs
        · simpa [c1, c2] using h
        · simpa [c1, c2] using h
      · simpa [c1] using h
    · rw [fRch_map]
      simp only [vL_ref gup_same, Option.isSome_some, true_and, gup_same, mExtend, vL_lst]
      have le2 : rs.length + (tgt es rs w).length ≤ 600 := by
        have : (tgt es rs w).length ≤ es.length := by unfold tgt; rw [List.length_map]; exact List.length_filter_le ..
        omega
      rw [if_pos (by simp; omega)]
      simp only [gup_gup, ← List.map_append]
      refine hK (300 - (v + 1)) _ _ (by omega) ⟨rs ++ tgt es rs w, v + 1, _, _, _, rfl, by simp; omega, rfl, rfl, ?_, List.mem_append_left _ st, ?_, ?_⟩
      · exact List.nodup_append.mpr ⟨nd, tgt_nd en, fun a ha b hb e => (mem_tgt.mp hb).2 (e ▸ ha)⟩
      · intro i hi e he e1
        rw [List.getElem?_append_left (by omega)] at e1
        by_cases c : i < v
        · exact List.mem_append_left _ (cl i c e he e1)
        · have : i = v := by omega
          subst this
          rw [hw] at e1
          by_cases c2 : e.2 ∈ rs
          · exact List.mem_append_left _ c2
          · exact List.mem_append_right _ (mem_tgt.mpr ⟨by rw [Option.some.inj e1]; exact he, c2⟩)
      · intro P h1 h2 a ha
        rcases List.mem_append.mp ha with ha | ha
        · exact mn P h1 h2 a ha
        · exact h2 _ (mem_tgt.mp ha).1 (mn P h1 h2 w hwm)
  · have hlt' : ¬ (v : Int) < rs.length := by omega
    simp only [hlt', decide_false, Bool.false_eq_true, if_false]
    simp only [frz_lst gup_same, gdel_gup hq]
    refine k rs ⟨nd, st, fun e he h1 => ?_, mn, hnm, hle⟩
    obtain ⟨i, hi, e1⟩ := List.getElem_of_mem h1
    exact cl i (by omega) e he (by rw [List.getElem?_eq_getElem hi, e1])
end PL
end
section
namespace PL
open PySem PySem.Spec L2 TL WK
local macro_rules | `(tactic| kwd_rel) => `(tactic| simp only [startT, spOf, sSeq, sIf, sSet, sRet, sRetN, sExpr, sNext, sPar, sPutNm, sPut, sAug, sAsg, eC, eVar, aNil, aCons, aOne, eOp, eUn, eB, eAdd, eSub, eMul, eDiv, eMod, ePow, eNeg, eLt, eLe, eGt, eGe, eEq, eNe, eIs, eIsNot, eIn, eNotIn, eIx, eAbs, eMax2, eMin2, eDvm, eLen, eList, eListC, eTuple, eAll, eAny, eSum, tBl, tNot', tAnd', tOr', eAnd, eOr, eNot, eIf, eTup, eLst, eLstC, eCall, eMeth, eMake, eFld, eLm, eLc, eLcC, iSeq, iRng, iRng2', TL.iZip, eSm, eRevS, sFrz, eFrz, sFor, r_add, r_addS, r_addL, r_sub, r_mul, r_div, r_mod, r_pow, r_neg, r_lt, r_le, r_gt, r_ge, r_ixL, r_ixT, r_ixS, r_eqI, atI_0, atI_1, atI_2, b_abs, b_max, b_min, b_dvm, b_lenL, b_lenT, b_lenQ, vIt_str, vIt_lst, vIt_tup, CT_true, true_and, wipeT, List.map, List.length, List.replicate, List.cons_append, List.nil_append, List.append_nil, Nat.zero_le, List.getElem?_cons_zero, List.getElem?_cons_succ, List.getElem?_nil, List.set_cons_zero, List.set_cons_succ, gT, gsT, TgL.len, TL.vQ_tup, TL.vQ_lst, Nat.reduceAdd, Nat.reduceEqDiff, if_true, eSl, oSome, oNone, eIsi, eChain, iEnum', iEnumK, sFldT, eReprO, eCallK, eOEq, eFmt, eFmtR, eJs])
variable {Cs : List Addr} {K : PySem.W.Frag}
theorem kit_same (t : String) : PySem.W.kitOne K (.type t) (.type t) = some true := by
  unfold PySem.W.kitOne
  rw [if_pos (by simp)]
theorem isi_true {x : D} {t : String} {G : GH} {Q : KD} (h1 : tyD Cs G x = some (.type t)) (q : Q (.bl true) G) : rIsi' Cs (PySem.W.kitOne K) [x, .ty t] G Q := by
  unfold rIsi'
  simp only [h1, clD, kit_same]
  exact q
theorem fb (b : Bool) : (false != b) = b := by cases b <;> rfl
theorem tb (b : Bool) : (true != b) = !b := by cases b <;> rfl
def fIn : D → Option D
  | .str z => some (.bl (decide ((cl z).headD 0 ∈ cl abc)))
  | _ => none
theorem fIn_map : ∀ cs : List Nat, (cs.map fun c => D.str ⟨#[c]⟩).filterMap fIn = cs.map fun c => D.bl (decide (c ∈ cl abc))
  | [] => rfl
  | c :: r => by
    rw [List.map_cons, List.filterMap_cons]
    show D.bl (decide (c ∈ cl abc)) :: (r.map fun c => D.str ⟨#[c]⟩).filterMap fIn = _
    rw [fIn_map r]
    rfl
theorem bls_map {α : Type} (f : α → Bool) : ∀ cs : List α, blsD (cs.map fun c => D.bl (f c)) = some (cs.map f)
  | [] => rfl
  | c :: r => by show (blsD (r.map fun c => D.bl (f c))).map (f c :: ·) = _; rw [bls_map f r]; rfl
theorem r_allMap {α : Type} (f : α → Bool) (cs : List α) {G : GH} {Q : KD} : rAll' [.lst (cs.map fun c => D.bl (f c))] G Q = Q (.bl (cs.all f)) G := by
  unfold rAll'
  simp only [vL_lst, bls_map]
  congr 2
  induction cs with
  | nil => rfl
  | cons c r ih => simp
def spIsName : SpT := fun ds G Q E => ∃ s : Str, ds = [.str s] ∧ s.length ≤ 16777216 ∧ Q (.bl (decide (Nm s))) G
theorem isName_ok : ∀ ds G Q E, spIsName ds G Q E → sp0_is_name Cs K ds G Q E := by
  rintro ds G Q E ⟨s, rfl, hl, k⟩
  refine ⟨rfl, ?_⟩
  have s0 : sizeLine = 16777216 := rfl
  unfold t_is_name N_is_name
  kwd_rel
  refine isi_true rfl ?_
  simp only [Bool.not_true, Bool.false_eq_true, if_false, b_lenS (show s.length ≤ sizeLine by omega), r_le]
  by_cases h1 : (1 : Int) ≤ (s.length : Nat)
  · simp only [h1, decide_true]
    by_cases h8 : ((s.length : Nat) : Int) ≤ 8
    · simp only [h8, decide_true, Bool.not_true, Bool.false_eq_true, if_false]
      refine lc_fm fIn trivial (by simp [signsD]; have := cl_len s; simp [cl] at this; omega) (fun d hd => ?_) ?_
      · obtain ⟨c, hc, rfl⟩ := List.mem_map.mp hd
        refine ⟨_, rfl, fun K4 K5 h => ?_⟩
        simp only [tTrue, if_true]
        kwd_rel
        exact ⟨c, rfl, by rw [fb]; exact h⟩
      · show rAll' [.lst ((signsD s).filterMap fIn)] G Q
        rw [show (signsD s).filterMap fIn = (cl s).map fun c => D.bl (decide (c ∈ cl abc)) from fIn_map (cl s), r_allMap]
        have e : ((cl s).all fun c => decide (c ∈ cl abc)) = decide (Nm s) := by
          rw [Bool.eq_iff_iff, List.all_eq_true, decide_eq_true_eq]
          constructor
          · intro h
            refine ⟨by omega, by omega, fun c hc => ?_⟩
            have := h c hc
            rw [abc_cl] at this
            simp at this
            omega
          · intro h c hc
            have := h.2.2 c hc
            rw [abc_cl]
            simp
            omega
        rw [e]
        exact k
    · simp only [h8, decide_false, Bool.not_false, if_true]
      have : decide (Nm s) = false := decide_eq_false fun h => h8 (by have := h.2.1; omega)
      rw [this] at k
      exact k
  · simp only [h1, decide_false, Bool.not_false, if_true]
    have : decide (Nm s) = false := decide_eq_false fun h => h1 (by have := h.1; omega)
    rw [this] at k
    exact k
end PL
end
section
namespace PL
open PySem PySem.Spec L2 TL WK
local macro_rules | `(tactic| kwd_rel) => `(tactic| simp only [startT, spOf, sSeq, sIf, sSet, sRet, sRetN, sExpr, sNext, sPar, sPutNm, sPut, sAug, sAsg, eC, eVar, aNil, aCons, aOne, eOp, eUn, eB, eAdd, eSub, eMul, eDiv, eMod, ePow, eNeg, eLt, eLe, eGt, eGe, eEq, eNe, eIs, eIsNot, eIn, eNotIn, eIx, eAbs, eMax2, eMin2, eDvm, eLen, eList, eListC, eTuple, eAll, eAny, eSum, tBl, tNot', tAnd', tOr', eAnd, eOr, eNot, eIf, eTup, eLst, eLstC, eCall, eMeth, eMake, eFld, eLm, eLc, eLcC, iSeq, iRng, iRng2', TL.iZip, eSm, eRevS, sFrz, eFrz, sFor, r_add, r_addS, r_addL, r_sub, r_mul, r_div, r_mod, r_pow, r_neg, r_lt, r_le, r_gt, r_ge, r_ixL, r_ixT, r_ixS, r_eqI, atI_0, atI_1, atI_2, b_abs, b_max, b_min, b_dvm, b_lenL, b_lenT, b_lenQ, vIt_str, vIt_lst, vIt_tup, CT_true, true_and, wipeT, List.map, List.length, List.replicate, List.cons_append, List.nil_append, List.append_nil, Nat.zero_le, List.getElem?_cons_zero, List.getElem?_cons_succ, List.getElem?_nil, List.set_cons_zero, List.set_cons_succ, gT, gsT, TgL.len, TL.vQ_tup, TL.vQ_lst, Nat.reduceAdd, Nat.reduceEqDiff, if_true, eSl, oSome, oNone, eIsi, eChain, iEnum', iEnumK, sFldT, eReprO, eCallK, eOEq, eFmt, eFmtR, eJs])
variable {Cs : List Addr} {K : PySem.W.Frag}
section
variable {G : GH} {d : D} {xs : List D} {Q : KD}
theorem vL_cases (h : vL G d = some xs) : d = .lst xs ∨ ∃ p, d = .ref p ∧ G p = some (.lst xs) := by
  cases d with
  | lst ys => simp [vL] at h; exact .inl (by rw [h])
  | ref p =>
    unfold vL at h
    dsimp only at h
    split at h
    · rename_i ys e
      rw [Option.some.inj h] at e
      exact .inr ⟨p, rfl, e⟩
    · cases h
  | _ => simp [vL] at h
theorem vL_vQ (h : vL G d = some xs) : vQ G d = some xs := by
  rcases vL_cases h with rfl | ⟨p, rfl, e⟩
  · rfl
  · exact vQ_ref e
theorem vL_ty (h : vL G d = some xs) : tyD Cs G d = some (.type "list") := by
  rcases vL_cases h with rfl | ⟨p, rfl, e⟩
  · rfl
  · unfold tyD; simp only [e]
theorem vL_sl (h : vL G d = some xs) (l u : Option Int) : rSlT' d l u G Q = Q (.lst (cutD xs l u)) G := by
  rcases vL_cases h with rfl | ⟨p, rfl, e⟩
  · rfl
  · unfold rSlT'; simp only [vQ_ref e]
theorem cut_take (i : Nat) : cutD xs none (some (i : Int)) = xs.take i := by
  unfold cutD
  rw [HT.sIx_none, HT.sIx_nat, List.drop_zero, Nat.sub_zero]
  by_cases h : i ≤ xs.length
  · rw [Nat.min_eq_left h]
  · rw [Nat.min_eq_right (by omega), List.take_of_length_le (Nat.le_refl _), List.take_of_length_le (by omega)]
theorem b_lenV (h : vQ G d = some xs) : rLen' [d] G Q = Q (.int xs.length) G := by
  unfold rLen' lenD
  cases d with
  | str z => simp [vQ] at h
  | _ => simp only [h]
end
def spReqNodes : SpT := fun ds G Q E => ∃ (d : D) (ps : List Str), ds = [d] ∧ vL G d = some (ps.map D.str) ∧ 1 ≤ ps.length ∧ ps.length ≤ 16 ∧ ps.Nodup ∧ (∀ s ∈ ps, Nm s) ∧ Q .non G
theorem enum_at {xs : List D} {c : Int} {i : Nat} {d : D} (h : (enumD c xs)[i]? = some d) : ∃ x, xs[i]? = some x ∧ d = .tup [.int (c + (i : Nat)), x] := enumD_get h
theorem reqNodes_okG {sp : SpT} (hsp : ∀ ds G Q E, spIsName ds G Q E → sp ds G Q E) : ∀ ds G Q E, spReqNodes ds G Q E → sp0_require_nodes Cs K sp ds G Q E := by
  rintro ds G Q E ⟨d, ps, rfl, hd, l1, l16, nd, hn, k⟩
  refine ⟨rfl, ?_⟩
  have s0 : sizeLine = 16777216 := rfl
  unfold t_require_nodes N_require_nodes
  kwd_rel
  refine isi_true (vL_ty hd) ?_
  have h1 : (1 : Int) ≤ ((ps.map D.str).length : Nat) := by simp; omega
  have h16 : (((ps.map D.str).length : Nat) : Int) ≤ 16 := by simp; omega
  simp only [Bool.not_true, Bool.false_eq_true, if_false, b_lenV (vL_vQ hd), r_le, h1, h16, decide_true]
  simp only [vIt_of (vL_vQ hd)]
  refine for_inv (fun i τ' G' => G' = G ∧ ∃ x y, τ' = [some d, x, y]) (fun i τ' G' h => by rw [h.1]; exact vIt_of (vL_vQ hd)) ?_ ?_ ⟨rfl, none, none, rfl⟩
  · rintro i t τ' G' e ⟨rfl, x, y, rfl⟩
    obtain ⟨u, eu, rfl⟩ := enum_at e
    rw [List.getElem?_map] at eu
    cases ei : ps[i]? with
    | none => rw [ei] at eu; cases eu
    | some s =>
      rw [ei] at eu
      cases eu
      have hs : Nm s := hn s (List.mem_of_getElem? ei)
      refine ⟨_, rfl, fun K2 hK2 => ?_⟩
      kwd_rel
      refine hsp _ _ _ _ ⟨s, rfl, by have := hs.2.1; omega, ?_⟩
      simp only [hs, decide_true, Bool.not_true, Bool.false_eq_true, if_false]
      rw [vL_sl hd, Int.zero_add, cut_take, ← List.map_take]
      refine r_inG rfl (fun _ => nofun) (by simpa [Pl] using hs.ok) (plS fun z hz => hn z (List.mem_of_mem_take hz)) ?_
      have : s ∉ ps.take i := fun hm => by
        obtain ⟨j, hj, e1⟩ := List.getElem_of_mem hm
        rw [List.getElem_take] at e1
        rw [List.length_take] at hj
        have : ps[j]? = ps[i]? := by rw [ei, List.getElem?_eq_getElem (by omega), e1]
        have := (List.getElem?_inj (by omega) nd).mp this
        omega
      rw [any_str]
      simp only [this, decide_false, fb, Bool.false_eq_true, if_false]
      exact hK2 _ _ ⟨rfl, _, _, rfl⟩
  · rintro τ' G' ⟨rfl, x, y, rfl⟩
    exact k
theorem reqNodes_ok : ∀ ds G Q E, spReqNodes ds G Q E → sp0_require_nodes Cs K spIsName ds G Q E := reqNodes_okG fun _ _ _ _ h => h
def fMem (ps : List Str) : D → Option D
  | .str z => some (.bl (decide (z ∈ ps)))
  | _ => none
theorem any_ed (es : List Ed) (e : Ed) : ((es.map edD).any fun x => eqD x (edD e)) = decide (e ∈ es) := by
  have h := Bool.eq_iff_iff.mp (any_enc es e)
  refine Bool.eq_iff_iff.mpr (h.trans ?_)
  simp only [decide_eq_true_eq]
/-- an edge, tried -/
def spEdge : SpT := fun ds G Q E => ∃ (e : Ed) (dn de : D) (ps : List Str) (es : List Ed), ds = [edD e, dn, de] ∧ vQ G dn = some (ps.map D.str) ∧ vQ G de = some (es.map edD) ∧ (∀ s ∈ ps, Nm s) ∧ ps.length ≤ 300 ∧ es.Nodup ∧ es.length ≤ 256 ∧ (∀ e ∈ es, Nm e.1 ∧ Nm e.2) ∧
  e.1 ∈ ps ∧ e.2 ∈ ps ∧ e.1 ≠ e.2 ∧ e ∉ es ∧ (∃ P : Str → Prop, P e.2 ∧ (∀ e ∈ es, P e.1 → P e.2) ∧ ¬ P e.1) ∧ Q .non G
theorem edge_ok : ∀ ds G Q E, spEdge ds G Q E → sp0_edge_problem Cs K spReach ds G Q E := by
  rintro ds G Q E ⟨e, dn, de, ps, es, rfl, hdn, hde, hn, lp, en, el, hne, h1, h2, h3, h4, ⟨P, p1, p2, p3⟩, k⟩
  refine ⟨rfl, ?_⟩
  have s0 : sizeLine = 16777216 := rfl
  unfold t_edge_problem N_edge_problem
  kwd_rel
  refine isi_true rfl ?_
  simp only [Bool.not_true, Bool.false_eq_true, if_false]
  have t2 : decide ((2 : Int) = 2) = true := rfl
  show if (true != decide ((2 : Int) = 2)) = true then _ else _
  simp only [t2, bne_self_eq_false, Bool.false_eq_true, if_false]
  have n1 := hn _ h1
  have n2 := hn _ h2
  refine lc_fm (fMem ps) trivial (by simp) (fun d hd => ?_) ?_
  · have : ∃ z, d = .str z ∧ Nm z := by
      simp only [List.mem_cons, List.not_mem_nil, or_false] at hd
      rcases hd with rfl | rfl
      · exact ⟨_, rfl, n1⟩
      · exact ⟨_, rfl, n2⟩
    obtain ⟨z, rfl, nz⟩ := this
    refine ⟨_, rfl, fun K4 K5 h => ?_⟩
    simp only [tTrue, if_true]
    kwd_rel
    refine isi_true rfl ?_
    refine r_inG hdn (vQ_ns hdn) (by simpa [Pl] using nz.ok) (plS hn) ?_
    rw [any_str, fb]
    exact h
  · show rAll' [.lst [.bl (decide (e.1 ∈ ps)), .bl (decide (e.2 ∈ ps))]] G _
    simp only [h1, h2, decide_true]
    rw [show (D.lst [D.bl true, D.bl true]) = .lst ([true, true].map fun c => D.bl (id c)) from rfl, r_allMap id]
    simp only [List.all_cons, List.all_nil, id, Bool.and_true, Bool.not_true, Bool.false_eq_true, if_false]
    rw [r_eqS n1.ok n2.ok]
    simp only [h3, decide_false, fb, Bool.false_eq_true, if_false]
    refine r_inG (ys := es.map edD) hde (vQ_ns hde) (by simpa [Pl, PlL] using ⟨n1.ok, n2.ok⟩) (plE hne) ?_
    rw [any_ed]
    simp only [h4, decide_false, fb, Bool.false_eq_true, if_false]
    refine ⟨de, e.2, es, rfl, hde, en, el, hne, n2, fun rs hr => ?_⟩
    refine r_inG rfl (fun _ => nofun) (by simpa [Pl] using n1.ok) (plS hr.nm) ?_
    have : e.1 ∉ rs := fun hm => p3 (hr.mn P p1 p2 _ hm)
    rw [any_str]
    simp only [this, decide_false, fb, Bool.false_eq_true, if_false]
    exact k
def spReqEdges : SpT := fun ds G Q E => ∃ (d dn : D) (ps : List Str) (es : List Ed), ds = [d, dn] ∧ vL G d = some (es.map edD) ∧ vQ G dn = some (ps.map D.str) ∧ Gd ps es ∧ Q .non G
theorem reqEdges_okG {sp : SpT} (hsp : ∀ ds G Q E, spEdge ds G Q E → sp ds G Q E) : ∀ ds G Q E, spReqEdges ds G Q E → sp0_require_edges Cs K sp ds G Q E := by
  rintro ds G Q E ⟨d, dn, ps, es, rfl, hd, hdn, g, k⟩
  refine ⟨rfl, ?_⟩
  have s0 : sizeLine = 16777216 := rfl
  unfold t_require_edges N_require_edges
  kwd_rel
  refine isi_true (vL_ty hd) ?_
  simp only [Bool.not_true, Bool.false_eq_true, if_false]
  simp only [vIt_of (vL_vQ hd)]
  have hnm : ∀ e ∈ es, Nm e.1 ∧ Nm e.2 := fun e he => ⟨g.nm _ (g.ein e he).1, g.nm _ (g.ein e he).2⟩
  obtain ⟨r, hr⟩ := g.rk
  have hle := g.le
  refine for_inv (fun i τ' G' => G' = G ∧ ∃ x y z, τ' = [some d, some dn, x, y, z]) (fun i τ' G' h => by rw [h.1]; exact vIt_of (vL_vQ hd)) ?_ ?_ ⟨rfl, none, none, none, rfl⟩
  · rintro i t τ' G' e ⟨rfl, x, y, z, rfl⟩
    obtain ⟨u, eu, rfl⟩ := enum_at e
    rw [List.getElem?_map] at eu
    cases ei : es[i]? with
    | none => rw [ei] at eu; cases eu
    | some s =>
      rw [ei] at eu
      cases eu
      have hs : s ∈ es := List.mem_of_getElem? ei
      refine ⟨_, rfl, fun K2 hK2 => ?_⟩
      kwd_rel
      rw [vL_sl hd, Int.zero_add, cut_take, ← List.map_take]
      have hsub : ∀ z ∈ es.take i, z ∈ es := fun z hz => List.mem_of_mem_take hz
      refine hsp _ _ _ _ ⟨s, dn, _, ps, es.take i, rfl, hdn, rfl, g.nm, by have := g.l16; omega, g.en.sublist (List.take_sublist ..), by simp; omega, fun z hz => hnm z (hsub z hz), (g.ein s hs).1, (g.ein s hs).2, fun q => ?_, ?_, ⟨fun z => r s.2 ≤ r z, Nat.le_refl _, fun z hz q => Nat.le_trans q (Nat.le_of_lt (hr z (hsub z hz))), fun q => ?_⟩, ?_⟩
      · have := hr s hs
        rw [q] at this
        omega
      · intro hm
        obtain ⟨j, hj, e1⟩ := List.getElem_of_mem hm
        rw [List.getElem_take] at e1
        rw [List.length_take] at hj
        have : es[j]? = es[i]? := by rw [ei, List.getElem?_eq_getElem (by omega), e1]
        have := (List.getElem?_inj (by omega) g.en).mp this
        omega
      · have := hr s hs
        omega
      · exact hK2 _ _ ⟨rfl, _, _, _, rfl⟩
  · rintro τ' G' ⟨rfl, x, y, z, rfl⟩
    exact k
theorem reqEdges_ok : ∀ ds G Q E, spReqEdges ds G Q E → sp0_require_edges Cs K spEdge ds G Q E := reqEdges_okG fun _ _ _ _ h => h
end PL
end
section
namespace PL
open PySem PySem.Spec L2 TL WK
local macro_rules | `(tactic| kwd_rel) => `(tactic| simp only [startT, spOf, sSeq, sIf, sSet, sRet, sRetN, sExpr, sNext, sPar, sPutNm, sPut, sAug, sAsg, eC, eVar, aNil, aCons, aOne, eOp, eUn, eB, eAdd, eSub, eMul, eDiv, eMod, ePow, eNeg, eLt, eLe, eGt, eGe, eEq, eNe, eIs, eIsNot, eIn, eNotIn, eIx, eAbs, eMax2, eMin2, eDvm, eLen, eList, eListC, eTuple, eAll, eAny, eSum, tBl, tNot', tAnd', tOr', eAnd, eOr, eNot, eIf, eTup, eLst, eLstC, eCall, eMeth, eMake, eFld, eLm, eLc, eLcC, iSeq, iRng, iRng2', TL.iZip, eSm, eRevS, sFrz, eFrz, sFor, r_add, r_addS, r_addL, r_sub, r_mul, r_div, r_mod, r_pow, r_neg, r_lt, r_le, r_gt, r_ge, r_ixL, r_ixT, r_ixS, r_eqI, atI_0, atI_1, atI_2, b_abs, b_max, b_min, b_dvm, b_lenL, b_lenT, b_lenQ, vIt_str, vIt_lst, vIt_tup, CT_true, true_and, wipeT, List.map, List.length, List.replicate, List.cons_append, List.nil_append, List.append_nil, Nat.zero_le, List.getElem?_cons_zero, List.getElem?_cons_succ, List.getElem?_nil, List.set_cons_zero, List.set_cons_succ, gT, gsT, TgL.len, TL.vQ_tup, TL.vQ_lst, Nat.reduceAdd, Nat.reduceEqDiff, if_true, eSl, oSome, oNone, eIsi, eChain, iEnum', iEnumK, sFldT, eReprO, eCallK, eOEq, eFmt, eFmtR, eJs])
variable {Cs : List Addr} {K : PySem.W.Frag} {C : Addr}
theorem dc_inv {t : TgN} {tt : T1} {tk te : E1} {τ : Sl} {gd : GH → Prop} {Q : List (Key × D) → GH → Prop} {xs : List D} (I : Nat → List (Key × D) → GH → Prop)
    (hg : ∀ i acc G, I i acc G → gd G) (hl : ∀ i acc G, I i acc G → acc.length ≤ i) (hn : xs.length ≤ 16384)
    (hs : ∀ i d acc G, xs[i]? = some d → I i acc G → ∃ τ1, gT t d τ G = some τ1 ∧ ∀ (K : Key → D → GH → Prop) (K2 : GH → Prop), (∀ k z G2, I (i + 1) (putD acc k z) G2 → K k z G2) → (∀ G2, I (i + 1) acc G2 → K2 G2) →
      tt τ1 G (fun b G2 => if b = true then tk τ1 G2 (fun y G3 => match keyD y with
        | some k => te τ1 G3 (fun z G4 => K k z G4) EF
        | none => False) EF else K2 G2) EF)
    (he : ∀ acc G, I xs.length acc G → Q acc G) {G : GH} (h0 : I 0 [] G) : eDcL t tt tk te τ gd Q xs [] G := by
  suffices H : ∀ (r : List D) (i : Nat) (acc : List (Key × D)) (G : GH), xs.drop i = r → i ≤ xs.length → I i acc G → eDcL t tt tk te τ gd Q r acc G from H xs 0 [] G rfl (Nat.zero_le _) h0
  intro r
  induction r with
  | nil =>
    intro i acc G e hi q
    have : i = xs.length := by
      have := List.drop_eq_nil_iff.mp e
      omega
    subst this
    exact he acc G q
  | cons d r ih =>
    intro i acc G e hi q
    have e1 : xs[i]? = some d := by
      have := congrArg (·[0]?) e
      simpa using this
    have hl' : i < xs.length := (List.getElem?_eq_some_iff.mp e1).1
    have e2 : xs.drop (i + 1) = r := by
      rw [← List.tail_drop, e]
      rfl
    obtain ⟨τ1, h1, h2⟩ := hs i d acc G e1 q
    unfold eDcL
    rw [h1]
    refine ⟨?_, h2 (fun k z G4 => gd G4 ∧ eDcL t tt tk te τ gd Q r (putD acc k z) G4) _ (fun k z G2 q2 => ⟨hg _ _ _ q2, ih (i + 1) _ G2 e2 hl' q2⟩) fun G2 q2 => ⟨hg _ _ _ q2, ih (i + 1) acc G2 e2 hl' q2⟩⟩
    have := hl _ _ _ q
    have : sizeLine = 16777216 := rfl
    omega
theorem vL_up {G : GH} {d : D} {xs : List D} {q : Addr} {c : Cl} (h : vL G d = some xs) (hq : ∀ ys, G q ≠ some (.lst ys)) : vL (gup G q c) d = some xs := by
  rcases vL_cases h with rfl | ⟨a, rfl, e⟩
  · rfl
  · have : a ≠ q := fun z => hq xs (by rw [← z]; exact e)
    exact vL_ref (by rw [gup_ne this]; exact e)
def aft (ps : List Str) (R : Str → List Str) : List (Key × D) := ps.map fun p => (.inr p, .lst ((R p).map D.str))
theorem aft_none {l : List Str} {R : Str → List Str} {s : Str} (h : s ∉ l) : getK (aft l R) (.inr s) = none := by
  unfold getK
  rw [List.find?_eq_none.mpr]
  · rfl
  · intro x hx
    obtain ⟨p, hp, rfl⟩ := List.mem_map.mp hx
    simp only [decide_eq_true_eq]
    intro e
    exact h (by rw [← Sum.inr.inj e]; exact hp)
theorem aft_some {l : List Str} {R : Str → List Str} {s : Str} (h : s ∈ l) : getK (aft l R) (.inr s) = some (.lst ((R s).map D.str)) := by
  induction l with
  | nil => cases h
  | cons p r ih =>
    unfold getK aft
    rw [List.map_cons, List.find?_cons]
    by_cases e : p = s
    · subst e; simp
    · have e' : decide ((Sum.inr p : Key) = .inr s) = false := decide_eq_false fun q => e (Sum.inr.inj q)
      simp only [e']
      have := ih (by simpa [Ne.symm e] using h)
      unfold getK aft at this
      exact this
def gfs (ps : List Str) (es : List Ed) (R : Str → List Str) : List (Str × D) := [("own_nodes", .tup (ps.map D.str)), ("own_edges", .tup (es.map edD)), ("own_after", .dK (aft ps R))]
def spInit (C : Addr) : SpT := fun ds G Q E => ∃ (q : Addr) (dn de : D) (ps : List Str) (es : List Ed), ds = [.ref q, dn, de] ∧ G q = some (.ins C []) ∧ vL G dn = some (ps.map D.str) ∧ vL G de = some (es.map edD) ∧ Gd ps es ∧
  ∀ R : Str → List Str, (∀ p ∈ ps, Rch es p (R p)) → Q .non (gup G q (.ins C (gfs ps es R)))
theorem putF1 {v : D} : putFD "own_nodes" v [] = [(("own_nodes" : Str), v)] := rfl
theorem putF2 {v w : D} : putFD "own_edges" v [(("own_nodes" : Str), w)] = [(("own_nodes" : Str), w), (("own_edges" : Str), v)] := by
  rw [putFD, if_neg (by decide)]; rfl
theorem putF3 {v w x : D} : putFD "own_after" v [(("own_nodes" : Str), w), (("own_edges" : Str), x)] = [(("own_nodes" : Str), w), (("own_edges" : Str), x), (("own_after" : Str), v)] := by
  rw [putFD, if_neg (by decide), putFD, if_neg (by decide)]; rfl
theorem tup_vQ {G : GH} {d : D} {xs : List D} {Q : KD} (h : vL G d = some xs) : rTup' [d] G Q = Q (.tup xs) G := by
  rcases vL_cases h with rfl | ⟨a, rfl, e⟩
  · rfl
  · unfold rTup'; simp only [vQ_ref e]
theorem init_okG {spN spE : SpT} (hN : ∀ ds G Q E, spReqNodes ds G Q E → spN ds G Q E) {q : Addr} {dn de : D} {ps : List Str} {es : List Ed} {ed : D} {G : GH} {Q : KD} {E : KX} (hq : G q = some (.ins C [])) (hdn : vL G dn = some (ps.map D.str))
    (hde : ∀ fs, vQ (gup G q (.ins C fs)) de = some (es.map edD) ∧ ∀ Q : KD, rTup' [de] (gup G q (.ins C fs)) Q = Q ed (gup G q (.ins C fs))) (hE : ∀ (Q : KD) E, Q .non G → spE [de, dn] G Q E) (g : Gd ps es)
    (k : ∀ R : Str → List Str, (∀ p ∈ ps, Rch es p (R p)) → Q .non (gup G q (.ins C [("own_nodes", .tup (ps.map D.str)), ("own_edges", ed), ("own_after", .dK (aft ps R))]))) : sp0_Graph_init C spN spE spReach [.ref q, dn, de] G Q E := by
  refine ⟨rfl, ?_⟩
  have s0 : sizeLine = 16777216 := rfl
  have hnm : ∀ e ∈ es, Nm e.1 ∧ Nm e.2 := fun e he => ⟨g.nm _ (g.ein e he).1, g.nm _ (g.ein e he).2⟩
  unfold t_Graph_init N_Graph_init
  kwd_rel
  refine hN _ _ _ _ ⟨dn, ps, rfl, hdn, g.l1, g.l16, g.nd, g.nm, ?_⟩
  refine hE _ _ ?_
  try dsimp only
  rw [tup_vQ hdn]
  simp only [hq, putF1]
  refine ⟨trivial, by decide, ?_⟩
  rw [(hde _).2]
  simp only [gup_same, putF2, gup_gup]
  refine ⟨trivial, by simp, ?_⟩
  have hdn2 : vL (gup G q (.ins C [(("own_nodes" : Str), .tup (ps.map D.str)), (("own_edges" : Str), ed)])) dn = _ := vL_up hdn (by rw [hq]; nofun)
  have hde3 := (hde [(("own_nodes" : Str), .tup (ps.map D.str)), (("own_edges" : Str), ed)]).1
  generalize hG2 : gup G q (.ins C [(("own_nodes" : Str), .tup (ps.map D.str)), (("own_edges" : Str), ed)]) = G2 at hdn2 hde3 ⊢
  simp only [eDcC, iSeq, eVar, List.getElem?_cons_zero, List.getElem?_cons_succ, vIt_of (vL_vQ hdn2), wipeT, List.set_cons_zero, List.set_cons_succ]
  refine dc_inv (fun i acc G' => G' = G2 ∧ ∃ R : Str → List Str, acc = aft (ps.take i) R ∧ ∀ p ∈ ps.take i, Rch es p (R p)) (fun i acc G' h => by rw [h.1]; exact vIt_of (vL_vQ hdn2)) (fun i acc G' h => ?_) (by have := g.l16; simp; omega) (fun i d acc G' e h => ?_) (fun acc G' h => ?_) ⟨rfl, fun _ => [], rfl, by simp⟩
  · obtain ⟨rfl, R, rfl, _⟩ := h
    simp [aft]; omega
  · obtain ⟨rfl, R, rfl, hR⟩ := h
    rw [List.getElem?_map] at e
    cases ei : ps[i]? with
    | none => rw [ei] at e; cases e
    | some s =>
      rw [ei] at e
      cases e
      have hs : s ∈ ps := List.mem_of_getElem? ei
      have hnot : s ∉ ps.take i := fun hm => by
        obtain ⟨j, hj, e1⟩ := List.getElem_of_mem hm
        rw [List.getElem_take] at e1
        rw [List.length_take] at hj
        have : ps[j]? = ps[i]? := by rw [ei, List.getElem?_eq_getElem (by omega), e1]
        have := (List.getElem?_inj (by omega) g.nd).mp this
        omega
      refine ⟨_, rfl, fun K K2 k1 k2 => ?_⟩
      simp only [tTrue, if_true, keyD]
      kwd_rel
      refine ⟨de, s, es, rfl, hde3, g.en, g.le, hnm, g.nm s hs, fun rs hr => ?_⟩
      refine k1 _ _ _ ⟨rfl, fun p => if p = s then rs else R p, ?_, fun p hp => ?_⟩
      · have en : getK (aft (ps.take i) R) (.inr s) = none := by
          exact aft_none hnot
        rw [putD_new _ en, List.take_add_one, ei]
        unfold aft
        rw [List.map_append]
        congr 1
        · refine List.map_congr_left fun p hp => ?_
          dsimp only
          rw [if_neg fun e : p = s => hnot (e ▸ hp)]
        · simp
      · rw [List.take_add_one, ei] at hp
        dsimp only
        by_cases e : p = s
        · subst e; rw [if_pos rfl]; exact hr
        · rw [if_neg e]
          rcases List.mem_append.mp hp with h | h
          · exact hR p h
          · simp at h; exact absurd h e
  · obtain ⟨rfl, R, rfl, hR⟩ := h
    intro p hp
    rw [List.length_map, List.take_length] at hR ⊢
    rw [frz_dK gup_same, gdel_gup hp]
    dsimp only
    subst hG2
    simp only [gup_same, gup_gup, putF3]
    exact ⟨trivial, by simp, k R hR⟩
theorem init_ok : ∀ ds G Q E, spInit C ds G Q E → sp0_Graph_init C spReqNodes spReqEdges spReach ds G Q E := by
  rintro ds G Q E ⟨q, dn, de, ps, es, rfl, hq, hdn, hde, g, k⟩
  refine init_okG (fun _ _ _ _ h => h) hq hdn (fun fs => ?_) (fun Q E h => ⟨de, dn, ps, es, rfl, hde, vL_vQ hdn, g, h⟩) g k
  have h2 := vL_up (c := .ins C fs) hde (q := q) (by rw [hq]; nofun)
  exact ⟨vL_vQ h2, fun Q => tup_vQ h2⟩
end PL
end
section
namespace PL
open PySem PySem.Spec L2 TL WK
local macro_rules | `(tactic| kwd_rel) => `(tactic| simp only [startT, spOf, sSeq, sIf, sSet, sRet, sRetN, sExpr, sNext, sPar, sPutNm, sPut, sAug, sAsg, eC, eVar, aNil, aCons, aOne, eOp, eUn, eB, eAdd, eSub, eMul, eDiv, eMod, ePow, eNeg, eLt, eLe, eGt, eGe, eEq, eNe, eIs, eIsNot, eIn, eNotIn, eIx, eAbs, eMax2, eMin2, eDvm, eLen, eList, eListC, eTuple, eAll, eAny, eSum, tBl, tNot', tAnd', tOr', eAnd, eOr, eNot, eIf, eTup, eLst, eLstC, eCall, eMeth, eMake, eFld, eLm, eLc, eLcC, iSeq, iRng, iRng2', TL.iZip, eSm, eRevS, sFrz, eFrz, sFor, r_add, r_addS, r_addL, r_sub, r_mul, r_div, r_mod, r_pow, r_neg, r_lt, r_le, r_gt, r_ge, r_ixL, r_ixT, r_ixS, r_eqI, atI_0, atI_1, atI_2, b_abs, b_max, b_min, b_dvm, b_lenL, b_lenT, b_lenQ, vIt_str, vIt_lst, vIt_tup, CT_true, true_and, wipeT, List.map, List.length, List.replicate, List.cons_append, List.nil_append, List.append_nil, Nat.zero_le, List.getElem?_cons_zero, List.getElem?_cons_succ, List.getElem?_nil, List.set_cons_zero, List.set_cons_succ, gT, gsT, TgL.len, TL.vQ_tup, TL.vQ_lst, Nat.reduceAdd, Nat.reduceEqDiff, if_true, eSl, oSome, oNone, eIsi, eChain, iEnum', iEnumK, sFldT, eReprO, eCallK, eOEq, eFmt, eFmtR, eJs])
variable {Cs : List Addr} {K : PySem.W.Frag} {C : Addr}
section
variable {ps : List Str} {es : List Ed} {R : Str → List Str}
theorem gf1 : getK (gfs ps es R) ("own_nodes" : Str) = some (.tup (ps.map D.str)) := by
  unfold getK gfs
  rw [List.find?_cons, decide_eq_true rfl]; rfl
theorem gf2 : getK (gfs ps es R) ("own_edges" : Str) = some (.tup (es.map edD)) := by
  unfold getK gfs
  rw [List.find?_cons, decide_eq_false (show ("own_nodes" : Str) ≠ "own_edges" by decide), List.find?_cons, decide_eq_true rfl]; rfl
theorem gf3 : getK (gfs ps es R) ("own_after" : Str) = some (.dK (aft ps R)) := by
  unfold getK gfs
  rw [List.find?_cons, decide_eq_false (show ("own_nodes" : Str) ≠ "own_after" by decide), List.find?_cons, decide_eq_false (show ("own_edges" : Str) ≠ "own_after" by decide), List.find?_cons, decide_eq_true rfl]; rfl
theorem gfn {m : Str} (h1 : ("own_nodes" : Str) ≠ m) (h2 : ("own_edges" : Str) ≠ m) (h3 : ("own_after" : Str) ≠ m) : getK (gfs ps es R) m = none := by
  unfold getK gfs
  rw [List.find?_cons, decide_eq_false h1, List.find?_cons, decide_eq_false h2, List.find?_cons, decide_eq_false h3]; rfl
end
abbrev gr (C : Addr) (ps : List Str) (es : List Ed) (R : Str → List Str) : D := .ins C (gfs ps es R)
def spState (C : Addr) : SpT := fun ds G Q E => ∃ (ps : List Str) (es : List Ed) (R : Str → List Str), ds = [gr C ps es R] ∧ Q (.tup [.tup (ps.map D.str), .tup (es.map edD)]) G
theorem state_ok : ∀ ds G Q E, spState C ds G Q E → sp0_Graph_state C ds G Q E := by
  rintro ds G Q E ⟨ps, es, R, rfl, k⟩
  refine ⟨rfl, ?_⟩
  have s0 : sizeLine = 16777216 := rfl
  unfold t_Graph_state N_Graph_state
  kwd_rel
  simp only [vI_ins, gf1, gf2, true_and]
  exact ⟨by omega, k⟩
def spNodes (C : Addr) : SpT := fun ds G Q E => ∃ (ps : List Str) (es : List Ed) (R : Str → List Str), ds = [gr C ps es R] ∧ Q (.lst (ps.map D.str)) G
def spEdges (C : Addr) : SpT := fun ds G Q E => ∃ (ps : List Str) (es : List Ed) (R : Str → List Str), ds = [gr C ps es R] ∧ Q (.lst (es.map edD)) G
theorem nodes_ok : ∀ ds G Q E, spNodes C ds G Q E → sp0_Graph_nodes C ds G Q E := by
  rintro ds G Q E ⟨ps, es, R, rfl, k⟩
  refine ⟨rfl, ?_⟩
  unfold t_Graph_nodes N_Graph_nodes
  kwd_rel
  simp only [vI_ins, gf1, true_and]
  exact k
theorem edges_ok : ∀ ds G Q E, spEdges C ds G Q E → sp0_Graph_edges C ds G Q E := by
  rintro ds G Q E ⟨ps, es, R, rfl, k⟩
  refine ⟨rfl, ?_⟩
  unfold t_Graph_edges N_Graph_edges
  kwd_rel
  simp only [vI_ins, gf2, true_and]
  exact k
theorem eq_tups (ps ps' : List Str) (es es' : List Ed) : eqD (.tup [.tup (ps.map D.str), .tup (es.map edD)]) (.tup [.tup (ps'.map D.str), .tup (es'.map edD)]) = (decide (ps = ps') && decide (es = es')) := by
  show (PyData.eqvAll (toPyL (ps.map D.str)) (toPyL (ps'.map D.str)) && (PyData.eqvAll (toPyL (es.map edD)) (toPyL (es'.map edD)) && true)) = _
  have h1 : PyData.eqvAll (toPyL (ps.map D.str)) (toPyL (ps'.map D.str)) = decide (ps = ps') := eqL_map ps ps'
  have h2 := Bool.eq_iff_iff.mp (eqL_map es es')
  have h2' : PyData.eqvAll (toPyL (es.map edD)) (toPyL (es'.map edD)) = decide (es = es') := Bool.eq_iff_iff.mpr (h2.trans (by simp only [decide_eq_true_eq]))
  rw [h1, h2', Bool.and_true]
def spEq (C : Addr) : SpT := fun ds G Q E => ∃ (ps : List Str) (es : List Ed) (R : Str → List Str) (ps' : List Str) (es' : List Ed) (R' : Str → List Str), ds = [gr C ps es R, gr C ps' es' R'] ∧ Gd ps es ∧ Gd ps' es' ∧ Q (.bl (decide (ps = ps') && decide (es = es'))) G
theorem Gd.enm {ps : List Str} {es : List Ed} (g : Gd ps es) : ∀ e ∈ es, Nm e.1 ∧ Nm e.2 := fun e he => ⟨g.nm _ (g.ein e he).1, g.nm _ (g.ein e he).2⟩
theorem kit_own : PySem.W.kitOne K (.ref C) (.ref C) = some true := by
  unfold PySem.W.kitOne
  rw [if_pos (by simp)]
theorem eq_ok (hC : C ∈ Cs) : ∀ ds G Q E, spEq C ds G Q E → sp0_Graph_eq Cs K C (spState C) ds G Q E := by
  rintro ds G Q E ⟨ps, es, R, ps', es', R', rfl, g, g', k⟩
  refine ⟨rfl, ?_⟩
  unfold t_Graph_eq N_Graph_eq
  kwd_rel
  have n1 : ∀ ps es R, getK (gfs ps es R) ("state" : Str) = none := fun ps es R => gfn (by decide) (by decide) (by decide)
  simp only [rIsi', tyD, hC, if_true, clD, kit_own, vI_ins, n1, true_and]
  have pl : ∀ ps es, Gd ps es → Pl (.tup [.tup (ps.map D.str), .tup (es.map edD)]) 60 := fun ps es g => by
    simp only [Pl, PlL, and_true]
    exact ⟨plL_mono (by decide) (plS g.nm), plL_mono (by decide) (plE g.enm)⟩
  refine ⟨ps, es, R, rfl, ps', es', R', rfl, r_eqG rfl rfl (pl ps es g) (pl ps' es' g') ?_⟩
  rw [fb]
  show Q (.bl (eqD (.tup [.tup (ps.map D.str), .tup (es.map edD)]) (.tup [.tup (ps'.map D.str), .tup (es'.map edD)]))) G
  rw [eq_tups]
  exact k
/-! ### texts -/

theorem emp (s : Str) : Str.empty ++ s = s := cl_ext (by rw [cl_app]; rfl)
theorem len_app (s t : Str) : (s ++ t).length = s.length + t.length := by rw [← cl_len, cl_app, List.length_append, cl_len, cl_len]
end PL
end
section
namespace PL
open PySem PySem.Spec L2 TL WK
local macro_rules | `(tactic| kwd_rel) => `(tactic| simp only [startT, spOf, sSeq, sIf, sSet, sRet, sRetN, sExpr, sNext, sPar, sPutNm, sPut, sAug, sAsg, eC, eVar, aNil, aCons, aOne, eOp, eUn, eB, eAdd, eSub, eMul, eDiv, eMod, ePow, eNeg, eLt, eLe, eGt, eGe, eEq, eNe, eIs, eIsNot, eIn, eNotIn, eIx, eAbs, eMax2, eMin2, eDvm, eLen, eList, eListC, eTuple, eAll, eAny, eSum, tBl, tNot', tAnd', tOr', eAnd, eOr, eNot, eIf, eTup, eLst, eLstC, eCall, eMeth, eMake, eFld, eLm, eLc, eLcC, iSeq, iRng, iRng2', TL.iZip, eSm, eRevS, sFrz, eFrz, sFor, r_add, r_addS, r_addL, r_sub, r_mul, r_div, r_mod, r_pow, r_neg, r_lt, r_le, r_gt, r_ge, r_ixL, r_ixT, r_ixS, r_eqI, atI_0, atI_1, atI_2, b_abs, b_max, b_min, b_dvm, b_lenL, b_lenT, b_lenQ, vIt_str, vIt_lst, vIt_tup, CT_true, true_and, wipeT, List.map, List.length, List.replicate, List.cons_append, List.nil_append, List.append_nil, Nat.zero_le, List.getElem?_cons_zero, List.getElem?_cons_succ, List.getElem?_nil, List.set_cons_zero, List.set_cons_succ, gT, gsT, TgL.len, TL.vQ_tup, TL.vQ_lst, Nat.reduceAdd, Nat.reduceEqDiff, if_true, eSl, oSome, oNone, eIsi, eChain, iEnum', iEnumK, sFldT, eReprO, eCallK, eOEq, eFmt, eFmtR, eJs])
def lnN (p : Str) : Str := "node " ++ p
def lnE (e : Ed) : Str := ("edge " ++ e.1) ++ " " ++ e.2
def lns (ps : List Str) (es : List Ed) : List Str := ps.map lnN ++ es.map lnE
def nl (p : Str) : Str := p ++ "\n"
def joined (ls : List Str) : Str := Txt.join "" (ls.map nl)
def fLn : D → Option D
  | .str p => some (.str (lnN p))
  | _ => none
def fLe : D → Option D
  | .tup [.str a, .str b] => some (.str (lnE (a, b)))
  | _ => none
def fNl : D → Option D
  | .str p => some (.str (nl p))
  | _ => none
theorem fLn_map : ∀ ps : List Str, (ps.map D.str).filterMap fLn = (ps.map lnN).map D.str
  | [] => rfl
  | p :: r => by rw [List.map_cons, List.filterMap_cons]; show D.str (lnN p) :: (r.map D.str).filterMap fLn = _; rw [fLn_map r]; rfl
theorem fLe_map : ∀ es : List Ed, (es.map edD).filterMap fLe = (es.map lnE).map D.str
  | [] => rfl
  | p :: r => by rw [List.map_cons, List.filterMap_cons]; show D.str (lnE (p.1, p.2)) :: (r.map edD).filterMap fLe = _; rw [fLe_map r]; rfl
theorem fNl_map : ∀ ls : List Str, (ls.map D.str).filterMap fNl = (ls.map nl).map D.str
  | [] => rfl
  | p :: r => by rw [List.map_cons, List.filterMap_cons]; show D.str (nl p) :: (r.map D.str).filterMap fNl = _; rw [fNl_map r]; rfl
theorem lnN_len (p : Str) : (lnN p).length = 5 + p.length := by unfold lnN; rw [len_app]; rfl
theorem lnE_len (e : Ed) : (lnE e).length = 6 + e.1.length + e.2.length := by
  unfold lnE; rw [len_app, len_app, len_app]
  show 5 + e.1.length + 1 + e.2.length = _
  omega
theorem lns_len {ps : List Str} {es : List Ed} (hn : ∀ s ∈ ps, Nm s) (he : ∀ e ∈ es, Nm e.1 ∧ Nm e.2) : ∀ l ∈ lns ps es, l.length ≤ 22 := fun l hl => by
  rcases List.mem_append.mp hl with h | h
  · obtain ⟨p, hp, rfl⟩ := List.mem_map.mp h
    have := (hn p hp).2.1
    rw [lnN_len]; omega
  · obtain ⟨e, hp, rfl⟩ := List.mem_map.mp h
    have h1 := (he e hp).1.2.1
    have h2 := (he e hp).2.2.1
    rw [lnE_len]; omega
theorem sum_le {ls : List Str} {B : Nat} (h : ∀ l ∈ ls, l.length ≤ B) : (ls.map (·.length)).sum ≤ ls.length * B := by
  induction ls with
  | nil => simp
  | cons l r ih =>
    have h1 := h l (List.mem_cons_self ..)
    have h2 := ih fun x hx => h x (List.mem_cons_of_mem _ hx)
    rw [List.map_cons, List.sum_cons, List.length_cons, Nat.succ_mul]
    omega
theorem join_nl {ls : List Str} {G : GH} {Q : KD} (h1 : ls.length ≤ 600) (h2 : ∀ l ∈ ls, l.length ≤ 22) (k : Q (.str (joined ls)) G) : rJoin "" [.lst ((ls.map D.str).filterMap fNl)] G Q := by
  rw [fNl_map]
  unfold rJoin
  simp only [vQ_lst, strsD_map]
  have hb : ∀ l ∈ ls.map nl, l.length ≤ 23 := fun l hl => by
    obtain ⟨p, hp, rfl⟩ := List.mem_map.mp hl
    have := h2 p hp
    unfold nl
    rw [len_app]
    show p.length + 1 ≤ 23
    omega
  have hs := sum_le hb
  rw [List.length_map] at hs
  have le : (Str.ofString "").length = 0 := by decide
  refine ⟨?_, k⟩
  rw [le]
  omega
end PL
end
section
namespace PL
open PySem PySem.Spec L2 TL WK
local macro_rules | `(tactic| kwd_rel) => `(tactic| simp only [startT, spOf, sSeq, sIf, sSet, sRet, sRetN, sExpr, sNext, sPar, sPutNm, sPut, sAug, sAsg, eC, eVar, aNil, aCons, aOne, eOp, eUn, eB, eAdd, eSub, eMul, eDiv, eMod, ePow, eNeg, eLt, eLe, eGt, eGe, eEq, eNe, eIs, eIsNot, eIn, eNotIn, eIx, eAbs, eMax2, eMin2, eDvm, eLen, eList, eListC, eTuple, eAll, eAny, eSum, tBl, tNot', tAnd', tOr', eAnd, eOr, eNot, eIf, eTup, eLst, eLstC, eCall, eMeth, eMake, eFld, eLm, eLc, eLcC, iSeq, iRng, iRng2', TL.iZip, eSm, eRevS, sFrz, eFrz, sFor, r_add, r_addS, r_addL, r_sub, r_mul, r_div, r_mod, r_pow, r_neg, r_lt, r_le, r_gt, r_ge, r_ixL, r_ixT, r_ixS, r_eqI, atI_0, atI_1, atI_2, b_abs, b_max, b_min, b_dvm, b_lenL, b_lenT, b_lenQ, vIt_str, vIt_lst, vIt_tup, CT_true, true_and, wipeT, List.map, List.length, List.replicate, List.cons_append, List.nil_append, List.append_nil, Nat.zero_le, List.getElem?_cons_zero, List.getElem?_cons_succ, List.getElem?_nil, List.set_cons_zero, List.set_cons_succ, gT, gsT, TgL.len, TL.vQ_tup, TL.vQ_lst, Nat.reduceAdd, Nat.reduceEqDiff, if_true, eSl, oSome, oNone, eIsi, eChain, iEnum', iEnumK, sFldT, eReprO, eCallK, eOEq, eFmt, eFmtR, eJs])
variable {Cs : List Addr} {K : PySem.W.Frag} {C : Addr}
theorem split_back {y : Str} {s : Nat} {parts : List Str} (ey : cl y = [s]) (hs : s < 256) (hne : parts ≠ []) (hp : ∀ p ∈ parts, s ∉ cl p) {z : Str} (ez : z = Str.join y parts) : Txt.split z y = parts := by
  rw [ez, ← TL.join_eq]
  refine TL.split_join (S := []) ey ?_ hne hp
  rw [← Array.all_toList]
  show (cl y).all _ = true
  rw [ey]
  simpa using hs
theorem Nm.no {x : Str} (h : Nm x) {c : Nat} (hc : c < 97) : c ∉ cl x := fun hm => by
  have := h.2.2 c hm
  omega
theorem split_node {x : Str} (h : Nm x) : Txt.split (lnN x) " " = [("node" : Str), x] := by
  refine split_back (s := 32) rfl (by decide) (by simp) (fun p hp => ?_) (cl_ext ?_)
  · simp only [List.mem_cons, List.not_mem_nil, or_false] at hp
    rcases hp with rfl | rfl
    · decide +kernel
    · exact h.no (by decide)
  · show cl ("node " ++ x) = cl ("node" ++ " " ++ x)
    rw [cl_app, cl_app, cl_app]
    rfl
theorem split_edge {e : Ed} (h1 : Nm e.1) (h2 : Nm e.2) : Txt.split (lnE e) " " = [("edge" : Str), e.1, e.2] := by
  refine split_back (s := 32) rfl (by decide) (by simp) (fun p hp => ?_) (cl_ext ?_)
  · simp only [List.mem_cons, List.not_mem_nil, or_false] at hp
    rcases hp with rfl | rfl | rfl
    · decide +kernel
    · exact h1.no (by decide)
    · exact h2.no (by decide)
  · show cl (((("edge " : Str) ++ e.1) ++ " ") ++ e.2) = cl ("edge" ++ " " ++ (e.1 ++ " " ++ e.2))
    simp only [cl_app, List.append_assoc]
    rfl
theorem join_lines : ∀ ls : List Str, cl (Str.join "\n" (ls ++ [Str.empty])) = (ls.map fun l => cl l ++ [10]).flatten
  | [] => rfl
  | [a] => by
    show cl (a ++ "\n" ++ Str.empty) = _
    rw [cl_app, cl_app]
    simp [cl, Str.empty]
    rfl
  | a :: b :: r => by
    show cl (a ++ "\n" ++ Str.join "\n" (b :: r ++ [Str.empty])) = _
    rw [cl_app, cl_app, join_lines (b :: r), List.map_cons, List.flatten_cons]
    rfl
theorem joined_cl (ls : List Str) : cl (joined ls) = (ls.map fun l => cl l ++ [10]).flatten := by
  unfold joined
  rw [TL.join_eq]
  show cl (Str.join Str.empty (ls.map nl)) = _
  rw [join_e, List.map_map]
  congr 1
  refine List.map_congr_left fun l _ => ?_
  show cl (l ++ "\n") = _
  rw [cl_app]
  rfl
theorem split_lines {ls : List Str} (h : ∀ l ∈ ls, 10 ∉ cl l) : Txt.split (joined ls) "\n" = ls ++ [Str.empty] := by
  refine split_back (s := 10) rfl (by decide) (by simp) (fun p hp => ?_) (cl_ext ?_)
  · rcases List.mem_append.mp hp with hp | hp
    · exact h p hp
    · simp at hp; subst hp; simp [cl, Str.empty]
  · rw [joined_cl, join_lines]
end PL
end
section
namespace PL
open PySem PySem.Spec L2 TL WK
local macro_rules | `(tactic| kwd_rel) => `(tactic| simp only [startT, spOf, sSeq, sIf, sSet, sRet, sRetN, sExpr, sNext, sPar, sPutNm, sPut, sAug, sAsg, eC, eVar, aNil, aCons, aOne, eOp, eUn, eB, eAdd, eSub, eMul, eDiv, eMod, ePow, eNeg, eLt, eLe, eGt, eGe, eEq, eNe, eIs, eIsNot, eIn, eNotIn, eIx, eAbs, eMax2, eMin2, eDvm, eLen, eList, eListC, eTuple, eAll, eAny, eSum, tBl, tNot', tAnd', tOr', eAnd, eOr, eNot, eIf, eTup, eLst, eLstC, eCall, eMeth, eMake, eFld, eLm, eLc, eLcC, iSeq, iRng, iRng2', TL.iZip, eSm, eRevS, sFrz, eFrz, sFor, r_add, r_addS, r_addL, r_sub, r_mul, r_div, r_mod, r_pow, r_neg, r_lt, r_le, r_gt, r_ge, r_ixL, r_ixT, r_ixS, r_eqI, atI_0, atI_1, atI_2, b_abs, b_max, b_min, b_dvm, b_lenL, b_lenT, b_lenQ, vIt_str, vIt_lst, vIt_tup, CT_true, true_and, wipeT, List.map, List.length, List.replicate, List.cons_append, List.nil_append, List.append_nil, Nat.zero_le, List.getElem?_cons_zero, List.getElem?_cons_succ, List.getElem?_nil, List.set_cons_zero, List.set_cons_succ, gT, gsT, TgL.len, TL.vQ_tup, TL.vQ_lst, Nat.reduceAdd, Nat.reduceEqDiff, if_true, eSl, oSome, oNone, eIsi, eChain, iEnum', iEnumK, sFldT, eReprO, eCallK, eOEq, eFmt, eFmtR, eJs])
variable {Cs : List Addr} {K : PySem.W.Frag} {C : Addr}
theorem vI_gr {G : GH} {ps es R} : vI G (gr C ps es R) = some (C, gfs ps es R) := rfl
theorem Nm.lf {s : Str} (h : Nm s) : PyData.leavesShort 8 (.str s) = true := by
  simp only [PyData.leavesShort, List.all_eq_true, decide_eq_true_eq]
  intro c hc
  have := h.2.2 c hc
  omega
theorem names_show : ∀ {ps : List Str}, (∀ s ∈ ps, Nm s) → PyData.bulkAll (toPyL (ps.map D.str)) ≤ 9 * ps.length ∧ PyData.leavesShortAll 8 (toPyL (ps.map D.str)) = true ∧ PyData.showableAll (toPyL (ps.map D.str)) = true
  | [], _ => ⟨Nat.zero_le _, rfl, rfl⟩
  | p :: r, h => by
    obtain ⟨h1, h2, h3⟩ := names_show fun s hs => h s (List.mem_cons_of_mem _ hs)
    have np := h p (List.mem_cons_self ..)
    have l8 : p.cps.size ≤ 8 := np.2.1
    show PyData.bulkAll (.str p :: toPyL (r.map D.str)) ≤ _ ∧ PyData.leavesShortAll 8 (.str p :: toPyL (r.map D.str)) = true ∧ PyData.showableAll (.str p :: toPyL (r.map D.str)) = true
    refine ⟨?_, ?_, ?_⟩
    · rw [PyData.bulkAll, List.length_cons]
      simp only [PyData.bulk]
      omega
    · rw [PyData.leavesShortAll, np.lf, h2]; rfl
    · rw [PyData.showableAll, h3]; rfl
theorem edges_show : ∀ {es : List Ed}, (∀ e ∈ es, Nm e.1 ∧ Nm e.2) → PyData.bulkAll (toPyL (es.map edD)) ≤ 19 * es.length ∧ PyData.leavesShortAll 8 (toPyL (es.map edD)) = true ∧ PyData.showableAll (toPyL (es.map edD)) = true
  | [], _ => ⟨Nat.zero_le _, rfl, rfl⟩
  | p :: r, h => by
    obtain ⟨h1, h2, h3⟩ := edges_show fun s hs => h s (List.mem_cons_of_mem _ hs)
    obtain ⟨n1, n2⟩ := h p (List.mem_cons_self ..)
    have l1 : p.1.cps.size ≤ 8 := n1.2.1
    have l2 : p.2.cps.size ≤ 8 := n2.2.1
    show PyData.bulkAll (.tuple [.str p.1, .str p.2] :: toPyL (r.map edD)) ≤ _ ∧ PyData.leavesShortAll 8 (.tuple [.str p.1, .str p.2] :: toPyL (r.map edD)) = true ∧ PyData.showableAll (.tuple [.str p.1, .str p.2] :: toPyL (r.map edD)) = true
    refine ⟨?_, ?_, ?_⟩
    · rw [PyData.bulkAll, List.length_cons]
      simp only [PyData.bulk, PyData.bulkAll]
      omega
    · rw [PyData.leavesShortAll, h2, PyData.leavesShort, PyData.leavesShortAll, PyData.leavesShortAll, n1.lf, n2.lf]; rfl
    · rw [PyData.showableAll, h3]; rfl
theorem plS49 {us : List Str} (h : ∀ u ∈ us, Nm u) : PlL (us.map D.str) 49 := plL_iff.mpr fun x hx => by
  obtain ⟨u, hu, rfl⟩ := List.mem_map.mp hx
  simpa [Pl] using (h u hu).ok
theorem plE49 {es : List Ed} (h : ∀ e ∈ es, Nm e.1 ∧ Nm e.2) : PlL (es.map edD) 49 := plL_iff.mpr fun x hx => by
  obtain ⟨u, hu, rfl⟩ := List.mem_map.mp hx
  simpa [Pl, PlL] using ⟨(h u hu).1.ok, (h u hu).2.ok⟩
def shN (ps : List Str) : Str := (toPy (.lst (ps.map D.str))).shown
def shE (es : List Ed) : Str := (toPy (.lst (es.map edD))).shown
def shG (ps : List Str) (es : List Ed) : Str := "Graph(" ++ shN ps ++ ", " ++ shE es ++ ")"
theorem shN_len {ps : List Str} (h : ∀ s ∈ ps, Nm s) (l : ps.length ≤ 1000) : (shN ps).length ≤ 1000000 := by
  obtain ⟨h1, h2, h3⟩ := names_show h
  have := PyData.shown_le_bulk 8 (by decide) (toPy (.lst (ps.map D.str))) (by show PyData.leavesShort 8 (.list _) = true; rw [PyData.leavesShort]; exact h2)
  have e : (toPy (.lst (ps.map D.str))).bulk = PyData.bulkAll (toPyL (ps.map D.str)) := by show PyData.bulk (.list _) = _; rw [PyData.bulk]
  rw [e] at this
  unfold shN
  omega
theorem shE_len {es : List Ed} (h : ∀ e ∈ es, Nm e.1 ∧ Nm e.2) (l : es.length ≤ 1000) : (shE es).length ≤ 1000000 := by
  obtain ⟨h1, h2, h3⟩ := edges_show h
  have := PyData.shown_le_bulk 8 (by decide) (toPy (.lst (es.map edD))) (by show PyData.leavesShort 8 (.list _) = true; rw [PyData.leavesShort]; exact h2)
  have e : (toPy (.lst (es.map edD))).bulk = PyData.bulkAll (toPyL (es.map edD)) := by show PyData.bulk (.list _) = _; rw [PyData.bulk]
  rw [e] at this
  unfold shE
  omega
def spRepr (C : Addr) : SpT := fun ds G Q E => ∃ (ps : List Str) (es : List Ed) (R : Str → List Str), ds = [gr C ps es R] ∧ Gd ps es ∧ Q (.str (shG ps es)) G
theorem repr_ok : ∀ ds G Q E, spRepr C ds G Q E → sp0_Graph_repr C ds G Q E := by
  rintro ds G Q E ⟨ps, es, R, rfl, g, k⟩
  refine ⟨rfl, ?_⟩
  have s0 : sizeLine = 16777216 := rfl
  have l1 := g.l16
  have l2 := g.le
  have b1 := shN_len g.nm (by omega)
  have b2 := shE_len g.enm (by omega)
  unfold t_Graph_repr N_Graph_repr
  kwd_rel
  simp only [vI_gr, gf1, gf2, true_and, emp]
  refine ⟨by show 6 ≤ _; omega, ?_⟩
  show okShow G (.lst (ps.map D.str)) ∧ _
  have o1 : okShow G (.lst (ps.map D.str)) := ⟨by show Pl (.lst _) 50; rw [Pl]; exact plS49 g.nm, by show PyData.showable (.list _) = true; rw [PyData.showable]; exact (names_show g.nm).2.2, by show (shN ps).length ≤ _; omega⟩
  have o2 : okShow G (.lst (es.map edD)) := ⟨by show Pl (.lst _) 50; rw [Pl]; exact plE49 g.enm, by show PyData.showable (.list _) = true; rw [PyData.showable]; exact (edges_show g.enm).2.2, by show (shE es).length ≤ _; omega⟩
  refine ⟨o1, ?_, ?_, o2, ?_, ?_, k⟩
  · rw [len_app]; show 6 + (shN ps).length ≤ _; omega
  · rw [len_app, len_app]; show 6 + (shN ps).length + 2 ≤ _; omega
  · rw [len_app, len_app, len_app]; show 6 + (shN ps).length + 2 + (shE es).length ≤ _; omega
  · rw [len_app, len_app, len_app, len_app]; show 6 + (shN ps).length + 2 + (shE es).length + 1 ≤ _; omega

end PL
end
section
namespace PL
open PySem PySem.Spec L2 TL WK
local macro_rules | `(tactic| kwd_rel) => `(tactic| simp only [startT, spOf, sSeq, sIf, sSet, sRet, sRetN, sExpr, sNext, sPar, sPutNm, sPut, sAug, sAsg, eC, eVar, aNil, aCons, aOne, eOp, eUn, eB, eAdd, eSub, eMul, eDiv, eMod, ePow, eNeg, eLt, eLe, eGt, eGe, eEq, eNe, eIs, eIsNot, eIn, eNotIn, eIx, eAbs, eMax2, eMin2, eDvm, eLen, eList, eListC, eTuple, eAll, eAny, eSum, tBl, tNot', tAnd', tOr', eAnd, eOr, eNot, eIf, eTup, eLst, eLstC, eCall, eMeth, eMake, eFld, eLm, eLc, eLcC, iSeq, iRng, iRng2', TL.iZip, eSm, eRevS, sFrz, eFrz, sFor, r_add, r_addS, r_addL, r_sub, r_mul, r_div, r_mod, r_pow, r_neg, r_lt, r_le, r_gt, r_ge, r_ixL, r_ixT, r_ixS, r_eqI, atI_0, atI_1, atI_2, b_abs, b_max, b_min, b_dvm, b_lenL, b_lenT, b_lenQ, vIt_str, vIt_lst, vIt_tup, CT_true, true_and, wipeT, List.map, List.length, List.replicate, List.cons_append, List.nil_append, List.append_nil, Nat.zero_le, List.getElem?_cons_zero, List.getElem?_cons_succ, List.getElem?_nil, List.set_cons_zero, List.set_cons_succ, gT, gsT, TgL.len, TL.vQ_tup, TL.vQ_lst, Nat.reduceAdd, Nat.reduceEqDiff, if_true, eSl, oSome, oNone, eIsi, eChain, iEnum', iEnumK, sFldT, eReprO, eCallK, eOEq, eFmt, eFmtR, eJs])
variable {Cs : List Addr} {K : PySem.W.Frag} {C : Addr}
def spPot : SpT := fun ds G Q E => ∃ (ns : List Int) (i : Nat), ds = [.scr (ns.map D.int), .int i] ∧ i ≤ 1000 ∧ ∀ p G', G p = none → Pot G' p → TL.Same p G G' → Q (.ref p) G'
theorem pot_ok : ∀ ds G Q E, spPot ds G Q E → sp0_law_pot ds G Q E := by
  rintro ds G Q E ⟨ns, i, rfl, hi, k⟩
  refine ⟨rfl, ?_⟩
  have s0 : sizeLine = 16777216 := rfl
  unfold t_law_pot N_law_pot
  refine cut2 (fun τ' G' => G' = G ∧ ∃ c : Int, 0 ≤ c ∧ τ' = [some (.scr (ns.map D.int)), some (.int i), some (.int c)]) (fun K hK => ?_) ?_
  · kwd_rel
    by_cases h : (i : Int) < ((ns.map D.int).length : Nat)
    · simp only [h, decide_true, if_true]
      have h' : i < ns.length := by simpa using h
      rw [TL.atI_nat, List.getElem?_map, List.getElem?_eq_getElem h']
      simp only [Option.map_some, b_abs]
      refine hK _ _ ⟨rfl, _, ?_, rfl⟩
      split <;> omega
    · simp only [h, decide_false, Bool.false_eq_true, if_false]
      exact hK _ _ ⟨rfl, 0, by omega, rfl⟩
  · rintro τ' G' ⟨rfl, c, hc, rfl⟩
    kwd_rel
    have m0 : 0 ≤ c % 2147483629 := Int.emod_nonneg _ (by decide)
    have m1 : c % 2147483629 < 2147483629 := Int.emod_lt_of_pos _ (by decide)
    have e0 : 0 ≤ (c % 2147483629 + 1013 * (i : Int) + 7) ^ Int.toNat 3 % 2147483587 := Int.emod_nonneg _ (by decide)
    have e1 : (c % 2147483629 + 1013 * (i : Int) + 7) ^ Int.toNat 3 % 2147483587 < 2147483587 := Int.emod_lt_of_pos _ (by decide)
    refine ⟨by decide, by decide, cmulT (a := 10) (b := 10) (by decide) (by omega) (by decide) (by decide) (by decide), ⟨by decide, by decide, by omega⟩, by decide, by omega, fun p hp => ?_⟩
    refine k p _ hp ⟨_, _, ?_, ?_, ?_, gup_same⟩ Same.gup
    · split <;> omega
    · omega
    · omega
theorem pmap_take {α β : Type} {f : α → β} (l : List α) (n : Nat) : (l.map f).take n = (l.take n).map f := List.map_take.symm
/-- a prefix of a good graph -/
theorem Gd.take {ps : List Str} {es : List Ed} (g : Gd ps es) (m : Nat) : Gd ps (es.take m) :=
  ⟨g.nd, g.nm, g.l1, g.l16, fun e he => g.ein e (List.mem_of_mem_take he), g.en.sublist (List.take_sublist ..), by
    obtain ⟨r, hr⟩ := g.rk
    exact ⟨r, fun e he => hr e (List.mem_of_mem_take he)⟩⟩
theorem Gd.nodes {ps : List Str} {es : List Ed} (g : Gd ps es) (m : Nat) (h : 1 ≤ m) : Gd (ps.take m) [] :=
  ⟨g.nd.sublist (List.take_sublist ..), fun s hs => g.nm s (List.mem_of_mem_take hs), by have := g.l1; rw [List.length_take]; omega, by have := g.l16; rw [List.length_take]; omega, by simp, by simp, ⟨fun _ => 0, by simp⟩⟩
/-- the first m lines as a graph -/
theorem Gd.first {ps : List Str} {es : List Ed} (g : Gd ps es) (m : Nat) (h : 1 ≤ m) : Gd (ps.take m) (es.take (m - ps.length)) := by
  by_cases c : m ≤ ps.length
  · rw [show m - ps.length = 0 by omega, List.take_zero]
    exact g.nodes m h
  · rw [List.take_of_length_le (by omega)]
    exact g.take _
end PL
end
section
namespace PL
open PySem PySem.Spec L2 TL WK
local macro_rules | `(tactic| kwd_rel) => `(tactic| simp only [startT, spOf, sSeq, sIf, sSet, sRet, sRetN, sExpr, sNext, sPar, sPutNm, sPut, sAug, sAsg, eC, eVar, aNil, aCons, aOne, eOp, eUn, eB, eAdd, eSub, eMul, eDiv, eMod, ePow, eNeg, eLt, eLe, eGt, eGe, eEq, eNe, eIs, eIsNot, eIn, eNotIn, eIx, eAbs, eMax2, eMin2, eDvm, eLen, eList, eListC, eTuple, eAll, eAny, eSum, tBl, tNot', tAnd', tOr', eAnd, eOr, eNot, eIf, eTup, eLst, eLstC, eCall, eMeth, eMake, eFld, eLm, eLc, eLcC, iSeq, iRng, iRng2', TL.iZip, eSm, eRevS, sFrz, eFrz, sFor, r_add, r_addS, r_addL, r_sub, r_mul, r_div, r_mod, r_pow, r_neg, r_lt, r_le, r_gt, r_ge, r_ixL, r_ixT, r_ixS, r_eqI, atI_0, atI_1, atI_2, b_abs, b_max, b_min, b_dvm, b_lenL, b_lenT, b_lenQ, vIt_str, vIt_lst, vIt_tup, CT_true, true_and, wipeT, List.map, List.length, List.replicate, List.cons_append, List.nil_append, List.append_nil, Nat.zero_le, List.getElem?_cons_zero, List.getElem?_cons_succ, List.getElem?_nil, List.set_cons_zero, List.set_cons_succ, gT, gsT, TgL.len, TL.vQ_tup, TL.vQ_lst, Nat.reduceAdd, Nat.reduceEqDiff, if_true, eSl, oSome, oNone, eIsi, eChain, iEnum', iEnumK, sFldT, eReprO, eCallK, eOEq, eFmt, eFmtR, eJs])
variable {Cs : List Addr} {K : PySem.W.Frag} {C : Addr}
theorem mk {G : GH} {dn de : D} {ps : List Str} {es : List Ed} {Q : KD} {E : KX} (h1 : vL G dn = some (ps.map D.str)) (h2 : vL G de = some (es.map edD)) (g : Gd ps es) (k : ∀ R, (∀ p ∈ ps, Rch es p (R p)) → Q (gr C ps es R) G) :
    ∀ p, G p = none → spInit C [.ref p, dn, de] (gup G p (.ins C [])) (fun d G2 => d = .non ∧ (match frz G2 (.ref p) with
      | some (d', G') => Q d' G'
      | none => Q (.ref p) G2)) E := fun p hp =>
  ⟨p, dn, de, ps, es, rfl, gup_same, vL_up h1 (by rw [hp]; nofun), vL_up h2 (by rw [hp]; nofun), g, fun R hR => ⟨rfl, by
    rw [gup_gup, frz_ins gup_same, gdel_gup hp]
    exact k R hR⟩⟩

end PL
end
section
namespace PL
open PySem PySem.Spec L2 TL WK
local macro_rules | `(tactic| kwd_rel) => `(tactic| simp only [startT, spOf, sSeq, sIf, sSet, sRet, sRetN, sExpr, sNext, sPar, sPutNm, sPut, sAug, sAsg, eC, eVar, aNil, aCons, aOne, eOp, eUn, eB, eAdd, eSub, eMul, eDiv, eMod, ePow, eNeg, eLt, eLe, eGt, eGe, eEq, eNe, eIs, eIsNot, eIn, eNotIn, eIx, eAbs, eMax2, eMin2, eDvm, eLen, eList, eListC, eTuple, eAll, eAny, eSum, tBl, tNot', tAnd', tOr', eAnd, eOr, eNot, eIf, eTup, eLst, eLstC, eCall, eMeth, eMake, eFld, eLm, eLc, eLcC, iSeq, iRng, iRng2', TL.iZip, eSm, eRevS, sFrz, eFrz, sFor, r_add, r_addS, r_addL, r_sub, r_mul, r_div, r_mod, r_pow, r_neg, r_lt, r_le, r_gt, r_ge, r_ixL, r_ixT, r_ixS, r_eqI, atI_0, atI_1, atI_2, b_abs, b_max, b_min, b_dvm, b_lenL, b_lenT, b_lenQ, vIt_str, vIt_lst, vIt_tup, CT_true, true_and, wipeT, List.map, List.length, List.replicate, List.cons_append, List.nil_append, List.append_nil, Nat.zero_le, List.getElem?_cons_zero, List.getElem?_cons_succ, List.getElem?_nil, List.set_cons_zero, List.set_cons_succ, gT, gsT, TgL.len, TL.vQ_tup, TL.vQ_lst, Nat.reduceAdd, Nat.reduceEqDiff, if_true, eSl, oSome, oNone, eIsi, eChain, iEnum', iEnumK, sFldT, eReprO, eCallK, eOEq, eFmt, eFmtR, eJs])
variable {Cs : List Addr} {K : PySem.W.Frag} {C : Addr}
/-! PK: which built-in type a value has. -/
def kT (t u : String) : Option Bool := if (Value.type t == Value.type u) = true then some true else if PySem.W.kitMeta u = true then (PySem.fastBuiltinMro t).map (·.contains (Value.type u)) else none
theorem kit_T {t u : String} : PySem.W.kitOne K (.type t) (.type u) = kT t u := rfl
theorem kT_NoneType_str : kT "NoneType" "str" = some false := by kernel_rfl
theorem kT_NoneType_int : kT "NoneType" "int" = some false := by kernel_rfl
theorem kT_NoneType_bool : kT "NoneType" "bool" = some false := by kernel_rfl
theorem kT_NoneType_list : kT "NoneType" "list" = some false := by kernel_rfl
theorem kT_NoneType_tuple : kT "NoneType" "tuple" = some false := by kernel_rfl
theorem kT_NoneType_dict : kT "NoneType" "dict" = some false := by kernel_rfl
theorem kT_bool_str : kT "bool" "str" = some false := by kernel_rfl
theorem kT_bool_int : kT "bool" "int" = some true := by kernel_rfl
theorem kT_bool_bool : kT "bool" "bool" = some true := by kernel_rfl
theorem kT_bool_list : kT "bool" "list" = some false := by kernel_rfl
theorem kT_bool_tuple : kT "bool" "tuple" = some false := by kernel_rfl
theorem kT_bool_dict : kT "bool" "dict" = some false := by kernel_rfl
theorem kT_int_str : kT "int" "str" = some false := by kernel_rfl
theorem kT_int_int : kT "int" "int" = some true := by kernel_rfl
theorem kT_int_bool : kT "int" "bool" = some false := by kernel_rfl
theorem kT_int_list : kT "int" "list" = some false := by kernel_rfl
theorem kT_int_tuple : kT "int" "tuple" = some false := by kernel_rfl
theorem kT_int_dict : kT "int" "dict" = some false := by kernel_rfl
theorem kT_str_str : kT "str" "str" = some true := by kernel_rfl
theorem kT_str_int : kT "str" "int" = some false := by kernel_rfl
theorem kT_str_bool : kT "str" "bool" = some false := by kernel_rfl
theorem kT_str_list : kT "str" "list" = some false := by kernel_rfl
theorem kT_str_tuple : kT "str" "tuple" = some false := by kernel_rfl
theorem kT_str_dict : kT "str" "dict" = some false := by kernel_rfl
theorem kT_list_str : kT "list" "str" = some false := by kernel_rfl
theorem kT_list_int : kT "list" "int" = some false := by kernel_rfl
theorem kT_list_bool : kT "list" "bool" = some false := by kernel_rfl
theorem kT_list_list : kT "list" "list" = some true := by kernel_rfl
theorem kT_list_tuple : kT "list" "tuple" = some false := by kernel_rfl
theorem kT_list_dict : kT "list" "dict" = some false := by kernel_rfl
theorem kT_tuple_str : kT "tuple" "str" = some false := by kernel_rfl
theorem kT_tuple_int : kT "tuple" "int" = some false := by kernel_rfl
theorem kT_tuple_bool : kT "tuple" "bool" = some false := by kernel_rfl
theorem kT_tuple_list : kT "tuple" "list" = some false := by kernel_rfl
theorem kT_tuple_tuple : kT "tuple" "tuple" = some true := by kernel_rfl
theorem kT_tuple_dict : kT "tuple" "dict" = some false := by kernel_rfl
theorem kT_dict_str : kT "dict" "str" = some false := by kernel_rfl
theorem kT_dict_int : kT "dict" "int" = some false := by kernel_rfl
theorem kT_dict_bool : kT "dict" "bool" = some false := by kernel_rfl
theorem kT_dict_list : kT "dict" "list" = some false := by kernel_rfl
theorem kT_dict_tuple : kT "dict" "tuple" = some false := by kernel_rfl
theorem kT_dict_dict : kT "dict" "dict" = some true := by kernel_rfl
/-- the type of a plain value -/
def tyS : D → Option String
  | .non => some "NoneType"
  | .bl _ => some "bool"
  | .int _ => some "int"
  | .str _ => some "str"
  | .lst _ => some "list"
  | .tup _ => some "tuple"
  | .dK _ => some "dict"
  | _ => none
def Val (d : D) : Prop := (tyS d).isSome = true
theorem tyS_ok {d : D} {t : String} {G : GH} (h : tyS d = some t) : tyD Cs G d = some (.type t) := by
  cases d <;> simp only [tyS, Option.some.injEq, reduceCtorEq] at h <;> subst h <;> rfl
def is_str : D → Bool
  | .str _ => true
  | _ => false
theorem isi_str {d : D} {G : GH} {Q : KD} (h : Val d) : rIsi' Cs (PySem.W.kitOne K) [d, .ty "str"] G Q = Q (.bl (is_str d)) G := by
  unfold rIsi'
  cases d <;> simp only [Val, tyS, Option.isSome, Bool.false_eq_true] at h <;> simp only [tyD, clD, kit_T, kT_NoneType_str, kT_bool_str, kT_int_str, kT_str_str, kT_list_str, kT_tuple_str, kT_dict_str, is_str]
def is_int : D → Bool
  | .int _ => true
  | .bl _ => true
  | _ => false
theorem isi_int {d : D} {G : GH} {Q : KD} (h : Val d) : rIsi' Cs (PySem.W.kitOne K) [d, .ty "int"] G Q = Q (.bl (is_int d)) G := by
  unfold rIsi'
  cases d <;> simp only [Val, tyS, Option.isSome, Bool.false_eq_true] at h <;> simp only [tyD, clD, kit_T, kT_NoneType_int, kT_bool_int, kT_int_int, kT_str_int, kT_list_int, kT_tuple_int, kT_dict_int, is_int]
def is_bool : D → Bool
  | .bl _ => true
  | _ => false
theorem isi_bool {d : D} {G : GH} {Q : KD} (h : Val d) : rIsi' Cs (PySem.W.kitOne K) [d, .ty "bool"] G Q = Q (.bl (is_bool d)) G := by
  unfold rIsi'
  cases d <;> simp only [Val, tyS, Option.isSome, Bool.false_eq_true] at h <;> simp only [tyD, clD, kit_T, kT_NoneType_bool, kT_bool_bool, kT_int_bool, kT_str_bool, kT_list_bool, kT_tuple_bool, kT_dict_bool, is_bool]
def is_list : D → Bool
  | .lst _ => true
  | _ => false
theorem isi_list {d : D} {G : GH} {Q : KD} (h : Val d) : rIsi' Cs (PySem.W.kitOne K) [d, .ty "list"] G Q = Q (.bl (is_list d)) G := by
  unfold rIsi'
  cases d <;> simp only [Val, tyS, Option.isSome, Bool.false_eq_true] at h <;> simp only [tyD, clD, kit_T, kT_NoneType_list, kT_bool_list, kT_int_list, kT_str_list, kT_list_list, kT_tuple_list, kT_dict_list, is_list]
def is_tuple : D → Bool
  | .tup _ => true
  | _ => false
theorem isi_tuple {d : D} {G : GH} {Q : KD} (h : Val d) : rIsi' Cs (PySem.W.kitOne K) [d, .ty "tuple"] G Q = Q (.bl (is_tuple d)) G := by
  unfold rIsi'
  cases d <;> simp only [Val, tyS, Option.isSome, Bool.false_eq_true] at h <;> simp only [tyD, clD, kit_T, kT_NoneType_tuple, kT_bool_tuple, kT_int_tuple, kT_str_tuple, kT_list_tuple, kT_tuple_tuple, kT_dict_tuple, is_tuple]
def is_dict : D → Bool
  | .dK _ => true
  | _ => false
theorem isi_dict {d : D} {G : GH} {Q : KD} (h : Val d) : rIsi' Cs (PySem.W.kitOne K) [d, .ty "dict"] G Q = Q (.bl (is_dict d)) G := by
  unfold rIsi'
  cases d <;> simp only [Val, tyS, Option.isSome, Bool.false_eq_true] at h <;> simp only [tyD, clD, kit_T, kT_NoneType_dict, kT_bool_dict, kT_int_dict, kT_str_dict, kT_list_dict, kT_tuple_dict, kT_dict_dict, is_dict]
end PL
end
section
namespace WK
open PySem PySem.Spec L2 TL
def N_Graph_has_node : List Str := ["self", "value"]
def ps_Graph_has_node : List Str := ["self", "value"]
abbrev lv_Graph_has_node : Nat := 1
def t_Graph_has_node (Cs : List Addr) (K : PySem.W.Frag) (C_Graph : Addr) : S1 :=
    (sRet (eAnd (eIsi Cs K (aCons (eVar 1) (aCons (eC (.ty "str")) aNil))) (eIn (eVar 1) (eFld C_Graph "own_nodes" (eVar 0)))))
abbrev sp0_Graph_has_node (Cs : List Addr) (K : PySem.W.Frag) (C_Graph : Addr) : SpT := spOf N_Graph_has_node 2 (t_Graph_has_node Cs K C_Graph)
def N_Graph_want_node : List Str := ["self", "value"]
def ps_Graph_want_node : List Str := ["self", "value"]
abbrev lv_Graph_want_node : Nat := 3
def t_Graph_want_node (C_Graph : Addr) (C_NotFound : Addr) (sp_Graph_has_node : SpT) : S1 :=
    (sIf (tNot' (tBl (eMeth C_Graph "has_node" sp_Graph_has_node [] (eVar 0) (aCons (eVar 1) aNil)))) (sRaiseX C_NotFound ["value"] [.any] (aCons (eVar 1) aNil)) sNext)
abbrev sp0_Graph_want_node (C_Graph : Addr) (C_NotFound : Addr) (sp_Graph_has_node : SpT) : SpT := spOf N_Graph_want_node 2 (t_Graph_want_node C_Graph C_NotFound sp_Graph_has_node)
def N_Graph_ordered : List Str := ["self", "nodes", "node"]
def ps_Graph_ordered : List Str := ["self", "nodes"]
abbrev lv_Graph_ordered : Nat := 1
def t_Graph_ordered (C_Graph : Addr) : S1 :=
    (sRet (eLcC (iSeq (eFld C_Graph "own_nodes" (eVar 0))) (.nm 2) (tBl (eIn (eVar 2) (eVar 1))) (eVar 2) [2]))
abbrev sp0_Graph_ordered (C_Graph : Addr) : SpT := spOf N_Graph_ordered 2 (t_Graph_ordered C_Graph)
def N_Graph_precedes : List Str := ["self", "first", "second"]
def ps_Graph_precedes : List Str := ["self", "first", "second"]
abbrev lv_Graph_precedes : Nat := 4
def t_Graph_precedes (C_Graph : Addr) (sp_Graph_want_node : SpT) : S1 :=
    (sSeq (sExpr (eMeth C_Graph "want_node" sp_Graph_want_node [] (eVar 0) (aCons (eVar 1) aNil)))
    (sSeq (sExpr (eMeth C_Graph "want_node" sp_Graph_want_node [] (eVar 0) (aCons (eVar 2) aNil)))
    (sRet (eIn (eVar 2) (eIx (eFld C_Graph "own_after" (eVar 0)) (eVar 1))))))
abbrev sp0_Graph_precedes (C_Graph : Addr) (sp_Graph_want_node : SpT) : SpT := spOf N_Graph_precedes 3 (t_Graph_precedes C_Graph sp_Graph_want_node)
def N_Graph_before : List Str := ["self", "node", "other"]
def ps_Graph_before : List Str := ["self", "node"]
abbrev lv_Graph_before : Nat := 4
def t_Graph_before (C_Graph : Addr) (sp_Graph_want_node : SpT) : S1 :=
    (sSeq (sExpr (eMeth C_Graph "want_node" sp_Graph_want_node [] (eVar 0) (aCons (eVar 1) aNil)))
    (sRet (eLcC (iSeq (eFld C_Graph "own_nodes" (eVar 0))) (.nm 2) (tBl (eIn (eVar 1) (eIx (eFld C_Graph "own_after" (eVar 0)) (eVar 2)))) (eVar 2) [2])))
abbrev sp0_Graph_before (C_Graph : Addr) (sp_Graph_want_node : SpT) : SpT := spOf N_Graph_before 2 (t_Graph_before C_Graph sp_Graph_want_node)
def N_Graph_after : List Str := ["self", "node"]
def ps_Graph_after : List Str := ["self", "node"]
abbrev lv_Graph_after : Nat := 4
def t_Graph_after (C_Graph : Addr) (sp_Graph_want_node sp_Graph_ordered : SpT) : S1 :=
    (sSeq (sExpr (eMeth C_Graph "want_node" sp_Graph_want_node [] (eVar 0) (aCons (eVar 1) aNil)))
    (sRet (eMeth C_Graph "ordered" sp_Graph_ordered [] (eVar 0) (aCons (eIx (eFld C_Graph "own_after" (eVar 0)) (eVar 1)) aNil))))
abbrev sp0_Graph_after (C_Graph : Addr) (sp_Graph_want_node sp_Graph_ordered : SpT) : SpT := spOf N_Graph_after 2 (t_Graph_after C_Graph sp_Graph_want_node sp_Graph_ordered)
end WK
end
section
namespace PL
open PySem PySem.Spec L2 TL WK
local macro_rules | `(tactic| kwd_rel) => `(tactic| simp only [startT, spOf, sSeq, sIf, sSet, sRet, sRetN, sExpr, sNext, sPar, sPutNm, sPut, sAug, sAsg, eC, eVar, aNil, aCons, aOne, eOp, eUn, eB, eAdd, eSub, eMul, eDiv, eMod, ePow, eNeg, eLt, eLe, eGt, eGe, eEq, eNe, eIs, eIsNot, eIn, eNotIn, eIx, eAbs, eMax2, eMin2, eDvm, eLen, eList, eListC, eTuple, eAll, eAny, eSum, tBl, tNot', tAnd', tOr', eAnd, eOr, eNot, eIf, eTup, eLst, eLstC, eCall, eMeth, eMake, eFld, eLm, eLc, eLcC, iSeq, iRng, iRng2', TL.iZip, eSm, eRevS, sFrz, eFrz, sFor, r_add, r_addS, r_addL, r_sub, r_mul, r_div, r_mod, r_pow, r_neg, r_lt, r_le, r_gt, r_ge, r_ixL, r_ixT, r_ixS, r_eqI, atI_0, atI_1, atI_2, b_abs, b_max, b_min, b_dvm, b_lenL, b_lenT, b_lenQ, vIt_str, vIt_lst, vIt_tup, CT_true, true_and, wipeT, List.map, List.length, List.replicate, List.cons_append, List.nil_append, List.append_nil, Nat.zero_le, List.getElem?_cons_zero, List.getElem?_cons_succ, List.getElem?_nil, List.set_cons_zero, List.set_cons_succ, gT, gsT, TgL.len, TL.vQ_tup, TL.vQ_lst, Nat.reduceAdd, Nat.reduceEqDiff, if_true, eSl, oSome, oNone, eIsi, eChain, iEnum', iEnumK, sFldT, eReprO, eCallK, eOEq, eFmt, eFmtR, eJs, eMethK, eReprQ, eInQ, eNotInQ, sRaiseX, eDctPT, eDNewC, eDNewT, gP, List.filterMap_cons, List.filterMap_nil])
variable {Cs : List Addr} {K : PySem.W.Frag} {C cN : Addr}
/-! P21: has_node, want_node, ordered, precedes, before, after. -/
def isNode (ps : List Str) : D → Bool
  | .str s => decide (s ∈ ps)
  | _ => false
theorem isNode_iff {ps : List Str} {d : D} : isNode ps d = true ↔ ∃ s ∈ ps, d = .str s := by
  unfold isNode
  split
  · simp
  · rename_i h
    constructor
    · intro e; cases e
    · rintro ⟨s, _, rfl⟩; exact absurd rfl (h s)
/-- a value that may be asked for -/
def Vok (d : D) : Prop := Val d ∧ ∀ s, d = .str s → PyData.strOk s = true
theorem Vok.str {s : Str} (h : PyData.strOk s = true) : Vok (.str s) := ⟨rfl, fun t e => by cases e; exact h⟩
theorem Vok.nm {s : Str} (h : Nm s) : Vok (.str s) := Vok.str h.ok
def spHas (C : Addr) : SpT := fun ds G Q E => ∃ (ps : List Str) (es : List Ed) (R : Str → List Str) (d : D), ds = [gr C ps es R, d] ∧ (∀ s ∈ ps, Nm s) ∧ Vok d ∧ Q (.bl (isNode ps d)) G
theorem has_ok : ∀ ds G Q E, spHas C ds G Q E → sp0_Graph_has_node Cs K C ds G Q E := by
  rintro ds G Q E ⟨ps, es, R, d, rfl, nm, ⟨hv, ho⟩, k⟩
  refine ⟨rfl, ?_⟩
  unfold t_Graph_has_node N_Graph_has_node
  kwd_rel
  rw [isi_str hv]
  cases d with
  | str s =>
    simp only [is_str, vI_ins, gf1, true_and]
    refine r_inG rfl nofun (by have := ho s rfl; simpa [Pl] using this) (plS nm) ?_
    rw [fb, any_str]
    exact k
  | _ => first | exact k | exact absurd hv (by simp [Val, tyS])
abbrev xN (d : D) : List (Str × D) := [("value", d)]
def spWant (C cN : Addr) : SpT := fun ds G Q E => ∃ (ps : List Str) (es : List Ed) (R : Str → List Str) (d : D), ds = [gr C ps es R, d] ∧ (∀ s ∈ ps, Nm s) ∧ Vok d ∧ (if isNode ps d then Q .non G else E (.ref cN) (xN d) G)
theorem want_ok : ∀ ds G Q E, spWant C cN ds G Q E → sp0_Graph_want_node C cN (spHas C) ds G Q E := by
  rintro ds G Q E ⟨ps, es, R, d, rfl, nm, hv, k⟩
  refine ⟨rfl, ?_⟩
  unfold t_Graph_want_node N_Graph_want_node
  kwd_rel
  simp only [vI_ins, gfn (m := "has_node") (by decide) (by decide) (by decide), true_and]
  refine ⟨ps, es, R, d, rfl, nm, hv, ?_⟩
  cases h : isNode ps d with
  | true => rw [h] at k; simp only [Bool.not_true, Bool.false_eq_true, if_false]; exact k
  | false =>
    rw [h] at k
    simp only [Bool.not_false, if_true]
    exact ⟨by decide, ⟨d, [], rfl, trivial, rfl⟩, k⟩
def spOrd (C : Addr) : SpT := fun ds G Q E => ∃ (ps : List Str) (es : List Ed) (R : Str → List Str) (d : D) (qs : List Str), ds = [gr C ps es R, d] ∧ (∀ s ∈ ps, Nm s) ∧ (∀ s ∈ qs, Nm s) ∧ ps.length ≤ 300 ∧ vQ G d = some (qs.map D.str) ∧ ∀ p, G p = none → Q (.ref p) (gup G p (.lst ((ps.filter (fun s => decide (s ∈ qs))).map D.str)))
def fKeep (f : Str → Bool) : D → Option D
  | .str s => if f s then some (.str s) else none
  | _ => none
theorem fKeep_map (f : Str → Bool) : ∀ ps : List Str, (ps.map D.str).filterMap (fKeep f) = (ps.filter f).map D.str
  | [] => rfl
  | s :: r => by
    rw [List.map_cons, List.filterMap_cons, List.filter_cons]
    cases h : f s with
    | true => simp only [fKeep, h, if_true, List.map_cons, fKeep_map f r]
    | false => simp only [fKeep, h, Bool.false_eq_true, if_false, fKeep_map f r]
theorem ord_ok : ∀ ds G Q E, spOrd C ds G Q E → sp0_Graph_ordered C ds G Q E := by
  rintro ds G Q E ⟨ps, es, R, d, qs, rfl, nm, nq, l, hq, k⟩
  refine ⟨rfl, ?_⟩
  have s0 : sizeLine = 16777216 := rfl
  unfold t_Graph_ordered N_Graph_ordered
  kwd_rel
  simp only [vI_ins, gf1, true_and, vIt_tup]
  refine lc_fm (fKeep fun s => decide (s ∈ qs)) trivial (by simp; omega) (fun x hx => ?_) ?_
  · obtain ⟨s, hs, rfl⟩ := List.mem_map.mp hx
    refine ⟨_, rfl, fun K K2 h => ?_⟩
    kwd_rel
    refine r_inG hq (vQ_ns hq) (by simpa [Pl] using (nm s hs).ok) (plS nq) ?_
    rw [fb, any_str]
    by_cases c : s ∈ qs
    · simp only [fKeep, c, decide_true, if_true] at h ⊢; exact h
    · simp only [fKeep, c, decide_false, Bool.false_eq_true, if_false] at h ⊢; exact h
  · intro p hp
    rw [fKeep_map]
    exact k p hp
/-- every node reaches what R says -/
def RR (ps : List Str) (es : List Ed) (R : Str → List Str) : Prop := ∀ p ∈ ps, Rch es p (R p)
theorem aft_ix {ps : List Str} {R : Str → List Str} {s : Str} {G : GH} {Q : KD} {E : KX} (h : s ∈ ps) : rIxT' (.dK (aft ps R)) (.str s) G Q E = Q (.lst ((R s).map D.str)) G := by
  unfold rIxT'
  simp only [vQ, vK, keyD, aft_some h]
def spPrec (C cN : Addr) : SpT := fun ds G Q E => ∃ (ps : List Str) (es : List Ed) (R : Str → List Str) (a b : D), ds = [gr C ps es R, a, b] ∧ (∀ s ∈ ps, Nm s) ∧ RR ps es R ∧ Vok a ∧ Vok b ∧
  (if isNode ps a then (if isNode ps b then ∀ s t, a = .str s → b = .str t → Q (.bl (decide (t ∈ R s))) G else E (.ref cN) (xN b) G) else E (.ref cN) (xN a) G)
theorem prec_ok : ∀ ds G Q E, spPrec C cN ds G Q E → sp0_Graph_precedes C (spWant C cN) ds G Q E := by
  rintro ds G Q E ⟨ps, es, R, a, b, rfl, nm, rr, va, vb, k⟩
  refine ⟨rfl, ?_⟩
  unfold t_Graph_precedes N_Graph_precedes
  kwd_rel
  simp only [vI_ins, gfn (m := "want_node") (by decide) (by decide) (by decide), true_and]
  refine ⟨ps, es, R, a, rfl, nm, va, ?_⟩
  cases ha : isNode ps a with
  | false => rw [ha] at k; exact k
  | true =>
    rw [ha] at k
    simp only [if_true] at k ⊢
    refine ⟨ps, es, R, b, rfl, nm, vb, ?_⟩
    cases hb : isNode ps b with
    | false => rw [hb] at k; exact k
    | true =>
      rw [hb] at k
      simp only [if_true, gf3, true_and] at k ⊢
      obtain ⟨s, hs, rfl⟩ := isNode_iff.mp ha
      obtain ⟨t, ht, rfl⟩ := isNode_iff.mp hb
      rw [aft_ix hs]
      refine r_inG rfl nofun (by simpa [Pl] using (nm t ht).ok) (plS (rr s hs).nm) ?_
      rw [fb, any_str]
      exact k s t rfl rfl
def spBef (C cN : Addr) : SpT := fun ds G Q E => ∃ (ps : List Str) (es : List Ed) (R : Str → List Str) (a : D), ds = [gr C ps es R, a] ∧ (∀ s ∈ ps, Nm s) ∧ ps.length ≤ 300 ∧ RR ps es R ∧ Vok a ∧
  (if isNode ps a then ∀ s, a = .str s → ∀ p, G p = none → Q (.ref p) (gup G p (.lst ((ps.filter (fun o => decide (s ∈ R o))).map D.str))) else E (.ref cN) (xN a) G)
theorem bef_ok : ∀ ds G Q E, spBef C cN ds G Q E → sp0_Graph_before C (spWant C cN) ds G Q E := by
  rintro ds G Q E ⟨ps, es, R, a, rfl, nm, l, rr, va, k⟩
  refine ⟨rfl, ?_⟩
  unfold t_Graph_before N_Graph_before
  kwd_rel
  simp only [vI_ins, gfn (m := "want_node") (by decide) (by decide) (by decide), true_and]
  refine ⟨ps, es, R, a, rfl, nm, va, ?_⟩
  cases ha : isNode ps a with
  | false => rw [ha] at k; exact k
  | true =>
    rw [ha] at k
    simp only [if_true, gf1, true_and, vIt_tup] at k ⊢
    obtain ⟨s, hs, rfl⟩ := isNode_iff.mp ha
    refine lc_fm (fKeep fun o => decide (s ∈ R o)) trivial (by simp; omega) (fun x hx => ?_) ?_
    · obtain ⟨o, ho, rfl⟩ := List.mem_map.mp hx
      refine ⟨_, rfl, fun K K2 h => ?_⟩
      kwd_rel
      simp only [vI_ins, gf3, true_and]
      rw [aft_ix ho]
      refine r_inG rfl nofun (by simpa [Pl] using (nm s hs).ok) (plS (rr o ho).nm) ?_
      rw [fb, any_str]
      by_cases c : s ∈ R o
      · simp only [fKeep, c, decide_true, if_true] at h ⊢; exact h
      · simp only [fKeep, c, decide_false, Bool.false_eq_true, if_false] at h ⊢; exact h
    · intro p hp
      rw [fKeep_map]
      exact k s rfl p hp
def spAft (C cN : Addr) : SpT := fun ds G Q E => ∃ (ps : List Str) (es : List Ed) (R : Str → List Str) (a : D), ds = [gr C ps es R, a] ∧ (∀ s ∈ ps, Nm s) ∧ ps.length ≤ 300 ∧ RR ps es R ∧ Vok a ∧
  (if isNode ps a then ∀ s, a = .str s → ∀ p, G p = none → Q (.ref p) (gup G p (.lst ((ps.filter (fun o => decide (o ∈ R s))).map D.str))) else E (.ref cN) (xN a) G)
theorem aft_ok : ∀ ds G Q E, spAft C cN ds G Q E → sp0_Graph_after C (spWant C cN) (spOrd C) ds G Q E := by
  rintro ds G Q E ⟨ps, es, R, a, rfl, nm, l, rr, va, k⟩
  refine ⟨rfl, ?_⟩
  unfold t_Graph_after N_Graph_after
  kwd_rel
  simp only [vI_ins, gfn (m := "want_node") (by decide) (by decide) (by decide), gfn (m := "ordered") (by decide) (by decide) (by decide), true_and]
  refine ⟨ps, es, R, a, rfl, nm, va, ?_⟩
  cases ha : isNode ps a with
  | false => rw [ha] at k; exact k
  | true =>
    rw [ha] at k
    simp only [if_true, gf3, true_and] at k ⊢
    obtain ⟨s, hs, rfl⟩ := isNode_iff.mp ha
    rw [aft_ix hs]
    exact ⟨ps, es, R, .lst ((R s).map D.str), R s, rfl, nm, (rr s hs).nm, l, rfl, fun p hp => k s rfl p hp⟩

end PL
end
section
namespace PL
open PySem PySem.Spec L2 TL WK
local macro_rules | `(tactic| kwd_rel) => `(tactic| simp only [startT, spOf, sSeq, sIf, sSet, sRet, sRetN, sExpr, sNext, sPar, sPutNm, sPut, sAug, sAsg, eC, eVar, aNil, aCons, aOne, eOp, eUn, eB, eAdd, eSub, eMul, eDiv, eMod, ePow, eNeg, eLt, eLe, eGt, eGe, eEq, eNe, eIs, eIsNot, eIn, eNotIn, eIx, eAbs, eMax2, eMin2, eDvm, eLen, eList, eListC, eTuple, eAll, eAny, eSum, tBl, tNot', tAnd', tOr', eAnd, eOr, eNot, eIf, eTup, eLst, eLstC, eCall, eMeth, eMake, eFld, eLm, eLc, eLcC, iSeq, iRng, iRng2', TL.iZip, eSm, eRevS, sFrz, eFrz, sFor, r_add, r_addS, r_addL, r_sub, r_mul, r_div, r_mod, r_pow, r_neg, r_lt, r_le, r_gt, r_ge, r_ixL, r_ixT, r_ixS, r_eqI, atI_0, atI_1, atI_2, b_abs, b_max, b_min, b_dvm, b_lenL, b_lenT, b_lenQ, vIt_str, vIt_lst, vIt_tup, CT_true, true_and, wipeT, List.map, List.length, List.replicate, List.cons_append, List.nil_append, List.append_nil, Nat.zero_le, List.getElem?_cons_zero, List.getElem?_cons_succ, List.getElem?_nil, List.set_cons_zero, List.set_cons_succ, gT, gsT, TgL.len, TL.vQ_tup, TL.vQ_lst, Nat.reduceAdd, Nat.reduceEqDiff, if_true, eSl, oSome, oNone, eIsi, eChain, iEnum', iEnumK, sFldT, eReprO, eCallK, eOEq, eFmt, eFmtR, eJs, eMethK, eReprQ, eInQ, eNotInQ, sRaiseX, eDctPT, eDNewC, eDNewT, eRepr, sPar3, rUpper, sRaiseE, gP, List.filterMap_cons, List.filterMap_nil])
/-! PP: paths. -/
inductive Pth (es : List Ed) : Str → Str → Prop
  | refl (x : Str) : Pth es x x
  | step {x y z : Str} : Pth es x y → (y, z) ∈ es → Pth es x z
theorem Rch.iff {es : List Ed} {s : Str} {rs : List Str} (r : Rch es s rs) (t : Str) : t ∈ rs ↔ Pth es s t := by
  constructor
  · intro h
    exact r.mn (fun x => Pth es s x) (.refl s) (fun e he p => .step p he) t h
  · intro h
    induction h with
    | refl => exact r.st
    | step _ he ih => exact r.cl _ he ih
theorem Pth.trans {es : List Ed} {x y z : Str} (h : Pth es x y) (g : Pth es y z) : Pth es x z := by
  induction g with
  | refl => exact h
  | step _ he ih => exact .step ih he
theorem Pth.back {es : List Ed} {x z : Str} {P : Str → Prop} (h : Pth es x z) (hz : P z) (c : ∀ e ∈ es, P e.2 → P e.1) : P x := by
  induction h with
  | refl => exact hz
  | step _ he ih => exact ih (c _ he hz)
end PL
end
section
namespace PL
open PySem PySem.Spec L2 TL WK
local macro_rules | `(tactic| kwd_rel) => `(tactic| simp only [startT, spOf, sSeq, sIf, sSet, sRet, sRetN, sExpr, sNext, sPar, sPutNm, sPut, sAug, sAsg, eC, eVar, aNil, aCons, aOne, eOp, eUn, eB, eAdd, eSub, eMul, eDiv, eMod, ePow, eNeg, eLt, eLe, eGt, eGe, eEq, eNe, eIs, eIsNot, eIn, eNotIn, eIx, eAbs, eMax2, eMin2, eDvm, eLen, eList, eListC, eTuple, eAll, eAny, eSum, tBl, tNot', tAnd', tOr', eAnd, eOr, eNot, eIf, eTup, eLst, eLstC, eCall, eMeth, eMake, eFld, eLm, eLc, eLcC, iSeq, iRng, iRng2', TL.iZip, eSm, eRevS, sFrz, eFrz, sFor, r_add, r_addS, r_addL, r_sub, r_mul, r_div, r_mod, r_pow, r_neg, r_lt, r_le, r_gt, r_ge, r_ixL, r_ixT, r_ixS, r_eqI, atI_0, atI_1, atI_2, b_abs, b_max, b_min, b_dvm, b_lenL, b_lenT, b_lenQ, vIt_str, vIt_lst, vIt_tup, CT_true, true_and, wipeT, List.map, List.length, List.replicate, List.cons_append, List.nil_append, List.append_nil, Nat.zero_le, List.getElem?_cons_zero, List.getElem?_cons_succ, List.getElem?_nil, List.set_cons_zero, List.set_cons_succ, gT, gsT, TgL.len, TL.vQ_tup, TL.vQ_lst, Nat.reduceAdd, Nat.reduceEqDiff, if_true, eSl, oSome, oNone, eIsi, eChain, iEnum', iEnumK, sFldT, eReprO, eCallK, eOEq, eFmt, eFmtR, eJs, eMethK, eReprQ, eInQ, eNotInQ, sRaiseX, eDctPT, eDNewC, eDNewT, eRepr, sPar3, rUpper, gP, List.filterMap_cons, List.filterMap_nil])
/-! PO: what repr tells is a text of code points. -/
def okc (s : Str) : Prop := ∀ c ∈ cl s, c < 0x110000
theorem okc_app {s t : Str} (h : okc s) (g : okc t) : okc (s ++ t) := fun c hc => by
  rw [cl_app] at hc
  exact (List.mem_append.mp hc).elim (h c) (g c)
theorem chr_lt (a : Char) : a.toNat < 0x110000 := by
  have h : a.val.toNat < 0xd800 ∨ 0xdfff < a.val.toNat ∧ a.val.toNat < 0x110000 := a.valid
  show a.val.toNat < _
  omega
theorem okc_ofs (s : String) : okc (Str.ofString s) := fun c hc => by
  rw [Str.ofString_eq_toList] at hc
  have hc : c ∈ s.toList.map Char.toNat := by simpa [cl] using hc
  obtain ⟨a, _, rfl⟩ := List.mem_map.mp hc
  exact chr_lt a
theorem okc_chr {q c : Nat} (hc : c < 0x110000) : ∀ x ∈ PySem.Builtin.Str.reprChar q c, x < 0x110000 := by
  have hx : ∀ w, ∀ x ∈ List.replicate (w - ((Nat.toDigits 16 c).map Char.toNat).length) 48 ++ (Nat.toDigits 16 c).map Char.toNat, x < 0x110000 := fun w x hx => by
    rcases List.mem_append.mp hx with hx | hx
    · rw [(List.mem_replicate.mp hx).2]; decide
    · obtain ⟨a, _, rfl⟩ := List.mem_map.mp hx
      exact chr_lt a
  have h2 : ∀ a b w, a < 0x110000 → b < 0x110000 → ∀ x ∈ [a, b] ++ (List.replicate (w - ((Nat.toDigits 16 c).map Char.toNat).length) 48 ++ (Nat.toDigits 16 c).map Char.toNat), x < 0x110000 := fun a b w ha hb x hm => by
    rcases List.mem_append.mp hm with hm | hm
    · simp only [List.mem_cons, List.not_mem_nil, or_false] at hm
      rcases hm with rfl | rfl <;> assumption
    · exact hx w x hm
  have h3 : ∀ a b, a < 0x110000 → b < 0x110000 → ∀ x ∈ [a, b], x < 0x110000 := fun a b ha hb x hm => by
    simp only [List.mem_cons, List.not_mem_nil, or_false] at hm
    rcases hm with rfl | rfl <;> assumption
  intro x hm
  unfold PySem.Builtin.Str.reprChar at hm
  dsimp only at hm
  split at hm
  · exact h3 _ _ (by decide) hc x hm
  · split at hm
    · exact h3 _ _ (by decide) (by decide) x hm
    · split at hm
      · exact h3 _ _ (by decide) (by decide) x hm
      · split at hm
        · exact h3 _ _ (by decide) (by decide) x hm
        · split at hm
          · rw [List.mem_singleton.mp hm]; exact hc
          · split at hm
            · exact h2 _ _ _ (by decide) (by decide) x hm
            · split at hm
              · exact h2 _ _ _ (by decide) (by decide) x hm
              · exact h2 _ _ _ (by decide) (by decide) x hm
theorem okc_fold {q : Nat} : ∀ (l : List Nat) (acc : Array Nat), (∀ c ∈ acc.toList, c < 0x110000) → (∀ c ∈ l, c < 0x110000) → ∀ c ∈ (l.foldl (fun out c => out ++ (PySem.Builtin.Str.reprChar q c).toArray) acc).toList, c < 0x110000
  | [], acc, h, _ => h
  | a :: r, acc, h, g => by
    rw [List.foldl_cons]
    refine okc_fold r _ (fun c hc => ?_) fun c hc => g c (List.mem_cons_of_mem _ hc)
    rw [Array.toList_append] at hc
    rcases List.mem_append.mp hc with hc | hc
    · exact h c hc
    · exact okc_chr (g a List.mem_cons_self) c hc
theorem okc_repr {s : Str} (h : okc s) : okc (reprText s) := fun c hc => by
  have q : reprQuote s < 0x110000 := by unfold reprQuote; split <;> decide
  have hc : c ∈ ((s.cps.foldl (fun out c => out ++ (PySem.Builtin.Str.reprChar (reprQuote s) c).toArray) #[reprQuote s]).push (reprQuote s)).toList := hc
  rw [Array.toList_push, ← Array.foldl_toList] at hc
  rcases List.mem_append.mp hc with hc | hc
  · exact okc_fold s.cps.toList #[reprQuote s] (fun c hc => by simp at hc; rw [hc]; exact q) h c hc
  · rw [List.mem_singleton.mp hc]; exact q
theorem okc_from : ∀ (ts : List Str) (k : Nat) (acc : Str), okc acc → (∀ t ∈ ts, okc t) → okc (textFrom k acc ts)
  | [], _, _, h, _ => h
  | t :: r, k, acc, h, g => by
    unfold textFrom
    refine okc_from r (k + 1) _ (okc_app (okc_app h (okc_ofs _)) (g t List.mem_cons_self)) fun x hx => g x (List.mem_cons_of_mem _ hx)
theorem okc_joinG : ∀ (ts : List Str) (d : Str), okc d → (∀ t ∈ ts, okc t) → okc (Str.join d ts)
  | [], d, _, _ => fun c hc => by simp [Str.join, cl, Str.empty] at hc
  | [t], d, _, g => g t List.mem_cons_self
  | t :: u :: r, d, hd, g => by
    show okc (t ++ d ++ Str.join d (u :: r))
    exact okc_app (okc_app (g t List.mem_cons_self) hd) (okc_joinG (u :: r) d hd fun x hx => g x (List.mem_cons_of_mem _ hx))
mutual
/-- its texts are texts of code points -/
def lvO : PyData → Prop
  | .none | .bool _ | .int _ => True
  | .str s => okc s
  | .list xs | .tuple xs => lvOs xs
  | .dict ks => lvOk ks
def lvOs : List PyData → Prop
  | [] => True
  | x :: r => lvO x ∧ lvOs r
def lvOk : List (PyData × PyData) → Prop
  | [] => True
  | (k, v) :: r => lvO k ∧ lvO v ∧ lvOk r
end
mutual
theorem okc_shown : ∀ d : PyData, lvO d → okc d.shown
  | .none, _ => okc_ofs _
  | .bool b, _ => by cases b <;> exact okc_ofs _
  | .int i, _ => okc_ofs _
  | .str s, h => by
    unfold lvO at h
    exact okc_repr h
  | .list xs, h => by
    unfold lvO at h
    exact okc_app (okc_from _ 0 _ (okc_ofs _) (okc_shownL xs h)) (okc_ofs _)
  | .tuple xs, h => by
    unfold lvO at h
    exact okc_app (okc_app (okc_ofs _) (okc_joinG _ _ (okc_ofs _) (okc_shownL xs h))) (okc_ofs _)
  | .dict ks, h => by
    unfold lvO at h
    exact okc_app (okc_app (okc_ofs _) (okc_joinG _ _ (okc_ofs _) (okc_shownK ks h))) (okc_ofs _)
theorem okc_shownL : ∀ xs : List PyData, lvOs xs → ∀ t ∈ PyData.shownAll xs, okc t
  | [], _, t, ht => by simp [PyData.shownAll] at ht
  | x :: r, h, t, ht => by
    unfold lvOs at h
    rw [PyData.shownAll] at ht
    rcases List.mem_cons.mp ht with rfl | ht
    · exact okc_shown x h.1
    · exact okc_shownL r h.2 t ht
theorem okc_shownK : ∀ xs : List (PyData × PyData), lvOk xs → ∀ t ∈ PyData.shownKv xs, okc t
  | [], _, t, ht => by simp [PyData.shownKv] at ht
  | (k, v) :: r, h, t, ht => by
    unfold lvOk at h
    rw [PyData.shownKv] at ht
    rcases List.mem_cons.mp ht with rfl | ht
    · exact okc_app (okc_app (okc_shown k h.1) (okc_ofs _)) (okc_shown v h.2.1)
    · exact okc_shownK r h.2.2 t ht
end
theorem okc_strOk {s : Str} (h : okc s) : PyData.strOk s = true := strOk_of h
theorem strOk_okc {s : Str} (h : PyData.strOk s = true) : okc s := fun c hc => by
  have := Array.all_eq_true_iff_forall_mem.mp (show s.cps.all (· < 0x110000) = true from h) c (Array.mem_toList_iff.mp hc)
  simpa using this

end PL
end
section
namespace PL
open PySem PySem.Spec L2 TL WK
local macro_rules | `(tactic| kwd_rel) => `(tactic| simp only [startT, spOf, sSeq, sIf, sSet, sRet, sRetN, sExpr, sNext, sPar, sPutNm, sPut, sAug, sAsg, eC, eVar, aNil, aCons, aOne, eOp, eUn, eB, eAdd, eSub, eMul, eDiv, eMod, ePow, eNeg, eLt, eLe, eGt, eGe, eEq, eNe, eIs, eIsNot, eIn, eNotIn, eIx, eAbs, eMax2, eMin2, eDvm, eLen, eList, eListC, eTuple, eAll, eAny, eSum, tBl, tNot', tAnd', tOr', eAnd, eOr, eNot, eIf, eTup, eLst, eLstC, eCall, eMeth, eMake, eFld, eLm, eLc, eLcC, iSeq, iRng, iRng2', TL.iZip, eSm, eRevS, sFrz, eFrz, sFor, r_add, r_addS, r_addL, r_sub, r_mul, r_div, r_mod, r_pow, r_neg, r_lt, r_le, r_gt, r_ge, r_ixL, r_ixT, r_ixS, r_eqI, atI_0, atI_1, atI_2, b_abs, b_max, b_min, b_dvm, b_lenL, b_lenT, b_lenQ, vIt_str, vIt_lst, vIt_tup, CT_true, true_and, wipeT, List.map, List.length, List.replicate, List.cons_append, List.nil_append, List.append_nil, Nat.zero_le, List.getElem?_cons_zero, List.getElem?_cons_succ, List.getElem?_nil, List.set_cons_zero, List.set_cons_succ, gT, gsT, TgL.len, TL.vQ_tup, TL.vQ_lst, Nat.reduceAdd, Nat.reduceEqDiff, if_true, eSl, oSome, oNone, eIsi, eChain, iEnum', iEnumK, sFldT, eReprO, eCallK, eOEq, eFmt, eFmtR, eJs, eMethK, eReprQ, eInQ, eNotInQ, sRaiseX, eDctPT, eDNewC, eDNewT, eRepr, sPar3, rUpper, sRaiseE, eMakeK, eAEq, eEqD, eNeD, eLenO, eSetC, eLenS, eDisp, eScC, gP, List.filterMap_cons, List.filterMap_nil])
/-! P40: texts cut at a sign. -/
def cutL (c : Nat) : List Nat → List (List Nat)
  | [] => [[]]
  | x :: r => if x = c then [] :: cutL c r else match cutL c r with
    | h :: t => (x :: h) :: t
    | [] => [[x]]
theorem cutL_ne (c : Nat) : ∀ w, cutL c w ≠ []
  | [] => by simp [cutL]
  | x :: r => by
    unfold cutL
    split
    · simp
    · split <;> simp
theorem cutL_hit {c : Nat} {r : List Nat} : cutL c (c :: r) = [] :: cutL c r := by rw [cutL, if_pos rfl]
theorem cutL_miss {c x : Nat} {r h : List Nat} {t : List (List Nat)} (n : x ≠ c) (e : cutL c r = h :: t) : cutL c (x :: r) = (x :: h) :: t := by rw [cutL, if_neg n, e]
theorem cutL_cases (c : Nat) (w : List Nat) : ∃ h t, cutL c w = h :: t := by
  cases e : cutL c w with
  | nil => exact absurd e (cutL_ne c w)
  | cons h t => exact ⟨h, t, rfl⟩
theorem spl_cut (c : Nat) : ∀ (w acc : List Nat) {h : List Nat} {t : List (List Nat)}, cutL c w = h :: t → TL.spl [c] 0 acc w = (acc ++ h) :: t
  | [], acc, h, t, e => by
    simp [cutL] at e
    obtain ⟨rfl, rfl⟩ := e
    simp [TL.spl]
  | x :: r, acc, h, t, e => by
    by_cases n : x = c
    · subst n
      rw [cutL_hit] at e
      obtain ⟨rfl, rfl⟩ := List.cons.inj e
      rw [TL.spl_hit (by simp [TL.pre])]
      obtain ⟨h2, t2, e2⟩ := cutL_cases x r
      rw [show [x].length - 1 = 0 from rfl, spl_cut x r [] e2, e2]
      simp
    · obtain ⟨h2, t2, e2⟩ := cutL_cases c r
      rw [cutL_miss n e2] at e
      obtain ⟨rfl, rfl⟩ := List.cons.inj e
      rw [TL.spl_miss (by simp [TL.pre, n]), spl_cut c r _ e2]
      simp
abbrev sS (l : List Nat) : Str := ⟨l.toArray⟩
theorem cl_sS (l : List Nat) : cl (sS l) = l := by simp [cl]
theorem sS_cl (s : Str) : sS (cl s) = s := cl_ext (cl_sS _)
/-- the parts of a text -/
def parts (c : Nat) (w : Str) : List Str := (cutL c (cl w)).map sS
theorem split_parts {c : Nat} {w y : Str} (ey : y = one c) (hc : c < 256) : Txt.split w y = parts c w := by
  subst ey
  have h := SX.split_S (a := cl w) (b := [c]) (by simp) (by simpa using hc)
  obtain ⟨h2, t2, e2⟩ := cutL_cases c (cl w)
  rw [spl_cut c (cl w) [] e2] at h
  have e : Txt.split (sS (cl w)) (sS [c]) = Txt.split w (one c) := by rw [sS_cl]; rfl
  unfold parts
  rw [e2, ← e]
  simpa using h
theorem cut_sep {c : Nat} : ∀ {w : List Nat}, ∀ p ∈ cutL c w, c ∉ p
  | [], p, hp => by simp [cutL] at hp; subst hp; simp
  | x :: r, p, hp => by
    by_cases n : x = c
    · subst n
      rw [cutL_hit] at hp
      rcases List.mem_cons.mp hp with rfl | hp
      · simp
      · exact cut_sep p hp
    · obtain ⟨h2, t2, e2⟩ := cutL_cases c r
      rw [cutL_miss n e2] at hp
      rcases List.mem_cons.mp hp with rfl | hp
      · have := cut_sep (c := c) (w := r) h2 (by rw [e2]; exact List.mem_cons_self)
        intro hm
        rcases List.mem_cons.mp hm with e | hm
        · exact n e.symm
        · exact this hm
      · exact cut_sep (w := r) p (by rw [e2]; exact List.mem_cons_of_mem _ hp)
theorem cut_len {c : Nat} : ∀ {w : List Nat}, (cutL c w).length = w.count c + 1
  | [] => by simp [cutL]
  | x :: r => by
    by_cases n : x = c
    · subst n
      rw [cutL_hit, List.length_cons, cut_len, List.count_cons_self]
    · obtain ⟨h2, t2, e2⟩ := cutL_cases c r
      have := cut_len (c := c) (w := r)
      rw [e2] at this
      rw [cutL_miss n e2, List.count_cons_of_ne (by simpa using n), List.length_cons, ← this]
      rfl
def joinL (c : Nat) : List (List Nat) → List Nat
  | [] => []
  | [a] => a
  | a :: b :: r => a ++ c :: joinL c (b :: r)
theorem cut_join {c : Nat} : ∀ {w : List Nat}, joinL c (cutL c w) = w
  | [] => by simp [cutL, joinL]
  | x :: r => by
    obtain ⟨h2, t2, e2⟩ := cutL_cases c r
    have ih := cut_join (c := c) (w := r)
    by_cases n : x = c
    · subst n
      rw [cutL_hit, e2, joinL, ← e2, ih]; rfl
    · rw [cutL_miss n e2]
      rw [e2] at ih
      rw [← ih]
      cases t2 with
      | nil => rfl
      | cons a b => rfl
theorem join_cl (c : Nat) : ∀ ls : List Str, cl (Str.join (one c) ls) = joinL c (ls.map cl)
  | [] => rfl
  | [a] => rfl
  | a :: b :: r => by
    show cl (a ++ one c ++ Str.join (one c) (b :: r)) = _
    rw [cl_app, cl_app, join_cl c (b :: r)]
    simp [joinL, one, cl]
theorem parts_cl {c : Nat} {w : Str} : (parts c w).map cl = cutL c (cl w) := by
  unfold parts
  rw [List.map_map]
  have : (cl ∘ sS) = id := by funext l; exact cl_sS l
  rw [this, List.map_id]
theorem parts_join {c : Nat} {w : Str} : Str.join (one c) (parts c w) = w := cl_ext (by rw [join_cl, parts_cl, cut_join])
theorem join_count {c : Nat} : ∀ {ls : List (List Nat)}, (∀ l ∈ ls, c ∉ l) → (joinL c ls).count c ≤ ls.length - 1
  | [], _ => by simp [joinL]
  | [a], h => by simp [joinL, List.count_eq_zero.mpr (h a List.mem_cons_self)]
  | a :: b :: r, h => by
    have := join_count (ls := b :: r) fun l hl => h l (List.mem_cons_of_mem _ hl)
    rw [joinL, List.count_append, List.count_cons_self, List.count_eq_zero.mpr (h a List.mem_cons_self)]
    simp at this ⊢
    omega
theorem join_countO {c d : Nat} (n : d ≠ c) : ∀ {ls : List (List Nat)}, (joinL c ls).count d = (ls.map (·.count d)).sum
  | [] => by simp [joinL]
  | [a] => by simp [joinL]
  | a :: b :: r => by
    rw [joinL, List.count_append, List.count_cons_of_ne (by simpa using n.symm), join_countO n (ls := b :: r)]
    simp
theorem join_length {c : Nat} : ∀ {ls : List (List Nat)}, (joinL c ls).length = (ls.map (·.length)).sum + (ls.length - 1)
  | [] => by simp [joinL]
  | [a] => by simp [joinL]
  | a :: b :: r => by
    rw [joinL, List.length_append, List.length_cons, join_length (ls := b :: r)]
    simp
    omega
theorem join_mem {c : Nat} : ∀ {ls : List (List Nat)} {x : Nat}, x ∈ joinL c ls → x = c ∨ ∃ l ∈ ls, x ∈ l
  | [], x, h => by simp [joinL] at h
  | [a], x, h => .inr ⟨a, List.mem_cons_self, h⟩
  | a :: b :: r, x, h => by
    rw [joinL] at h
    rcases List.mem_append.mp h with h | h
    · exact .inr ⟨a, List.mem_cons_self, h⟩
    · rcases List.mem_cons.mp h with h | h
      · exact .inl h
      · rcases join_mem h with h | ⟨l, hl, h⟩
        · exact .inl h
        · exact .inr ⟨l, List.mem_cons_of_mem _ hl, h⟩
theorem parts_len {c : Nat} {w : Str} : (parts c w).length = (cl w).count c + 1 := by unfold parts; rw [List.length_map, cut_len]
theorem parts_ne {c : Nat} {w : Str} : parts c w ≠ [] := fun h => by
  have := parts_len (c := c) (w := w)
  rw [h] at this
  simp at this
theorem parts_no {c : Nat} {w : Str} : ∀ p ∈ parts c w, c ∉ cl p := fun p hp => by
  obtain ⟨l, hl, rfl⟩ := List.mem_map.mp hp
  rw [cl_sS]
  exact cut_sep l hl
theorem mem_joinL {c : Nat} : ∀ {ls : List (List Nat)} {l : List Nat}, l ∈ ls → ∀ x ∈ l, x ∈ joinL c ls
  | [a], l, h, x, hx => by rw [List.mem_singleton.mp h] at hx; exact hx
  | a :: b :: r, l, h, x, hx => by
    rw [joinL]
    rcases List.mem_cons.mp h with rfl | h
    · exact List.mem_append_left _ hx
    · exact List.mem_append_right _ (List.mem_cons_of_mem _ (mem_joinL h x hx))
theorem parts_mem {c : Nat} {w p : Str} (hp : p ∈ parts c w) : ∀ x ∈ cl p, x ∈ cl w := fun x hx => by
  obtain ⟨l, hl, rfl⟩ := List.mem_map.mp hp
  rw [cl_sS] at hx
  have := mem_joinL (c := c) hl x hx
  rwa [cut_join] at this
theorem parts_okc {c : Nat} {w p : Str} (h : okc w) (hp : p ∈ parts c w) : okc p := fun x hx => h x (parts_mem hp x hx)
theorem le_sum {ls : List Nat} {x : Nat} (h : x ∈ ls) : x ≤ ls.sum := by
  induction ls with
  | nil => cases h
  | cons a r ih =>
    rw [List.sum_cons]
    rcases List.mem_cons.mp h with rfl | h
    · omega
    · have := ih h; omega
theorem parts_short {c : Nat} {w p : Str} (hp : p ∈ parts c w) : p.length ≤ w.length := by
  obtain ⟨l, hl, rfl⟩ := List.mem_map.mp hp
  have h := join_length (c := c) (ls := cutL c (cl w))
  rw [cut_join] at h
  have := le_sum (List.mem_map.mpr ⟨l, hl, rfl⟩ : l.length ∈ (cutL c (cl w)).map (·.length))
  rw [← cl_len, ← cl_len, cl_sS]
  omega
theorem parts_count {c d : Nat} {w p : Str} (n : d ≠ c) (hp : p ∈ parts c w) : (cl p).count d ≤ (cl w).count d := by
  obtain ⟨l, hl, rfl⟩ := List.mem_map.mp hp
  have h := join_countO (c := c) n (ls := cutL c (cl w))
  rw [cut_join] at h
  have := le_sum (List.mem_map.mpr ⟨l, hl, rfl⟩ : l.count d ∈ (cutL c (cl w)).map (·.count d))
  rw [cl_sS]
  omega
/-- a text put together from parts without the sign is cut there -/
theorem parts_of {c : Nat} (hc : c < 256) {w : Str} {ps : List Str} (hne : ps ≠ []) (hp : ∀ p ∈ ps, c ∉ cl p) (e : w = Str.join (one c) ps) : parts c w = ps := by
  rw [← split_parts rfl hc]
  exact split_back (s := c) rfl hc hne hp e

end PL
end
section
namespace PL
open PySem PySem.Spec L2 TL WK
local macro_rules | `(tactic| kwd_rel) => `(tactic| simp only [startT, spOf, sSeq, sIf, sSet, sRet, sRetN, sExpr, sNext, sPar, sPutNm, sPut, sAug, sAsg, eC, eVar, aNil, aCons, aOne, eOp, eUn, eB, eAdd, eSub, eMul, eDiv, eMod, ePow, eNeg, eLt, eLe, eGt, eGe, eEq, eNe, eIs, eIsNot, eIn, eNotIn, eIx, eAbs, eMax2, eMin2, eDvm, eLen, eList, eListC, eTuple, eAll, eAny, eSum, tBl, tNot', tAnd', tOr', eAnd, eOr, eNot, eIf, eTup, eLst, eLstC, eCall, eMeth, eMake, eFld, eLm, eLc, eLcC, iSeq, iRng, iRng2', TL.iZip, eSm, eRevS, sFrz, eFrz, sFor, r_add, r_addS, r_addL, r_sub, r_mul, r_div, r_mod, r_pow, r_neg, r_lt, r_le, r_gt, r_ge, r_ixL, r_ixT, r_ixS, r_eqI, atI_0, atI_1, atI_2, b_abs, b_max, b_min, b_dvm, b_lenL, b_lenT, b_lenQ, vIt_str, vIt_lst, vIt_tup, CT_true, true_and, wipeT, List.map, List.length, List.replicate, List.cons_append, List.nil_append, List.append_nil, Nat.zero_le, List.getElem?_cons_zero, List.getElem?_cons_succ, List.getElem?_nil, List.set_cons_zero, List.set_cons_succ, gT, gsT, TgL.len, TL.vQ_tup, TL.vQ_lst, Nat.reduceAdd, Nat.reduceEqDiff, if_true, eSl, oSome, oNone, eIsi, eChain, iEnum', iEnumK, sFldT, eReprO, eCallK, eOEq, eFmt, eFmtR, eJs, eMethK, eReprQ, eInQ, eNotInQ, sRaiseX, eDctPT, eDNewC, eDNewT, eRepr, sPar3, rUpper, sRaiseE, eMakeK, eAEq, eEqD, eNeD, eLenO, eSetC, eLenS, eDisp, eScC, gP, List.filterMap_cons, List.filterMap_nil])
/-! P41: which lines fit: the state, a line, a run of lines. -/
/-- a graph under way -/
structure Gs (ps : List Str) (es : List Ed) : Prop where
  nd : ps.Nodup
  nm : ∀ s ∈ ps, Nm s
  l16 : ps.length ≤ 16
  ein : ∀ e ∈ es, e.1 ∈ ps ∧ e.2 ∈ ps
  en : es.Nodup
  rk : ∃ r : Str → Nat, ∀ e ∈ es, r e.1 < r e.2
theorem Gs.gd {ps : List Str} {es : List Ed} (g : Gs ps es) (h : ps ≠ []) : Gd ps es := ⟨g.nd, g.nm, List.length_pos_iff.mpr h, g.l16, g.ein, g.en, g.rk⟩
theorem Gd.gs {ps : List Str} {es : List Ed} (g : Gd ps es) : Gs ps es := ⟨g.nd, g.nm, g.l16, g.ein, g.en, g.rk⟩
theorem Gs.nil : Gs [] [] := ⟨List.nodup_nil, (fun s h => by cases h), by simp, (fun e h => by cases h), List.nodup_nil, ⟨fun _ => 0, (fun e h => by cases h)⟩⟩
theorem Gs.enm {ps : List Str} {es : List Ed} (g : Gs ps es) : ∀ e ∈ es, Nm e.1 ∧ Nm e.2 := fun e he => ⟨g.nm _ (g.ein e he).1, g.nm _ (g.ein e he).2⟩
theorem Gs.le {ps : List Str} {es : List Ed} (g : Gs ps es) : es.length ≤ 256 := by
  by_cases h : ps = []
  · have : es = [] := List.eq_nil_iff_forall_not_mem.mpr fun e he => by
      have := (g.ein e he).1
      rw [h] at this; cases this
    rw [this]; simp
  · exact (g.gd h).le
theorem Gs.pre {ps : List Str} {es fs : List Ed} (g : Gs ps (es ++ fs)) : Gs ps es := ⟨g.nd, g.nm, g.l16, fun e he => g.ein e (List.mem_append_left _ he), (List.nodup_append.mp g.en).1, by
  obtain ⟨r, h⟩ := g.rk
  exact ⟨r, fun e he => h e (List.mem_append_left _ he)⟩⟩
theorem Pth.rank {es : List Ed} {r : Str → Nat} (h : ∀ e ∈ es, r e.1 < r e.2) {x y : Str} (p : Pth es x y) : r x ≤ r y := by
  induction p with
  | refl => exact Nat.le_refl _
  | step _ he ih => exact Nat.le_trans ih (Nat.le_of_lt (h _ he))
/-- an edge that fits -/
def okE (xs : List Str) (ps : List Str) (es : List Ed) : Prop := ∃ a b, xs = [a, b] ∧ a ∈ ps ∧ b ∈ ps ∧ a ≠ b ∧ (a, b) ∉ es ∧ ¬ Pth es b a
theorem Gs.edge {ps : List Str} {es : List Ed} {a b : Str} (g : Gs ps es) (h : okE [a, b] ps es) : Gs ps (es ++ [(a, b)]) := by
  obtain ⟨a', b', e, ha, hb, hne, hni, hp⟩ := h
  cases e
  refine ⟨g.nd, g.nm, g.l16, fun e he => ?_, ?_, ?_⟩
  · rcases List.mem_append.mp he with he | he
    · exact g.ein e he
    · rw [List.mem_singleton.mp he]; exact ⟨ha, hb⟩
  · rw [List.nodup_append]
    refine ⟨g.en, by simp, fun x hx y hy q => ?_⟩
    rw [List.mem_singleton.mp hy] at q
    exact hni (q ▸ hx)
  · obtain ⟨r, hr⟩ := g.rk
    classical
    refine ⟨fun x => if Pth es b x then r x + r a + 1 else r x, fun e he => ?_⟩
    dsimp only
    rcases List.mem_append.mp he with he | he
    · have := hr e he
      by_cases c : Pth es b e.1
      · have c2 : Pth es b e.2 := .step c he
        rw [if_pos c, if_pos c2]; omega
      · rw [if_neg c]
        split <;> omega
    · rw [List.mem_singleton.mp he]
      rw [if_neg hp, if_pos (.refl b)]
      show r a < r b + r a + 1
      omega
theorem Gs.okE {ps : List Str} {es fs : List Ed} {e : Ed} (g : Gs ps (es ++ e :: fs)) : okE [e.1, e.2] ps es := by
  have he : e ∈ es ++ e :: fs := by simp
  obtain ⟨r, hr⟩ := g.rk
  have h1 := hr e he
  refine ⟨e.1, e.2, rfl, (g.ein e he).1, (g.ein e he).2, fun q => by rw [q] at h1; omega, fun q => ?_, fun p => ?_⟩
  · exact (List.nodup_append.mp g.en).2.2 e q e (by simp) rfl
  · have := Pth.rank (fun e he => hr e (List.mem_append_left _ he)) p
    omega
/-- the state behind a line that fits -/
def Fit (l : Str) (ps : List Str) (es : List Ed) (ps' : List Str) (es' : List Ed) : Prop :=
  (∃ x, parts 32 l = [("node" : Str), x] ∧ es = [] ∧ ps.length < 16 ∧ Nm x ∧ x ∉ ps ∧ ps' = ps ++ [x] ∧ es' = es) ∨
  (∃ a b, parts 32 l = [("edge" : Str), a, b] ∧ PL.okE [a, b] ps es ∧ ps' = ps ∧ es' = es ++ [(a, b)])
theorem Fit.one {l : Str} {ps : List Str} {es : List Ed} {p1 : List Str} {e1 : List Ed} {p2 : List Str} {e2 : List Ed} (h : Fit l ps es p1 e1) (g : Fit l ps es p2 e2) : p1 = p2 ∧ e1 = e2 := by
  have ne : ("node" : Str) ≠ "edge" := by decide
  rcases h with ⟨x, h1, _, _, _, _, rfl, rfl⟩ | ⟨a, b, h1, _, rfl, rfl⟩
  · rcases g with ⟨y, g1, _, _, _, _, rfl, rfl⟩ | ⟨a, b, g1, _⟩
    · rw [h1] at g1
      simp at g1
      exact ⟨by rw [g1], rfl⟩
    · rw [h1] at g1; simp at g1
  · rcases g with ⟨y, g1, _⟩ | ⟨c, d, g1, _, rfl, rfl⟩
    · rw [h1] at g1; simp at g1
    · rw [h1] at g1
      simp at g1
      exact ⟨rfl, by rw [g1.1, g1.2]⟩
theorem line_of {l : Str} {ws : List Str} (h : parts 32 l = ws) : l = Str.join " " ws := by rw [← h]; exact parts_join.symm
theorem Fit.gs {l : Str} {ps : List Str} {es : List Ed} {ps' : List Str} {es' : List Ed} (g : Gs ps es) (h : Fit l ps es ps' es') : Gs ps' es' ∧ lns ps' es' = lns ps es ++ [l] := by
  rcases h with ⟨x, h1, rfl, h3, h4, h5, rfl, rfl⟩ | ⟨a, b, h1, h2, rfl, rfl⟩
  · refine ⟨⟨?_, fun s hs => ?_, by simp; omega, (fun e h => by cases h), List.nodup_nil, ⟨fun _ => 0, (fun e h => by cases h)⟩⟩, ?_⟩
    · rw [List.nodup_append]
      refine ⟨g.nd, by simp, fun a ha b hb q => ?_⟩
      rw [List.mem_singleton.mp hb] at q
      exact h5 (q ▸ ha)
    · rcases List.mem_append.mp hs with hs | hs
      · exact g.nm s hs
      · rw [List.mem_singleton.mp hs]; exact h4
    · have e : lnN x = l := cl_ext (by
        rw [line_of h1]
        show cl ("node " ++ x) = cl ("node" ++ " " ++ x)
        rw [cl_app, cl_app, cl_app]
        rfl)
      unfold lns
      simp [e]
  · refine ⟨g.edge h2, ?_⟩
    have e : lnE (a, b) = l := cl_ext (by
      rw [line_of h1]
      show cl (((("edge " : Str) ++ a) ++ " ") ++ b) = cl ("edge" ++ " " ++ (a ++ " " ++ b))
      simp only [cl_app, List.append_assoc]
      rfl)
    unfold lns
    simp [e]
/-- lines in a row: where the first that does not fit stands, or the state behind -/
inductive Run : Nat → List Str → List Str → List Ed → Option Nat → List Str → List Ed → Prop
  | done {k : Nat} {ps : List Str} {es : List Ed} : Run k [] ps es none ps es
  | bad {k : Nat} {l : Str} {r ps : List Str} {es : List Ed} (h : ∀ ps' es', ¬ Fit l ps es ps' es') : Run k (l :: r) ps es (some k) ps es
  | fit {k : Nat} {l : Str} {r ps ps1 ps' : List Str} {es es1 es' : List Ed} {o : Option Nat} (h : Fit l ps es ps1 es1) (t : Run (k + 1) r ps1 es1 o ps' es') : Run k (l :: r) ps es o ps' es'
theorem Run.gs {k : Nat} {ls ps ps' : List Str} {es es' : List Ed} {o : Option Nat} (h : Run k ls ps es o ps' es') (g : Gs ps es) : Gs ps' es' ∧ (o = none → lns ps' es' = lns ps es ++ ls) := by
  induction h with
  | done => exact ⟨g, fun _ => by simp⟩
  | bad => exact ⟨g, fun e => by cases e⟩
  | fit h _ ih =>
    obtain ⟨g1, e1⟩ := h.gs g
    obtain ⟨g2, e2⟩ := ih g1
    exact ⟨g2, fun q => by rw [e2 q, e1, List.append_assoc]; rfl⟩
theorem Run.one {k : Nat} {ls ps ps1 ps2 : List Str} {es es1 es2 : List Ed} {o1 o2 : Option Nat} (h : Run k ls ps es o1 ps1 es1) (g : Run k ls ps es o2 ps2 es2) : o1 = o2 ∧ ps1 = ps2 ∧ es1 = es2 := by
  induction h generalizing o2 ps2 es2 with
  | done => cases g; exact ⟨rfl, rfl, rfl⟩
  | bad h =>
    cases g with
    | bad => exact ⟨rfl, rfl, rfl⟩
    | fit h2 => exact absurd h2 (h _ _)
  | fit h _ ih =>
    cases g with
    | bad h2 => exact absurd h (h2 _ _)
    | fit h2 t2 =>
      obtain ⟨rfl, rfl⟩ := h.one h2
      exact ih t2
theorem Run.ex : ∀ (ls : List Str) (k : Nat) (ps : List Str) (es : List Ed), ∃ o ps' es', Run k ls ps es o ps' es'
  | [], k, ps, es => ⟨none, ps, es, .done⟩
  | l :: r, k, ps, es => by
    classical
    by_cases c : ∃ ps' es', Fit l ps es ps' es'
    · obtain ⟨p1, e1, h⟩ := c
      obtain ⟨o, p2, e2, t⟩ := Run.ex r (k + 1) p1 e1
      exact ⟨o, p2, e2, .fit h t⟩
    · exact ⟨some k, ps, es, .bad fun p e h => c ⟨p, e, h⟩⟩
/-- what loading a text tells: nothing, or the number of a line -/
def Out (w : Str) (o : Option Nat) : Prop := ∃ o1 ps es, Run 1 (parts 10 w).dropLast [] [] o1 ps es ∧
  o = (match o1 with
    | some k => some k
    | none => if (parts 10 w).getLast? = some Str.empty ∧ ps ≠ [] then none else some (parts 10 w).length)
theorem Out.one {w : Str} {o1 o2 : Option Nat} (h : Out w o1) (g : Out w o2) : o1 = o2 := by
  obtain ⟨a1, p1, e1, r1, rfl⟩ := h
  obtain ⟨a2, p2, e2, r2, rfl⟩ := g
  obtain ⟨rfl, rfl, rfl⟩ := r1.one r2
  rfl
theorem Out.ex (w : Str) : ∃ o, Out w o := by
  obtain ⟨o, ps, es, r⟩ := Run.ex (parts 10 w).dropLast 1 [] []
  exact ⟨_, o, ps, es, r, rfl⟩
/-- a text that loads is the text of its graph -/
theorem Out.text {w : Str} (h : Out w none) : ∃ ps es, Run 1 (parts 10 w).dropLast [] [] none ps es ∧ (parts 10 w).getLast? = some Str.empty ∧ Gd ps es ∧ w = joined (lns ps es) := by
  obtain ⟨o, ps, es, r, e⟩ := h
  cases o with
  | some k => cases e
  | none =>
    dsimp only at e
    split at e
    · rename_i c
      obtain ⟨g, el⟩ := r.gs Gs.nil
      have el := el rfl
      refine ⟨ps, es, r, c.1, g.gd c.2, ?_⟩
      have e3 : lns ps es = (parts 10 w).dropLast := by rw [el]; rfl
      have e4 : (parts 10 w).dropLast ++ [Str.empty] = parts 10 w := by
        obtain ⟨ys, y, e⟩ := List.eq_nil_or_concat (parts 10 w) |>.resolve_left parts_ne
        have h2 := c.1
        rw [e] at h2 ⊢
        simp at h2 ⊢
        exact h2.symm
      refine cl_ext ?_
      rw [joined_cl, ← join_lines, e3, e4]
      exact congrArg cl (parts_join (c := 10) (w := w)).symm
    · cases e
/-- the text of a graph loads -/
theorem run_nodes : ∀ {qs : List Str} {ps : List Str} {es : List Ed} {k : Nat}, Gd (ps ++ qs) es → (∃ ps' es', Run (k + qs.length) (es.map lnE) (ps ++ qs) [] none ps' es' ∧ ps' = ps ++ qs ∧ es' = es) → Run k (qs.map lnN ++ es.map lnE) ps [] none (ps ++ qs) es
  | [], ps, es, k, g, ⟨ps', es', h, e1, e2⟩ => by
    subst e1; subst e2
    simpa using h
  | q :: r, ps, es, k, g, h => by
    have hq : Nm q := g.nm q (by simp)
    have hl := g.l16
    simp at hl
    have hni : q ∉ ps := fun hm => (List.nodup_append.mp g.nd).2.2 q hm q (by simp) rfl
    have e : ps ++ q :: r = (ps ++ [q]) ++ r := by simp
    rw [e] at g h ⊢
    refine .fit (.inl ⟨q, ?_, rfl, by omega, hq, hni, rfl, rfl⟩) (run_nodes g (by simpa [Nat.add_assoc, Nat.add_comm 1] using h))
    rw [← split_node hq]
    exact (split_parts rfl (by decide)).symm
theorem run_edges : ∀ {fs : List Ed} {ps : List Str} {es : List Ed} {k : Nat}, Gs ps (es ++ fs) → Run k (fs.map lnE) ps es none ps (es ++ fs)
  | [], ps, es, k, g => by simpa using Run.done
  | f :: r, ps, es, k, g => by
    have n := g.enm f (by simp)
    have e : es ++ f :: r = (es ++ [f]) ++ r := by simp
    refine .fit (.inr ⟨f.1, f.2, ?_, g.okE, rfl, rfl⟩) ?_
    · rw [← split_edge n.1 n.2]
      exact (split_parts rfl (by decide)).symm
    · rw [e] at g ⊢
      exact run_edges g
theorem lns_no' {ps : List Str} {es : List Ed} (hn : ∀ s ∈ ps, Nm s) (he : ∀ e ∈ es, Nm e.1 ∧ Nm e.2) : ∀ l ∈ lns ps es, 10 ∉ cl l := fun l hl => by
  rcases List.mem_append.mp hl with h | h
  · obtain ⟨p, hp, rfl⟩ := List.mem_map.mp h
    unfold lnN
    rw [cl_app]
    intro hm
    rcases List.mem_append.mp hm with hm | hm
    · revert hm; decide +kernel
    · exact (hn p hp).no (by decide) hm
  · obtain ⟨e, hp, rfl⟩ := List.mem_map.mp h
    unfold lnE
    rw [cl_app, cl_app, cl_app]
    intro hm
    simp only [List.mem_append] at hm
    rcases hm with ((hm | hm) | hm) | hm
    · revert hm; decide +kernel
    · exact (he e hp).1.no (by decide) hm
    · revert hm; decide +kernel
    · exact (he e hp).2.no (by decide) hm
theorem parts_joined {ls : List Str} (h : ∀ l ∈ ls, 10 ∉ cl l) : parts 10 (joined ls) = ls ++ [Str.empty] := by
  rw [← split_lines h]
  exact (split_parts rfl (by decide)).symm
theorem out_graph {ps : List Str} {es : List Ed} (g : Gd ps es) : Out (joined (lns ps es)) none := by
  have hr : Run 1 (lns ps es) [] [] none ps es := by
    have h := run_nodes (qs := ps) (ps := []) (es := es) (k := 1) (by simpa using g) ⟨_, _, run_edges (es := []) (by simpa using g.gs), rfl, by simp⟩
    simpa [lns] using h
  have e := parts_joined (lns_no' g.nm g.enm)
  refine ⟨none, ps, es, by rw [e]; simpa using hr, ?_⟩
  rw [e]
  have : ps ≠ [] := fun h => by have := g.l1; rw [h] at this; simp at this
  simp [this]

end PL
end
section
/-! TL20: set(xs) of texts and ints. -/
namespace TL
open PySem PySem.Spec L2
open PyProof.Rows
/-- one key more -/
def addKey (ks : List Key) (k : Key) : List Key := if inK ks k = true then ks else ks ++ [k]
/-- the keys, each once -/
def setKeys (ks : List Key) : List Key := ks.foldl addKey []
theorem inK_iff {ks : List Key} {k : Key} : inK ks k = true ↔ k ∈ ks := by
  unfold inK
  rw [List.any_eq_true]
  constructor
  · rintro ⟨x, hx, e⟩
    rw [← of_decide_eq_true e]; exact hx
  · intro h; exact ⟨k, h, decide_eq_true rfl⟩
theorem inK_add (ks : List Key) (k j : Key) : inK (addKey ks k) j = (inK ks j || decide (j = k)) := by
  rw [Bool.eq_iff_iff, Bool.or_eq_true, inK_iff, inK_iff]
  unfold addKey
  by_cases h : inK ks k = true
  · rw [if_pos h]
    have h' := inK_iff.mp h
    constructor
    · exact .inl
    · rintro (q | q)
      · exact q
      · rw [of_decide_eq_true q]; exact h'
  · rw [if_neg h, List.mem_append, List.mem_singleton, decide_eq_true_eq]
theorem len_add (ks : List Key) (k : Key) : (addKey ks k).length = if inK ks k = true then ks.length else ks.length + 1 := by
  unfold addKey
  split <;> simp
theorem setOf_congr {P : Program} {w : World} {h : Heap} {a : Addr} {S S' : Key → Bool} {n n' : Nat} (hS : h.SetOf (mixKind P w) a S n) (e : ∀ k, S k = S' k) (en : n = n') : h.SetOf (mixKind P w) a S' n' := by
  have : S = S' := funext e
  subst this; subst en; exact hS
theorem setKeys_succ {ks : List Key} {i : Nat} {k : Key} (h : ks[i]? = some k) : setKeys (ks.take (i + 1)) = addKey (setKeys (ks.take i)) k := by
  unfold setKeys
  rw [List.take_add_one, h, List.foldl_append]; rfl
theorem setKeys_le : ∀ ks acc : List Key, (ks.foldl addKey acc).length ≤ acc.length + ks.length
  | [], acc => by simp
  | k :: r, acc => by
    rw [List.foldl_cons, List.length_cons]
    have := setKeys_le r (addKey acc k)
    have h2 : (addKey acc k).length ≤ acc.length + 1 := by rw [len_add]; split <;> omega
    omega
abbrev emptySet (led : Bool) : Obj := { cls := .type "set", dict := none, data := .set #[] 0 (.fresh 0 0 led) }
section
variable {prog : Program} {w : World} {A : Around} {R : Result → Shared → Prop} {I : Addr} {fp wr : List Addr} {G : Array GenState → Array GenState → Prop} {n : Nat} {Pv : Nat → Value → Prop} {St : Nat → Shared → Prop}
theorem set_update_keys (W : WalksS prog w A.in1 I fp wr G n Pv St) (S : Addr) (hSf : S ∉ fp) (ks : List Key) (hn : n = ks.length) (hb : ks.length + 1 < scanBound) (hval : ∀ i v, Pv i v → ∃ k, ks[i]? = some k ∧ keyIs k v = true ∧ v.scannable = true) :
    ∀ (m i : Nat) (s : Shared), n - i = m → i ≤ n → St i s → s.heap.SetOf (mixKind prog w) S (inK (setKeys (ks.take i))) (setKeys (ks.take i)).length →
      (∀ s', Moved (S :: wr) G s s' → s'.heap.SetOf (mixKind prog w) S (inK (setKeys ks)) (setKeys ks).length → R (.ok (.ret .none)) s') →
      codeAny (model prog w) A (.builtin "set.update.loop" ⟨[.ref S, .ref I], []⟩) R s := by
  have hSw : S ∉ wr := fun h => hSf (W.sub _ h)
  have hsub : ∀ b ∈ wr, b ∈ S :: wr := fun b hb => List.mem_cons_of_mem _ hb
  intro m
  induction m with
  | zero =>
    intro i s hk hi hst hS hR
    have hin : i = n := by omega
    subst hin
    refine codeAny_builtin F.entry_set_update_loop ?_
    rw [Around.under_plainId F.plain_set_update_loop _]
    show wpAny _ A.in1 (pyNext (.ref I) >>= _) _ _ s
    refine wpAny_bind (W.done s _ _ hst fun s' hm => ?_)
    show wpAny _ A.in1 (ret Value.none) _ _ s'
    rw [List.take_of_length_le (by omega)] at hS
    exact wpAny_pure (hR s' (hm.mono hsub) (setOf_at hS fun o e => hm.heap S _ hSw e))
  | succ m ih =>
    intro i s hk hi hst hS hR
    have hlt : i < n := by omega
    refine codeAny_builtin F.entry_set_update_loop ?_
    rw [Around.under_plainId F.plain_set_update_loop _]
    show wpAny _ A.in1 (pyNext (.ref I) >>= _) _ _ s
    refine wpAny_bind (W.item i s _ _ hlt hst fun v s' hP hst' hm => ?_)
    obtain ⟨z, hz, hkey, hsc⟩ := hval i v hP
    have hS' := setOf_at (P := prog) (w := w) hS fun o e => hm.heap S o hSw e
    show wpAny _ A.in1 (holding [v] (setAdd S v) >>= _) _ _ s'
    refine wpAny_bind (wpAny_holding ?_)
    unfold setAdd
    refine wpAny_holding ?_
    refine wpAny_bind ((mixKind prog w).pyHash (k := z) hkey ?_)
    have hroom : (setKeys (ks.take i)).length + 1 < scanBound := by
      have h1 := setKeys_le (ks.take i) []
      have h2 : (setKeys (ks.take i)).length ≤ (ks.take i).length := by
        unfold setKeys
        simpa using h1
      rw [List.length_take] at h2
      omega
    refine wpAny_setAddHashed_of (knd := mixKind prog w) (s := { s' with toks := s'.toks + 1 }) hkey hsc hS' hroom fun h' hsb hS2 => ?_
    have hSi : h'.SetOf (mixKind prog w) S (inK (setKeys (ks.take (i + 1)))) (setKeys (ks.take (i + 1))).length :=
      setOf_congr hS2 (fun k' => by rw [setKeys_succ hz, inK_add]) (by rw [setKeys_succ hz, len_add])
    refine wpAny_pure ⟨plainId_quiet F.plain_set_update_loop _, ih (i + 1) _ (by omega) hlt (W.frame _ s' _ _ hst' (Nat.le_succ _) fun b hb o e => ?_) hSi fun s'' hm'' hS'' => ?_⟩
    · rw [hsb.2 b (fun h : b = S => hSf (by rw [← h]; exact hb))]; exact e
    · refine hR s'' (Moved.trans W.gtrans ((hm.mono hsub).then_heap (Nat.le_succ _) fun b o hb e => ?_) hm'') hS''
      rw [hsb.2 b (fun h : b = S => hb (by rw [h]; exact List.mem_cons_self))]; exact e
end
section
variable {prog : Program} {w : World} {A : Around} {E : Value → Shared → Prop} {s : Shared}

set_option maxHeartbeats 3200000 in
theorem call_set_list {l : Addr} {items : Array Value} {ks : List Key} {Q : Value → Shared → Prop} (hh : A.handled = none) (hl : s.heap.IsList l items) (hsz : items.size = ks.length) (hb : ks.length + 1 < scanBound)
    (hval : ∀ (i : Nat) (v : Value), items[i]? = some v → ∃ k, ks[i]? = some k ∧ keyIs k v = true ∧ v.scannable = true)
    (h : ∀ (h' : Heap) (tk : Nat), h'.SetOf (mixKind prog w) s.heap.objs.size (inK (setKeys ks)) (setKeys ks).length → (∀ b o, b < s.heap.objs.size → s.heap.get? b = some o → h'.get? b = some o) → Q (.ref s.heap.objs.size) { s with heap := h', toks := tk }) :
    wpAny (model prog w) A (call (.type "set") [.ref l]) Q E s := by
  obtain ⟨c, tl, hmro⟩ := F.called_set.mro
  have hmade := F.called_set.made
  have hsub := F.called_set.sub
  refine wpAny_call (codeAny_of_tree ?_)
  show wpAny _ _ (callAny (.type "set") _) _ _ _
  refine wpAny_pure ⟨Code.quiet_builtin _ (by decide +kernel), codeAny_builtin F.entry_type_call ?_⟩
  rw [Around.under_plain (weight_type_call_type "set" [.ref l] []) rfl]
  have h1 := F.called_set.notType
  have h2 := F.called_set.canCreate
  have hct := F.typeCall_set_1 (.ref l)
  repeat (any_goals (first | assumption | wp_step))
  refine codeAny_mono (code_set_new_1 (.ref l) (E := E) (Q₁ := fun obj s₁ => ∃ led : Bool, obj = .ref s.heap.objs.size ∧ s₁ = { s with heap := s.heap.push (emptySet led) }) fun led => ⟨led, rfl, rfl⟩) fun r s₁ hr => ?_
  cases r with
  | error e => exact hr
  | ok fl =>
    cases fl with
    | ret obj =>
      obtain ⟨led, rfl, rfl⟩ := hr
      have hS : (s.heap.push (emptySet led)).get? s.heap.objs.size = some (emptySet led) := Heap.get?_push_size _ rfl
      have hT : Shared.TypeIs { s with heap := s.heap.push (emptySet led) } (.ref s.heap.objs.size) "set" := ⟨_, hS, rfl⟩
      have hli := F.called_set.init.lookup
      have hbi := F.called_set.init.bind (.ref s.heap.objs.size)
      repeat (any_goals (first | assumption | wp_step))
      refine codeAny_mono (codeAny_call_builtin (R := wants (fun r s₂ => r = .none ∧ ∃ h' tk, s₂ = { s with heap := h', toks := tk } ∧ h'.SetOf (mixKind prog w) s.heap.objs.size (inK (setKeys ks)) (setKeys ks).length ∧ (∀ b o, b < s.heap.objs.size → s.heap.get? b = some o → h'.get? b = some o)) E) F.called_set.init.plain F.entry_set_init (check_set_init_1 hT ?_)) fun r₂ s₂ hr₂ => ?_
      · obtain ⟨ol, hol, hcl, nl, hdl⟩ := hl
        obtain ⟨ocls, odict, odata, oslots⟩ := ol
        simp only at hcl hdl
        subst hcl; subst hdl
        have hol' : (s.heap.push (emptySet led)).get? l = some { cls := .type "list", dict := odict, data := .seq items nl, slots := oslots } := Heap.get?_push_of_some _ hol
        have hsls := F.sub_list_set
        have hslf := F.sub_list_frozenset
        have hne : (Value.type "list" == Value.type "dict") = false := by decide
        have hl1 : (s.heap.push (emptySet led)).IsList l items := ⟨_, hol', rfl, nl, rfl⟩
        unfold Builtin.«set.__init__» noKeywords Builtin.Frozenset.updateFrom
        generalize hPI : pyIter = PI
        wp_walk
        subst hPI
        refine wpAny_pyIter_list hl1 ?_
        refine wpAny_bind (wpAny_runValue ?_)
        have hlS : l < s.heap.objs.size := Heap.lt_size hol
        have hh3 : A.in1.in1.in1.handled = none := by simp [hh]
        have hneI : l ≠ (s.heap.push (emptySet led)).objs.size := by
          rw [Heap.size_push]; exact Nat.ne_of_lt (Nat.lt_succ_of_lt hlS)
        have hSf : s.heap.objs.size ∉ [(s.heap.push (emptySet led)).objs.size, l] := by
          rw [Heap.size_push]; simp only [List.mem_cons, List.mem_singleton, List.not_mem_nil, or_false, not_or]
          exact ⟨Nat.ne_of_lt (Nat.lt_succ_self _), Nat.ne_of_gt hlS⟩
        refine set_update_keys ((Walks.list hh3 _ l hneI items).toS) s.heap.objs.size hSf ks hsz hb hval (items.size - 0) 0 _ (by omega) (Nat.zero_le _) ⟨⟨_, Heap.get?_push_size _ rfl, rfl, rfl⟩, (hl1.push _)⟩ ?hS0 ?hR
        case hS0 =>
          have hget : ((s.heap.push (emptySet led)).push { cls := .type "list_iterator", data := .fields #[.ref l, .int 0 0] }).get? s.heap.objs.size = some (emptySet led) := Heap.get?_push_of_some _ hS
          exact ⟨_, #[], 0, _, hget, ⟨rfl, rfl, rfl⟩, rfl, (fun e he => by simp at he), (fun k => by simp [inK, setKeys]), (by decide), (by rfl), rfl⟩
        case hR =>
          intro s' hm hS'
          obtain ⟨h', g', d', tk', os'⟩ := s'
          have eg : g' = s.gens := hm.gens
          have ed : d' = s.drawn := hm.drawn
          have eo : os' = s.os := hm.os
          subst eg; subst ed; subst eo
          show wpAny _ _ _ _ _ _
          refine wpAny_pure ?_
          show wpAny _ _ (ret Value.none) _ _ _
          refine wpAny_pure ⟨rfl, h', tk', rfl, hS', fun b o hb e => ?_⟩
          have hb1 : b ≠ s.heap.objs.size := Nat.ne_of_lt hb
          have hb2 : b ≠ (s.heap.push (emptySet led)).objs.size := by
            rw [Heap.size_push]; exact Nat.ne_of_lt (Nat.lt_succ_of_lt hb)
          exact hm.heap b o (by simp only [List.mem_cons, List.mem_singleton, List.not_mem_nil, or_false, not_or]; exact ⟨hb1, hb2⟩) (Heap.get?_push_of_some _ (Heap.get?_push_of_some _ e))
      · cases r₂ with
        | error e => exact hr₂
        | ok fl₂ =>
          cases fl₂ with
          | ret r =>
            obtain ⟨rfl, h', tk, rfl, hS', hk'⟩ := hr₂
            repeat (any_goals (first | assumption | wp_step))
            exact h _ _ hS' hk'
          | _ => exact hr₂.elim
    | _ => exact hr.elim

set_option maxHeartbeats 3200000 in
theorem call_set_tuple {l : Addr} {items : Array Value} {ks : List Key} {Q : Value → Shared → Prop} (hh : A.handled = none) (hl : s.heap.IsTuple l items) (hsz : items.size = ks.length) (hb : ks.length + 1 < scanBound)
    (hval : ∀ (i : Nat) (v : Value), items[i]? = some v → ∃ k, ks[i]? = some k ∧ keyIs k v = true ∧ v.scannable = true)
    (h : ∀ (h' : Heap) (tk : Nat), h'.SetOf (mixKind prog w) s.heap.objs.size (inK (setKeys ks)) (setKeys ks).length → (∀ b o, b < s.heap.objs.size → s.heap.get? b = some o → h'.get? b = some o) → Q (.ref s.heap.objs.size) { s with heap := h', toks := tk }) :
    wpAny (model prog w) A (call (.type "set") [.ref l]) Q E s := by
  obtain ⟨c, tl, hmro⟩ := F.called_set.mro
  have hmade := F.called_set.made
  have hsub := F.called_set.sub
  refine wpAny_call (codeAny_of_tree ?_)
  show wpAny _ _ (callAny (.type "set") _) _ _ _
  refine wpAny_pure ⟨Code.quiet_builtin _ (by decide +kernel), codeAny_builtin F.entry_type_call ?_⟩
  rw [Around.under_plain (weight_type_call_type "set" [.ref l] []) rfl]
  have h1 := F.called_set.notType
  have h2 := F.called_set.canCreate
  have hct := F.typeCall_set_1 (.ref l)
  repeat (any_goals (first | assumption | wp_step))
  refine codeAny_mono (code_set_new_1 (.ref l) (E := E) (Q₁ := fun obj s₁ => ∃ led : Bool, obj = .ref s.heap.objs.size ∧ s₁ = { s with heap := s.heap.push (emptySet led) }) fun led => ⟨led, rfl, rfl⟩) fun r s₁ hr => ?_
  cases r with
  | error e => exact hr
  | ok fl =>
    cases fl with
    | ret obj =>
      obtain ⟨led, rfl, rfl⟩ := hr
      have hS : (s.heap.push (emptySet led)).get? s.heap.objs.size = some (emptySet led) := Heap.get?_push_size _ rfl
      have hT : Shared.TypeIs { s with heap := s.heap.push (emptySet led) } (.ref s.heap.objs.size) "set" := ⟨_, hS, rfl⟩
      have hli := F.called_set.init.lookup
      have hbi := F.called_set.init.bind (.ref s.heap.objs.size)
      repeat (any_goals (first | assumption | wp_step))
      refine codeAny_mono (codeAny_call_builtin (R := wants (fun r s₂ => r = .none ∧ ∃ h' tk, s₂ = { s with heap := h', toks := tk } ∧ h'.SetOf (mixKind prog w) s.heap.objs.size (inK (setKeys ks)) (setKeys ks).length ∧ (∀ b o, b < s.heap.objs.size → s.heap.get? b = some o → h'.get? b = some o)) E) F.called_set.init.plain F.entry_set_init (check_set_init_1 hT ?_)) fun r₂ s₂ hr₂ => ?_
      · obtain ⟨ol, hol, hcl, nl, hdl⟩ := hl
        obtain ⟨ocls, odict, odata, oslots⟩ := ol
        simp only at hcl hdl
        subst hcl; subst hdl
        have hol' : (s.heap.push (emptySet led)).get? l = some { cls := .type "tuple", dict := odict, data := .seq items nl, slots := oslots } := Heap.get?_push_of_some _ hol
        have hsls := F.sub_tuple_set
        have hslf := F.sub_tuple_frozenset
        have hne : (Value.type "tuple" == Value.type "dict") = false := by decide
        have hl1 : (s.heap.push (emptySet led)).IsTuple l items := ⟨_, hol', rfl, nl, rfl⟩
        unfold Builtin.«set.__init__» noKeywords Builtin.Frozenset.updateFrom
        generalize hPI : pyIter = PI
        wp_walk
        subst hPI
        refine wpAny_pyIter_tuple hl1 ?_
        refine wpAny_bind (wpAny_runValue ?_)
        have hlS : l < s.heap.objs.size := Heap.lt_size hol
        have hh3 : A.in1.in1.in1.handled = none := by simp [hh]
        have hneI : l ≠ (s.heap.push (emptySet led)).objs.size := by
          rw [Heap.size_push]; exact Nat.ne_of_lt (Nat.lt_succ_of_lt hlS)
        have hSf : s.heap.objs.size ∉ [(s.heap.push (emptySet led)).objs.size, l] := by
          rw [Heap.size_push]; simp only [List.mem_cons, List.mem_singleton, List.not_mem_nil, or_false, not_or]
          exact ⟨Nat.ne_of_lt (Nat.lt_succ_self _), Nat.ne_of_gt hlS⟩
        refine set_update_keys ((Walks.tuple hh3 _ l hneI items).toS) s.heap.objs.size hSf ks hsz hb hval (items.size - 0) 0 _ (by omega) (Nat.zero_le _) ⟨⟨_, Heap.get?_push_size _ rfl, rfl, rfl⟩, (hl1.push _)⟩ ?hS0 ?hR
        case hS0 =>
          have hget : ((s.heap.push (emptySet led)).push { cls := .type "tuple_iterator", data := .fields #[.ref l, .int 0 0] }).get? s.heap.objs.size = some (emptySet led) := Heap.get?_push_of_some _ hS
          exact ⟨_, #[], 0, _, hget, ⟨rfl, rfl, rfl⟩, rfl, (fun e he => by simp at he), (fun k => by simp [inK, setKeys]), (by decide), (by rfl), rfl⟩
        case hR =>
          intro s' hm hS'
          obtain ⟨h', g', d', tk', os'⟩ := s'
          have eg : g' = s.gens := hm.gens
          have ed : d' = s.drawn := hm.drawn
          have eo : os' = s.os := hm.os
          subst eg; subst ed; subst eo
          show wpAny _ _ _ _ _ _
          refine wpAny_pure ?_
          show wpAny _ _ (ret Value.none) _ _ _
          refine wpAny_pure ⟨rfl, h', tk', rfl, hS', fun b o hb e => ?_⟩
          have hb1 : b ≠ s.heap.objs.size := Nat.ne_of_lt hb
          have hb2 : b ≠ (s.heap.push (emptySet led)).objs.size := by
            rw [Heap.size_push]; exact Nat.ne_of_lt (Nat.lt_succ_of_lt hb)
          exact hm.heap b o (by simp only [List.mem_cons, List.mem_singleton, List.not_mem_nil, or_false, not_or]; exact ⟨hb1, hb2⟩) (Heap.get?_push_of_some _ (Heap.get?_push_of_some _ e))
      · cases r₂ with
        | error e => exact hr₂
        | ok fl₂ =>
          cases fl₂ with
          | ret r =>
            obtain ⟨rfl, h', tk, rfl, hS', hk'⟩ := hr₂
            repeat (any_goals (first | assumption | wp_step))
            exact h _ _ hS' hk'
          | _ => exact hr₂.elim
    | _ => exact hr.elim
end
end TL
end
section
/-! TL21: set(xs), len(set), over trees. -/
namespace TL
open PySem PySem.Spec L2
section
variable {X : Cx}
def rSetSeqV (K : PySem.W.Frag) (P : Program) (w : World) : List V → Hp → VK → Prop := fun vs H Q => ∃ l ks, vs = [.ref l] ∧ (SqL K H l (ks.map kV) ∨ SqT K H l (ks.map kV)) ∧ ks.length + 1 < scanBound ∧ ∀ p, H p = none → Q (.ref p) (upd H p (SetK P w p (inK (setKeys ks)) (setKeys ks).length))
theorem keys_at (P : Program) (w : World) {ks : List Key} {its : List Value} (r : Vals (ks.map kV) its) (i : Nat) (v : Value) (h : its.toArray[i]? = some v) : ∃ k, ks[i]? = some k ∧ keyIs k v = true ∧ v.scannable = true := by
  have h : its[i]? = some v := by simpa using h
  cases e : ks[i]? with
  | none =>
    have : (ks.map kV)[i]? = none := by rw [List.getElem?_map, e]; rfl
    rw [r.none_of this] at h; cases h
  | some k =>
    have e2 : (ks.map kV)[i]? = some (kV k) := by rw [List.getElem?_map, e]; rfl
    obtain ⟨u, e3, ru⟩ := r.get e2
    rw [h] at e3
    cases e3
    exact ⟨k, rfl, kV_is (P := P) (w := w) ru, key_scan ru⟩
theorem cr_setSeq (hc : X.calm = true) : CallR X (.type "set") (rSetSeqV X.K X.prog X.w) := by
  intro pins s σ H xs us Q I r ⟨l, ks, ex, hq, hb, q⟩
  subst ex
  obtain ⟨u, eu, rx⟩ := vals1 r
  subst eu
  cases rx
  have fin : ∀ (h' : Heap) (tk : Nat), h'.SetOf (mixKind X.prog X.w) s.heap.objs.size (inK (setKeys ks)) (setKeys ks).length → (∀ b o, b < s.heap.objs.size → s.heap.get? b = some o → h'.get? b = some o) → EP X pins σ Q (.ref s.heap.objs.size) { s with heap := h', toks := tk } := fun h' tk hs hk =>
    ⟨.ref s.heap.objs.size, upd H s.heap.objs.size (SetK X.prog X.w s.heap.objs.size (inK (setKeys ks)) (setKeys ks).length), I.laid (t' := tk) (fun b o e => hk b o (Heap.lt_size e) e) (Nat.le_refl _) (setK_new hs), rfl, q _ (I.hok.fresh (Nat.le_refl _))⟩
  rcases hq with hq | hq
  · obtain ⟨its, rv, pl, hz⟩ := I.list hq
    have hl : its.length = ks.length := by
      have := rv.length
      rw [List.length_map] at this
      exact this.symm
    exact call_set_list (ks := ks) (I.ok.hd hc) pl.isList (by simp [hl]) hb (fun i v e => keys_at X.prog X.w rv i v e) fin
  · obtain ⟨its, rv, pl, hz⟩ := I.tuple hq
    have hl : its.length = ks.length := by
      have := rv.length
      rw [List.length_map] at this
      exact this.symm
    exact call_set_tuple (ks := ks) (I.ok.hd hc) pl (by simp [hl]) hb (fun i v e => keys_at X.prog X.w rv i v e) fin
def rLenSetV (P : Program) (w : World) : List V → Hp → VK → Prop := fun vs H Q => ∃ a S n, vs = [.ref a] ∧ H a = some (SetK P w a S n) ∧ Q (.int (n : Nat)) H
theorem cr_lenSet : CallR X (.builtin "len") (rLenSetV X.prog X.w) := by
  intro pins s σ H xs us Q I r ⟨a, S, n, ex, ha, q⟩
  subst ex
  obtain ⟨u, eu, rx⟩ := vals1 r
  subst eu
  cases rx
  obtain ⟨o, es, ep, t, ho, hex, hd, hel, hmem, hb, hf, hn⟩ := setK_get I ha
  refine call_len_set ho hex hd hf (by unfold scanBound at hb; omega) ⟨.int (n : Nat), H, I.tok _, ⟨_, by rw [hn]⟩, q⟩
end
def rSetC : RC := fun ds G Q => match ds with
  | [d] => (match vQ G d with
    | some xs => (match keysD xs with
      | some ks => ks.length + 1 < scanBound ∧ ∀ p, G p = none → Q (.ref p) (gup G p (.sK (setKeys ks)))
      | none => False)
    | none => False)
  | _ => False
theorem sim_setC {B : Bd} : SimC B rSetC (rSetSeqV B.K B.P B.w) := by
  intro F W σ H Q τ G QT' ET ds vs p r h
  unfold rSetC at h
  split at h
  · obtain ⟨v, rfl, r1⟩ := r.inv1
    split at h
    · rename_i xs ex
      obtain ⟨a, us, rfl, f, ra⟩ := vQ_ok p.wd r1 ex
      split at h
      · rename_i ks ek
        have := keysD_ok ra ek
        subst this
        refine ⟨a, ks, rfl, f, h.1, fun q hq => ?_⟩
        exact p.ok _ _ (gup G q (.sK (setKeys ks))) _ rp_ref (p.wd.cell hq upd_same) (Stp.cell hq) (h.2 q (p.wd.none_of hq))
      · exact h.elim
    · exact h.elim
  · exact h.elim
def rLenS : RC := fun ds G Q => match ds with
  | [d] => (match vS G d with
    | some ks => Q (.int (ks.length : Nat)) G
    | none => False)
  | _ => False
theorem sim_lenS {B : Bd} : SimC B rLenS (rLenSetV B.P B.w) := by
  intro F W σ H Q τ G QT' ET ds vs p r h
  unfold rLenS at h
  split at h
  · obtain ⟨v, rfl, r1⟩ := r.inv1
    split at h
    · rename_i ks ex
      obtain ⟨a, rfl, ha⟩ := vS_ok p.wd r1 ex
      exact ⟨a, _, _, rfl, ha, p.ok _ _ G H rp_int p.wd Stp.refl h⟩
    · exact h.elim
  · exact h.elim
def eSetC (ta : A1) : E1 := eB rSetC ta
def eLenS (ta : A1) : E1 := eB rLenS ta
section
variable {X : Cx} {W : WX} {p pos : Pos} {e : Expr} {es : List Expr} {ta : A1}
variable (ha : QA X W (e :: es) ta) (he : starEach (e :: es) X.env = (false, eval e X.env) :: starEach es X.env) (hpl : (backTo pos (starEach es X.env)).any (·.1) = false)
include ha he hpl
theorem qe_setC (hc : X.calm = true) (hg : Gl X "set") (hm : X.mg "set" = none) : QE X W (.Call (.Name "set" p) (e :: es) [] pos) (eSetC ta) := qe_bt sim_setC (cr_setSeq hc) hg hm (by rfl) ha (he := he) (hpl := hpl)
theorem qe_lenS (hg : Gl X "len") (hm : X.mg "len" = none) : QE X W (.Call (.Name "len" p) (e :: es) [] pos) (eLenS ta) := qe_bi sim_lenS cr_lenSet hg hm (by rfl) ha (he := he) (hpl := hpl)
end
end TL
end
section
/-! TL22: set comprehensions, of texts and ints. -/
namespace TLS
open PySem PySem.Spec PyProof.Rows L2 PpSet
section
variable {X : Cx}
theorem freshK {P : Program} {w : World} {h : Heap} : (h.push { cls := .type "set", dict := none, data := .set #[] 0 (.fresh 0 0 (!w.params.followText "set-order")) }).SetOf (mixKind P w) h.objs.size (fun _ => false) 0 :=
  ⟨_, #[], 0, _, Heap.get?_push_size _ rfl, ⟨rfl, rfl, rfl⟩, rfl, (fun e he => by simp at he), (fun k => by simp), (by decide), (by rfl), rfl⟩
theorem addK_ok {pins : List (Addr × Obj)} {σ : L2.St} {H : Hp} {s : Shared} {E : Value → Shared → Prop} {D : Addr} {S : Key → Bool} {n : Nat} {y : Key} {u : Value} {Q : Value → Shared → Prop} (I : Inv X pins σ H s) (ru : RelV (kV y) u) (hD : H D = some (SetK X.prog X.w D S n)) (room : n + 1 < scanBound)
    (h : ∀ s', Inv X pins σ (upd H D (SetK X.prog X.w D (fun j => S j || decide (j = y)) (if S y = true then n else n + 1))) s' → Q .none s') : wpAny (model X.prog X.w) X.A (call (.builtin "set.add") [.ref D, u]) Q E s := by
  refine call_set_add (kV_is ru) (key_scan ru) (setK_get I hD) room fun h' sb new => ?_
  have he : ∃ o, h'.get? D = some o := by
    have ⟨o, _, _, _, ho, _⟩ := new
    exact ⟨o, ho⟩
  exact h _ (I.write (e := D) (t' := s.toks + 1) (by rw [hD]; trivial) (.inl rfl) (fun b u hb hu => (sb.2 b hb).trans hu) he (setK_new new))
/-- {elt for target in iter if ..}, elt a text or an int: D the new set -/
def tScK (P : Program) (w : World) (wi : TI) (g : TG) (tt : TT) (te : TE) (vs : List Nat) : TE := fun σ H Q => wi σ H fun J H1 => ∀ D, H1 D = none → ∃ W : Nat → Nat → Hp → Prop, (∃ m, W 0 m (upd H1 D (SetK P w D (fun _ => false) 0))) ∧ ∀ i m H, W i m H →
  (J.stop i H ∧ Q (.ref D) H) ∨ (J.go i H ∧ ∃ Nx : Hp → Prop, (∀ H', Nx H' → ∃ m', m' < m ∧ W (i + 1) m' H') ∧ ∀ x H', J.yld i H x H' → g x (wipe σ vs) H' fun σ2 H2 => wipe σ2 vs = wipe σ vs ∧ tt σ2 H2 fun b H3 =>
    if b = true then te σ2 H3 fun y H4 => ∃ (c : Key) (S : Key → Bool) (n : Nat), y = kV c ∧ H4 D = some (SetK P w D S n) ∧ n + 1 < scanBound ∧ Nx (upd H4 D (SetK P w D (fun j => S j || decide (j = c)) (if S c = true then n else n + 1))) else Nx H3)
theorem sc_coreK {pins : List (Addr × Obj)} {s : Shared} {σ : L2.St} {H : Hp} {Q : VK} {elt tg iter : Expr} {ifs : List Expr} {scope : Scope} {own : List (PySem.Str × Nat)} {pos pos' : Pos} {wi : TI} {g : TG} {tt : TT} {te : TE} {use : Option (Value → Sem Unit)} {Qf : Value → Shared → Prop}
    (hc : X.calm = true) (hN : X.N.Nodup) (I : Inv X pins σ H s) (hi : PI X tg iter wi) (ok : BlkOk X.N X.env.scope scope own)
    (hg : ∀ (s : Shared) (H : Hp) (C : Addr) (cl : List (PySem.Str × Addr)) (fp : List Addr), PG (X.blk s H scope (compEnvC scope cl C X.env) fp) tg g) (ht : ∀ (s : Shared) (H : Hp) (C : Addr) (cl : List (PySem.Str × Addr)) (fp : List Addr), PTs (X.blk s H scope (compEnvC scope cl C X.env) fp) ifs tt)
    (he : ∀ (s : Shared) (H : Hp) (C : Addr) (cl : List (PySem.Str × Addr)) (fp : List Addr), PE (X.blk s H scope (compEnvC scope cl C X.env) fp) elt te) (hs : ∀ x, foldedSetIterable iter X.env x = pure x)
    (h : tScK X.prog X.w wi g tt te (own.map (·.2)) σ H Q)
    (hRR : ∀ D C s' m H', Inv X pins σ H' s' → Q (.ref D) H' → s'.heap.Ns C m → FpOk X pins H' C → compPost (model X.prog X.w) X.A X.xe use Qf (.ref D) C (.ok .next) s') :
    wpAny (model X.prog X.w) X.A (comprehension (.SetComp elt [⟨tg, iter, ifs, 0⟩] scope pos) scope X.env pos' (newSet (.type "set")) false (eval iter X.env) use) Qf X.xe s := by
  have hfree : ∀ y ∈ scope.names, y.2 = .free → ∃ c, X.env.cells.lookup y.1 = some c := fun y hy e => by
    rcases ok.free y hy e with k | k
    · exact I.ok.has _ (.inl k)
    · exact I.ok.has _ (.inr k)
  refine wpAny_comprehension_free (use := use) rfl hs (closure_ok hfree) ok.kind (fun y hy e => by rw [ok.uniq y hy, e])
    (thn (hi.run pins s σ H _ I h) fun xv s1 hx => thn hx fun itv s2 h2 => ?_)
  obtain ⟨it, fp, tn, J, H2, e, I2, T, st2, f2, q⟩ := h2
  subst e
  refine newSet_ok (newEnv_comp ?_)
  generalize hD : s2.heap.objs.size = D
  have hDn : H2 D = none := I2.hok.fresh (Nat.le_of_eq hD)
  obtain ⟨W, ⟨m0, w0⟩, turn⟩ := q D hDn
  -- the new list
  generalize hs3 : ({ s2 with heap := s2.heap.push { cls := .type "set", dict := none, data := .set #[] 0 (.fresh 0 0 (!X.w.params.followText "set-order")) } } : Shared) = s3
  have I3 : Inv X pins σ (upd H2 D (SetK X.prog X.w D (fun _ => false) 0)) s3 := by
    rw [← hs3]
    refine I2.laid (t' := s2.toks) (fun b o e => Heap.get?_push_of_some _ e) (Nat.le_of_eq hD) ?_
    rw [← hD]
    exact setK_new freshK
  have h3 : s3.heap = s2.heap.push { cls := .type "set", dict := none, data := .set #[] 0 (.fresh 0 0 (!X.w.params.followText "set-order")) } := by rw [← hs3]
  have sz : ∀ b ∈ fp, b < s2.heap.objs.size := fun b hb => by
    obtain ⟨o, e, _⟩ := T.obj _ _ st2 b hb
    exact Heap.lt_size e
  have f3 : ∀ b ∈ fp, FpOk X pins (upd H2 D (SetK X.prog X.w D (fun _ => false) 0)) b ∧ b < s3.heap.objs.size := fun b hb => by
    have hlt := sz b hb
    refine ⟨⟨?_, (f2 b hb).2⟩, by rw [h3, Heap.size_push]; exact Nat.lt_succ_of_lt hlt⟩
    rw [upd_ne (by rw [← hD]; exact Nat.ne_of_lt hlt)]
    exact (f2 b hb).1
  have st3 : tn 0 s3.heap := T.keep _ _ _ st2 fun b _ o e => by rw [h3]; exact Heap.get?_push_of_some _ e
  have I4 := block_start I3 ok hN f3
  have pg := hg s3 (upd H2 D (SetK X.prog X.w D (fun _ => false) 0)) s3.heap.objs.size (cellsFrom (s3.heap.objs.size + 1) scope.names (cloFrom X.env.cells scope.names [])) fp
  have pt := ht s3 (upd H2 D (SetK X.prog X.w D (fun _ => false) 0)) s3.heap.objs.size (cellsFrom (s3.heap.objs.size + 1) scope.names (cloFrom X.env.cells scope.names [])) fp
  have pe := he s3 (upd H2 D (SetK X.prog X.w D (fun _ => false) 0)) s3.heap.objs.size (cellsFrom (s3.heap.objs.size + 1) scope.names (cloFrom X.env.cells scope.names [])) fp
  show codeAny _ _ (.compStart (.SetComp elt [⟨tg, iter, ifs, 0⟩] scope pos) 0 (.ref it) (.ref D) (compEnvC scope (cellsFrom (s3.heap.objs.size + 1) scope.names (cloFrom X.env.cells scope.names [])) s3.heap.objs.size X.env)) (compPost (model X.prog X.w) X.A X.xe use Qf (.ref D) s3.heap.objs.size) { s3 with heap := pushCells (s3.heap.push { cls := .type "dict", data := .dict #[] }) scope.names }
  have nfp : ∀ b ∈ fp, (upd H2 D (SetK X.prog X.w D (fun _ => false) 0)) b = none := fun b hb => (f3 b hb).1.1
  generalize hce : compEnvC scope (cellsFrom (s3.heap.objs.size + 1) scope.names (cloFrom X.env.cells scope.names [])) s3.heap.objs.size X.env = ce at I4 pg pt pe ⊢
  have cL : ce.locals = s3.heap.objs.size := by subst hce; rfl
  generalize hH3 : upd H2 D (SetK X.prog X.w D (fun _ => false) 0) = H3 at I3 I4 pg pt pe w0 nfp f3
  generalize hs4 : ({ s3 with heap := pushCells (s3.heap.push { cls := .type "dict", data := .dict #[] }) scope.names } : Shared) = s4 at I4 ⊢
  have st4 : tn 0 s4.heap := T.keep _ _ _ st3 fun b _ o e => by rw [← hs4]; exact pushCells_keeps _ _ _ _ (Heap.get?_push_of_some _ e)
  have stat : ∀ {σ' : L2.St} {H' : Hp} {s' : Shared}, Inv (X.blk s3 H3 scope ce fp) [] σ' H' s' → (∀ b ∈ fp, H' b = none) → ∀ b ∈ fp, FpOk (X.blk s3 H3 scope ce fp) [] H' b := fun {σ' H' s'} I' hn b hb =>
    ⟨hn b hb, (I'.ok.exf b hb).1, I'.ok.exfs b hb, .inl hb, fun x c e => (I'.ok.exf b hb).2 x c e, fun p hp => absurd (show p ∈ ([] : List (Addr × Obj)) ++ [] from hp) (by simp)⟩
  have loop : codeAny (model X.prog X.w) X.A (.compLoop (.SetComp elt [⟨tg, iter, ifs, 0⟩] scope pos) 0 (.ref it) (.ref D) ce) (compPost (model X.prog X.w) X.A X.xe use Qf (.ref D) s3.heap.objs.size) s4 := by
    refine compLoopS_any (fun n s' => ∃ i H', Inv (X.blk s3 H3 scope ce fp) [] (wipe σ (own.map (·.2))) H' s' ∧ tn i s'.heap ∧ (∀ b ∈ fp, H' b = none) ∧ W i n H') ?_ m0 ⟨0, H3, I4, st4, nfp, w0⟩
    rintro n s5 ⟨i, H5, I5, st5, n5, w5⟩
    rcases turn i n H5 w5 with ⟨stop, qq⟩ | ⟨go, Nx, hNx, step⟩
    · have td := T.done (X.blk s3 H3 scope ce fp) rfl rfl rfl hc i [] s5 _ H5 (fun _ _ => False) I5 (stat I5 n5) st5 stop
      refine thnF td fun r s6 ⟨hr, I6⟩ => ?_
      subst hr
      -- back in the def's context
      have I7 : Inv X pins σ H5 s6 := I3.call' (ch := fp) I6.os I6.base I6.hok I6.bare fun b hb => ⟨(f3 b hb).1.2.2.2.1, (f3 b hb).1.2.1, (f3 b hb).1.2.2.2.2.1, (f3 b hb).1.2.2.2.2.2⟩
      have nC : H5 s3.heap.objs.size = none := by
        have z : H5 ce.locals = none := I6.free
        rw [cL] at z
        exact z
      obtain ⟨m, hn, _⟩ := I6.loc
      have hn : s6.heap.Ns ce.locals m := hn
      rw [cL] at hn
      exact hRR D s3.heap.objs.size s6 m H5 I7 qq hn (I3.fpOk (Nat.le_refl _) nC)
    · have ti := T.item (X.blk s3 H3 scope ce fp) rfl rfl rfl hc i [] s5 _ H5 (fun _ _ => False) I5 (stat I5 n5) st5 go
      refine thnF ti fun r s6 ⟨u, hr, h6⟩ => ?_
      subst hr
      refine thnF h6 fun _ s7 ⟨x, H7, I7, r7, y7, st7, n7⟩ => ?_
      have I7' := I7.pinned (stat I7 n7) (T.obj _ _ st7)
      refine thnF (pg.run _ s7 _ H7 x u _ I7' r7 (step x H7 y7)) fun _ s8 ⟨σ8, H8, I8, hw8, q8⟩ => ?_
      refine thnF (pt.run _ s8 σ8 H8 _ I8 q8) fun b s9 ⟨H9, I9, q9⟩ => ?_
      -- the turn's end
      have fin : ∀ {s' : Shared} {H' : Hp}, Inv (X.blk s3 H3 scope ce fp) ([] ++ pinsAt fp s7.heap) σ8 H' s' → Nx H' → ∃ m, m < n ∧ ∃ i H', Inv (X.blk s3 H3 scope ce fp) [] (wipe σ (own.map (·.2))) H' s' ∧ tn i s'.heap ∧ (∀ b ∈ fp, H' b = none) ∧ W i m H' := fun {s' H'} I' nx => by
        obtain ⟨m', hm, w'⟩ := hNx H' nx
        have pin' : ∀ b ∈ fp, ∀ o, s7.heap.get? b = some o → s'.heap.get? b = some o ∧ H' b = none := fun b hb o e =>
          let z := I'.pin (b, o) (List.mem_append_right _ (List.mem_append_right _ (mem_pinsAt hb e)))
          ⟨z.1, z.2.1⟩
        have hl : (wipe σ (own.map (·.2))).length = σ8.length := by rw [← hw8, wipe_length]
        refine ⟨m', hm, i + 1, H', (I'.unpinned (pins := [])).weak hl (fun j v e => ?_), T.keep _ _ _ st7 fun b hb o e => (pin' b hb o e).1, fun b hb => ?_, w'⟩
        · rw [← hw8] at e
          exact (wipe_some e).1
        · obtain ⟨o, e, _⟩ := T.obj _ _ st7 b hb
          exact (pin' b hb o e).2
      cases b with
      | false =>
        simp only [Bool.false_eq_true, if_false] at q9 ⊢
        exact fin I9 q9
      | true =>
        simp only [if_true] at q9 ⊢
        refine thnF (pe.run _ s9 σ8 H9 _ I9 q9) fun z s10 ⟨yv, H10, I10, r10, cb, S0, n0, ey, hD10, hz10, nx⟩ => ?_
        subst ey
        exact addK_ok (X := X.blk s3 H3 scope ce fp) I10 r10 hD10 hz10 fun s11 I11 => fin I11 nx
  exact codeAny_compStart_set loop (T.self X.A 0 _ _ _ st4 loop)
/-- as a value -/
theorem pe_scK {elt tg iter : Expr} {ifs : List Expr} {scope : Scope} {own : List (PySem.Str × Nat)} {pos : Pos} {wi : TI} {g : TG} {tt : TT} {te : TE} (hc : X.calm = true) (hN : X.N.Nodup) (hi : PI X tg iter wi) (ok : BlkOk X.N X.env.scope scope own)
    (hg : ∀ (s : Shared) (H : Hp) (C : Addr) (cl : List (PySem.Str × Addr)) (fp : List Addr), PG (X.blk s H scope (compEnvC scope cl C X.env) fp) tg g) (ht : ∀ (s : Shared) (H : Hp) (C : Addr) (cl : List (PySem.Str × Addr)) (fp : List Addr), PTs (X.blk s H scope (compEnvC scope cl C X.env) fp) ifs tt)
    (he : ∀ (s : Shared) (H : Hp) (C : Addr) (cl : List (PySem.Str × Addr)) (fp : List Addr), PE (X.blk s H scope (compEnvC scope cl C X.env) fp) elt te) (hs : ∀ x, foldedSetIterable iter X.env x = pure x := by intro _; rfl) :
    PE X (.SetComp elt [⟨tg, iter, ifs, 0⟩] scope pos) (tScK X.prog X.w wi g tt te (own.map (·.2))) := by
  refine ⟨fun pins s σ H Q I h => ?_⟩
  rw [eval_SetComp]
  refine sc_coreK hc hN I hi ok hg ht he hs h fun D C s' m H' I' q hn f => ⟨m, hn, fun h'' sb => ?_⟩
  obtain ⟨f0, f1, f2, f3, f4, f5⟩ := f
  exact ⟨.ref D, H', I'.turned (t' := s'.toks) (fun b o hb e => (sb.2 b hb).trans e) f0 f1 f3 f4 f5, rfl, q⟩
end
end TLS
end
section
/-! TL23: set comprehensions over trees. -/
namespace TL
open PySem PySem.Spec L2
section
variable (t : TgN) (tt : T1) (te : E1) (τ : Sl) (gd : GH → Prop) (Q : List Key → GH → Prop)
def eScL : List D → List Key → GH → Prop
  | [], acc, G => Q acc G
  | d :: r, acc, G => acc.length + 1 < scanBound ∧ match gT t d τ G with
    | some τ1 => tt τ1 G (fun b G2 => if b = true then te τ1 G2 (fun y G3 => match keyD y with
      | some k => gd G3 ∧ eScL r (addKey acc k) G3
      | none => False) EF else gd G2 ∧ eScL r acc G2) EF
    | none => False
end
/-- {te for t in ti if tt}, as a cell -/
def eScC (ti : I1) (t : TgN) (tt : T1) (te : E1) (vs : List Nat) : E1 := fun τ G Q E => ti τ G (fun xs gd G1 => eScL t tt te (wipeT τ vs) gd (fun acc G2 => ∀ p, G2 p = none → Q (.ref p) (gup G2 p (.sK acc))) xs [] G1) E
theorem Fz.turnS {P : Program} {w : World} {D0 : Addr} {H : Hp} {l : Fzs} (h : Fz l H) {o : HO} {S : Key → Bool} {n : Nat} (hd : H D0 = some (SetK P w D0 S n)) : Fz l (upd H D0 o) := fun p hp => by
  rw [upd_ne fun z => by have := h p hp; rw [z, hd] at this; cases this]
  exact h p hp
theorem sc_sim {K : PySem.W.Frag} {B : Bd} (hK : B.K = K) {F : Addr → Prop} {σ : L2.St} {τ : Sl} {G1 : GH} {H1 : Hp} {J : It} {ys : List D} {vs0 : List V} {xs : List D} {gd : GH → Prop} {fz : Fzs} {t : TgN} {tt : T1} {te : E1} {vs : List Nat} {QT' : List Key → GH → Prop} {Q : VK}
    (ins : t.ins vs) (sl : RpS (B.hide F) G1 H1 σ τ) (wd : Wd (B.hide F) G1 H1) (ok : ItOk (B.hide F) J ys vs0 xs gd fz) (ry : RpL (B.hide F) G1 H1 ys vs0) (g1 : gd G1) (f1 : Fz fz H1)
    (q : eScL t tt te (wipeT τ vs) gd QT' xs [] G1)
    (fin : ∀ (D0 : Addr) (acc : List Key) (G : GH) (H : Hp), H1 D0 = none → Stp G1 H1 G H → H D0 = some (SetK B.P B.w D0 (inK acc) acc.length) → Wd ((B.hide F).plus D0) G H → QT' acc G → Q (.ref D0) H) :
    ∀ D, H1 D = none → ∃ W : Nat → Nat → Hp → Prop, (∃ m, W 0 m (upd H1 D (SetK B.P B.w D (fun _ => false) 0))) ∧ ∀ i m H, W i m H →
  (J.stop i H ∧ Q (.ref D) H) ∨ (J.go i H ∧ ∃ Nx : Hp → Prop, (∀ H', Nx H' → ∃ m', m' < m ∧ W (i + 1) m' H') ∧ ∀ x H', J.yld i H x H' → gV K t x (L2.wipe σ vs) H' fun σ2 H2 => L2.wipe σ2 vs = L2.wipe σ vs ∧ LT B WF tt σ2 H2 fun b H3 =>
    if b = true then LE B WF te σ2 H3 fun y H4 => ∃ (c : Key) (S : Key → Bool) (n : Nat), y = kV c ∧ H4 D = some (SetK B.P B.w D S n) ∧ n + 1 < scanBound ∧ Nx (upd H4 D (SetK B.P B.w D (fun j => S j || decide (j = c)) (if S c = true then n else n + 1))) else Nx H3) := by
  subst hK
  intro D0 hD
  have tr0 : Tr (B.hide F) ((B.hide F).plus D0).F G1 H1 G1 (upd H1 D0 (SetK B.P B.w D0 (fun _ => false) 0)) := Tr.hide hD
  refine ⟨fun i m H' => i ≤ xs.length ∧ m = xs.length - i ∧ ∃ acc G', H' D0 = some (SetK B.P B.w D0 (inK acc) acc.length) ∧ RpS ((B.hide F).plus D0) G' H' (L2.wipe σ vs) (wipeT τ vs) ∧ RpL ((B.hide F).plus D0) G' H' ys vs0 ∧ Wd ((B.hide F).plus D0) G' H' ∧ Stp G1 H1 G' H' ∧ gd G' ∧ Fz fz H' ∧ eScL t tt te (wipeT τ vs) gd QT' (xs.drop i) acc G',
    ⟨xs.length, Nat.zero_le _, rfl, [], G1, upd_same, (sl.wipe vs).tr tr0, ry.tr tr0, wd.hide hD, Stp.refl.turn hD, g1, f1.fresh hD, q⟩, ?_⟩
  rintro i m H' ⟨hi, rfl, acc, G', hd', rs, ry', w', s', g', f', q'⟩
  have hF : ((B.hide F).plus D0).F D0 := .inr rfl
  have nD : ∀ {G H}, Wd ((B.hide F).plus D0) G H → G D0 = none := fun w => (w.hd D0 hF).1
  by_cases he : i = xs.length
  · subst he
    rw [List.drop_length] at q'
    exact .inl ⟨ok.stop _ G' H' ry' w' g' f', fin D0 acc G' H' hD s' hd' w' q'⟩
  · have hl : i < xs.length := by omega
    obtain ⟨d, e1, e2⟩ := drop_at hl
    rw [e2] at q'
    refine .inr ⟨ok.go _ G' H' i ry' w' g' f' hl, _, fun H2 h => h, fun v H2 hy => ?_⟩
    obtain ⟨rd, w2, s2⟩ := ok.yld _ G' H' i d v H2 ry' w' g' f' e1 hy
    unfold eScL at q'
    obtain ⟨hz, q'⟩ := q'
    split at q'
    · rename_i τ1 e3
      refine gT_ok (B := (B.hide F).plus D0) w2 e3 rd (rs.step w' s2) fun σ2 r2 own => ⟨(own vs ins).trans wipe_wipe, ?_⟩
      refine ⟨((B.hide F).plus D0).F, τ1, G', _, EF, ⟨r2, w2, fun b G3 H3 w3 s3 q3 => ?_, fun _ _ _ _ _ _ _ _ h => h⟩, q'⟩
      have s13 := s2.trans s3
      cases b with
      | false =>
        rw [if_neg (by decide)] at q3
        rw [if_neg (by decide)]
        exact ⟨_, by omega, by omega, rfl, acc, G3, s13.keep D0 _ hd' (nD w'), rs.step w' s13, ry'.step w' s13, w3, s'.trans s13, q3.1, f'.step s13, q3.2⟩
      | true =>
        rw [if_pos rfl] at q3
        rw [if_pos rfl]
        refine ⟨((B.hide F).plus D0).F, τ1, G3, _, EF, ⟨r2.step w2 s3, w3, fun y d4 G4 H4 r4 w4 s4 q4 => ?_, fun _ _ _ _ _ _ _ _ h => h⟩, q3⟩
        split at q4
        · rename_i k ek
          have s15 := s13.trans s4
          have hd5 : H4 D0 = some (SetK B.P B.w D0 (inK acc) acc.length) := s15.keep D0 _ hd' (nD w')
          have eS : (fun j => inK acc j || decide (j = k)) = inK (addKey acc k) := funext fun j => (inK_add acc k j).symm
          have tr5 : Tr ((B.hide F).plus D0) ((B.hide F).plus D0).F G4 H4 G4 (upd H4 D0 (SetK B.P B.w D0 (inK (addKey acc k)) (addKey acc k).length)) := Tr.turnO hF hd5 fun _ => nofun
          refine ⟨k, inK acc, acc.length, keyD_ok r4 ek, hd5, hz, ?_⟩
          rw [eS, ← len_add]
          exact ⟨_, by omega, by omega, rfl, addKey acc k, G4, upd_same, RpS.tr (B := (B.hide F).plus D0) tr5 (rs.step w' s15), (ry'.step w' s15).tr tr5, w4.turnO hF hd5 (fun _ => nofun), (s'.trans s15).turn hD, q4.1, (f'.step s15).turnS hd5, q4.2⟩
        · exact q4.elim
    · exact q'.elim
theorem fin_scC {B : Bd} {F : Addr → Prop} {W : WX} {σ : L2.St} {H : Hp} {Q : VK} {τ : Sl} {G G1 : GH} {H1 : Hp} {QT' : KD} {ET : KX} (P : Pt (B.hide F) W σ H Q τ G QT' ET) (wd : Wd (B.hide F) G1 H1) (s1 : Stp G H G1 H1) :
    ∀ (D0 : Addr) (acc : List Key) (G : GH) (H : Hp), H1 D0 = none → Stp G1 H1 G H → H D0 = some (SetK B.P B.w D0 (inK acc) acc.length) → Wd ((B.hide F).plus D0) G H → (∀ p, G p = none → QT' (.ref p) (gup G p (.sK acc))) → Q (.ref D0) H := by
  intro D0 acc G' H' hn s hd w q
  have gn := (w.hd D0 (.inr rfl)).1
  refine P.ok _ _ (gup G' D0 (.sK acc)) H' rp_ref (w.showC (show RpC _ _ _ D0 (.sK acc) from hd) (wd.of_none hn).2) (s1.trans ⟨s.keep, s.frz, fun a e => ?_⟩) (q D0 gn)
  by_cases z : a = D0
  · rw [z]; exact .inr hn
  · rw [gup_ne z] at e; exact s.new a e
section
variable {X : Cx} {W : WX} {pos : Pos}
theorem qe_scC {elt tg iter : Expr} {ifs : List Expr} {scope : Scope} {own : List (Str × Nat)} {ti : I1} {t : TgN} {tt : T1} {te : E1} (hc : X.calm = true) (hN : X.N.Nodup) (hi : QI X W tg iter ti) (ok : BlkOk X.N X.env.scope scope own) (ins : t.ins (own.map (·.2)))
    (hg : ∀ (s : Shared) (H : Hp) (C : Addr) (cl : List (Str × Addr)) (fp : List Addr), PG (X.blk s H scope (compEnvC scope cl C X.env) fp) tg (gV X.K t))
    (ht : ∀ (s : Shared) (H : Hp) (C : Addr) (cl : List (Str × Addr)) (fp : List Addr), QTs (X.blk s H scope (compEnvC scope cl C X.env) fp) WF ifs tt)
    (he : ∀ (s : Shared) (H : Hp) (C : Addr) (cl : List (Str × Addr)) (fp : List Addr), QE (X.blk s H scope (compEnvC scope cl C X.env) fp) WF elt te)
    (hs : ∀ x, foldedSetIterable iter X.env x = pure x := by intro _; rfl) : QE X W (.SetComp elt [⟨tg, iter, ifs, 0⟩] scope pos) (eScC ti t tt te (own.map (·.2))) :=
  PE.imp (TLS.pe_scK (tt := LT (bd X) WF tt) (te := LE (bd X) WF te) hc hN hi ok hg ht he hs) fun σ H Q ⟨F, τ, G, QT', ET, P, q⟩ =>
    ⟨F, τ, G, _, ET, ⟨P.sl, P.wd, fun J ys vs0 xs gd fz G1 H1 ok ry g1 f1 w1 s1 q1 => sc_sim (B := bd X) rfl ins (P.sl.step P.wd s1) w1 ok ry g1 f1 q1 (fin_scC P w1 s1), P.ex⟩, q⟩
end
end TL
end
section
/-! TL24: dict displays with items. -/
namespace TL
open PySem PySem.Spec L2
/-- the pairs of a display, one behind another -/
def ePrs : List (E1 × E1) → Sl → GH → (List (Key × D) → GH → Prop) → KX → Prop
  | [], _, G, Q, _ => Q [] G
  | (tk, tv) :: r, τ, G, Q, E => tk τ G (fun y G1 => match keyD y with
    | some k => tv τ G1 (fun z G2 => ePrs r τ G2 (fun ps G3 => Q ((k, z) :: ps) G3) E) E
    | none => False) E
/-- {k: v, ..}, a cell -/
def eDisp (ts : List (E1 × E1)) : E1 := fun τ G Q E => ∀ p, G p = none → ePrs ts τ (gup G p (.dK [])) (fun kds G2 => G2 p = some (.dK []) ∧ kds.length ≤ 15 ∧ Q (.ref p) (gup G2 p (.dK (mergeD [] kds)))) E
def lowP (B : Bd) (W : WX) (ts : List (E1 × E1)) : List (TE × TE) := ts.map fun q => (LE B W q.1, LE B W q.2)
theorem le_prs {B : Bd} {F : Addr → Prop} {W : WX} : ∀ (ts : List (E1 × E1)) {σ : L2.St} {H : Hp} {τ : Sl} {G : GH} {Q : List (V × V) → Hp → Prop} {QT : List (Key × D) → GH → Prop} {ET : KX}, RpS (B.hide F) G H σ τ → Wd (B.hide F) G H →
    (∀ kds kvs G' H', RpG (B.hide F) G' H' kds kvs → Wd (B.hide F) G' H' → Stp G H G' H' → QT kds G' → Q (kvs.map fun q => (kV q.1, q.2)) H') →
    (∀ c d fs G' H', RpX (B.hide F) G' H' d fs → Wd (B.hide F) G' H' → Stp G H G' H' → ET c fs G' → W c d σ H') → ePrs ts τ G QT ET → tPairs (lowP B W ts) σ H Q
  | [], σ, H, τ, G, Q, QT, ET, sl, wd, ok, ex, q => ok [] [] G H (show Paired _ _ _ from .nil) wd Stp.refl q
  | (tk, tv) :: r, σ, H, τ, G, Q, QT, ET, sl, wd, ok, ex, q => by
    show LE B W tk σ H _
    refine ⟨F, τ, G, _, ET, ⟨sl, wd, fun y d G1 H1 ry w1 s1 q1 => ?_, ex⟩, q⟩
    split at q1
    · rename_i k ek
      refine ⟨F, τ, G1, _, ET, ⟨sl.step wd s1, w1, fun z e G2 H2 rz w2 s2 q2 => ?_, fun c d fs G' H' rx w' s' h => ex c d fs G' H' rx w' (s1.trans s') h⟩, q1⟩
      refine le_prs r ((sl.step wd s1).step w1 s2) w2 (fun kds kvs G3 H3 rg w3 s3 q3 => ?_) (fun c d fs G' H' rx w' s' h => ex c d fs G' H' rx w' ((s1.trans s2).trans s') h) q2
      have e1 := keyD_ok ry ek
      subst e1
      exact ok ((k, e) :: kds) ((k, z) :: kvs) G3 H3 (.cons ⟨rfl, rz.step w2 s3⟩ rg) w3 ((s1.trans s2).trans s3) q3
    · exact q1.elim
section
variable {X : Cx} {W : WX} {pos : Pos} {keys : List (Option Expr)} {values : List Expr} {ts : List (E1 × E1)} {k v : Expr} {tk tv : E1}
def QPs (X : Cx) (W : WX) (pos : Pos) (keys : List (Option Expr)) (values : List Expr) (ts : List (E1 × E1)) : Prop := PPs X pos keys values (lowP (bd X) W ts)
theorem qps_nil : QPs X W pos [] [] [] := pps_nil
theorem qps_cons (hk : QE X W k tk) (hv : QE X W v tv) (hr : QPs X W pos keys values ts) : QPs X W pos (some k :: keys) (v :: values) ((tk, tv) :: ts) := pps_cons hk hv hr
theorem qe_disp (h : QPs X W pos keys values ts) (hall : keys.all (·.isSome) = true := by rfl) (hl : keys.length = values.length := by rfl) (h0 : keys ≠ [] := by nofun) (h15 : keys.length ≤ 15 := by decide) : QE X W (.Dict keys values pos) (eDisp ts) :=
  PE.imp (pe_disp h hall hl h0 h15) fun σ H Q ⟨F, τ, G, QT', ET, P, q⟩ p hp => by
    have wn : Wd ((bd X).hide F) (gup G p (.dK [])) (upd H p (.dK [])) := P.wd.cell hp ⟨[], upd_same, by unfold RpK; rfl⟩
    refine le_prs ts (P.sl.step P.wd (Stp.cell hp)) wn (fun kds kvs G' H' rg w s q2 => ?_) (fun c d fs G' H' rx w s h => P.ex c d fs G' H' rx w ((Stp.cell hp).trans s) h) (q p (P.wd.none_of hp))
    obtain ⟨g, hl2, q3⟩ := q2
    obtain ⟨vs, h1, h2⟩ := dK_cell w g
    have e0 : vs = [] := by
      have := h2.length
      simpa using this
    subst e0
    refine ⟨h1, kvs, rfl, by rw [rg.length]; exact hl2, ?_⟩
    have rm : RpG ((bd X).hide F) G' H' (mergeD [] kds) (mergeK [] kvs) := rg.merge (show Paired _ _ _ from .nil)
    obtain ⟨w3, s3⟩ := dK_put w g h1 rm
    exact P.ok _ _ _ _ rp_ref w3 (((Stp.cell hp).trans s).trans s3) q3
end
end TL
end
section
/-! TL28: o[i], o2[j] = e: a pair stored at two places. -/
namespace TL
open PySem PySem.Spec L2
def sPut2 (to ti to2 ti2 te : E1) : S1 := fun DT E τ G => te τ G (fun d G1 => match d with
  | .tup [v, y] => to τ G1 (fun o G2 => ti τ G2 (fun i G3 => match putC G3 o i v with
    | some G4 => to2 τ G4 (fun o2 G5 => ti2 τ G5 (fun i2 G6 => match putC G6 o2 i2 y with
      | some G7 => DT.nx τ G7
      | none => False) (fun c f g => E c f τ g)) (fun c f g => E c f τ g)
    | none => False) (fun c f g => E c f τ g)) (fun c f g => E c f τ g)
  | _ => False) (fun c f g => E c f τ g)
section
variable {X : Cx} {W : WX} {pos : Pos}
theorem qs_put2 {o i o2 i2 e : Expr} {to ti to2 ti2 te : E1} {tpos tpos2 : Pos} {tp : Pos} {kk : Nat} (hu : X.A.units + 1 < cLine) (hc : X.calm = true) (ho : QE X W o to) (hi : QE X W i ti) (ho2 : QE X W o2 to2) (hi2 : QE X W i2 ti2) (he : QE X W e te)
    (hs : swapsWithSole [.Tuple [.Subscript o i tpos, .Subscript o2 i2 tpos2] kk tp] e pos.line X.env = pure false := by rfl) (hw : swappedStores [.Tuple [.Subscript o i tpos, .Subscript o2 i2 tpos2] kk tp] e X.env = pure none := by rfl)
    (h1 : (assignEach [.Tuple [.Subscript o i tpos, .Subscript o2 i2 tpos2] kk tp] X.env).map (·.2) = [assign (.Tuple [.Subscript o i tpos, .Subscript o2 i2 tpos2] kk tp) X.env] := by rfl)
    (ha : ∀ v, assign (.Subscript o i tpos) X.env v = (do
      let ov ← holding [v] (eval o X.env)
      let iv ← holding [v, ov] (eval i X.env)
      standAt tpos
      holding [v, ov, iv] (setItem ov iv v)
      release [v, ov, iv] []) := by intro _; rfl)
    (ha2 : ∀ v, assign (.Subscript o2 i2 tpos2) X.env v = (do
      let ov ← holding [v] (eval o2 X.env)
      let iv ← holding [v, ov] (eval i2 X.env)
      standAt tpos2
      holding [v, ov, iv] (setItem ov iv v)
      release [v, ov, iv] []) := by intro _; rfl)
    (hn : (assignEach [.Subscript o i tpos, .Subscript o2 i2 tpos2] X.env).length = 2 := by rfl) (hst : (assignEach [.Subscript o i tpos, .Subscript o2 i2 tpos2] X.env).findIdx? (·.1) = none := by rfl)
    (h2 : (assignEach [.Subscript o i tpos, .Subscript o2 i2 tpos2] X.env).map (·.2) = assign (.Subscript o i tpos) X.env :: (assignEach [.Subscript o2 i2 tpos2] X.env).map (·.2) := by rfl) (h3 : (assignEach [.Subscript o2 i2 tpos2] X.env).map (·.2) = assign (.Subscript o2 i2 tpos2) X.env :: (assignEach [] X.env).map (·.2) := by rfl) :
    QS X W (.Assign [.Tuple [.Subscript o i tpos, .Subscript o2 i2 tpos2] kk tp] e pos) (sPut2 to ti to2 ti2 te) :=
  PS.imp (ps_asg he (pg_tup hc (pgs_cons (pg_sub ho hi (ps_setV hu) ha) (pgs_cons (pg_sub ho2 hi2 (ps_setV hu) ha2) pgs_nil h3) h2) hn hst) hs hw h1) fun D' σ H ⟨F, τ, G, DT, KT, P, q⟩ => by
    refine LE.inS P (k := fun d τ G1 => match d with
      | .tup [v, y] => to τ G1 (fun o G2 => ti τ G2 (fun i G3 => match putC G3 o i v with
        | some G4 => to2 τ G4 (fun o2 G5 => ti2 τ G5 (fun i2 G6 => match putC G6 o2 i2 y with
          | some G7 => DT.nx τ G7
          | none => False) (fun c f g => KT c f τ g)) (fun c f g => KT c f τ g)
        | none => False) (fun c f g => KT c f τ g)) (fun c f g => KT c f τ g)
      | _ => False) q fun dv d G1 H1 p1 rd s1 q1 => ?_
    split at q1
    · rename_i v y
      obtain ⟨a, vs, rfl, f, r⟩ := rd.tup_inv
      obtain ⟨vv, yv, rfl, rv, ry⟩ := r.inv2
      refine ⟨a, [vv, yv], rfl, SqT.of f, rfl, vv, [yv], rfl, ?_⟩
      refine LE.inS p1 (k := fun o τ G2 => ti τ G2 (fun i G3 => match putC G3 o i v with
        | some G4 => to2 τ G4 (fun o2 G5 => ti2 τ G5 (fun i2 G6 => match putC G6 o2 i2 y with
          | some G7 => DT.nx τ G7
          | none => False) (fun c f g => KT c f τ g)) (fun c f g => KT c f τ g)
        | none => False) (fun c f g => KT c f τ g)) q1 fun ov o G2 H2 p2 ro s2 q2 => ?_
      refine LE.inS p2 (k := fun i τ G3 => match putC G3 o i v with
        | some G4 => to2 τ G4 (fun o2 G5 => ti2 τ G5 (fun i2 G6 => match putC G6 o2 i2 y with
          | some G7 => DT.nx τ G7
          | none => False) (fun c f g => KT c f τ g)) (fun c f g => KT c f τ g)
        | none => False) q2 fun iv i G3 H3 p3 ri s3 q3 => ?_
      have ry3 := (ry.step p1.wd s2).step p2.wd s3
      split at q3
      · rename_i G4 e4
        refine putC_ok p3.wd (ro.step p2.wd s3) ri ((rv.step p1.wd s2).step p2.wd s3) e4 fun H' w' s' => ⟨yv, [], rfl, ?_⟩
        have p4 := p3.next (p3.sl.step p3.wd s') w' s'
        have ry4 := ry3.step p3.wd s'
        refine LE.inS p4 (k := fun o2 τ G5 => ti2 τ G5 (fun i2 G6 => match putC G6 o2 i2 y with
          | some G7 => DT.nx τ G7
          | none => False) (fun c f g => KT c f τ g)) q3 fun ov2 o2 G5 H5 p5 ro2 s5 q5 => ?_
        refine LE.inS p5 (k := fun i2 τ G6 => match putC G6 o2 i2 y with
          | some G7 => DT.nx τ G7
          | none => False) q5 fun iv2 i2 G6 H6 p6 ri2 s6 q6 => ?_
        have ry6 := (ry4.step p4.wd s5).step p5.wd s6
        split at q6
        · rename_i G7 e7
          refine putC_ok p6.wd (ro2.step p5.wd s6) ri2 ry6 e7 fun H7 w7 s7 => ⟨rfl, ?_⟩
          exact p6.nx _ _ G7 H7 (p6.sl.step p6.wd s7) w7 s7 q6
        · exact q6.elim
      · exact q3.elim
    · exact q1.elim
end
end TL
end
section
/-! TL32: a text split into a list that is a cell. -/
namespace TL
open PySem PySem.Spec L2
def rSplitC : RS := fun a ds G Q => match ds with
  | [.str b] => (b.length == 0) = false ∧ a.length + 2 ≤ sizeLine ∧ ∀ p, G p = none → Q (.ref p) (gup G p (.lst ((Txt.split a b).map D.str)))
  | _ => False
section
variable {X : Cx} {W : WX} {o e : Expr} {to te : E1} {apos pos : Pos} {r : RS} {rH : V → List V → Hp → VK → Prop}
theorem qe_splitC (ho : QE X W o to) (he : QE X W e te) (hs : starEach [e] X.env = [(false, eval e X.env)] := by rfl) (hbase : attributeBase o "split" X.env (eval o X.env) = eval o X.env := by rfl) (hline : (apos.endLine == pos.line) = true := by rfl) :
    QE X W (.Call (.Attribute o "split" apos) [e] [] pos) (eSm rSplitC to (aOne te)) := PE.imp (pe_split ho he hs hbase hline) fun σ H Q h => le_m1 (fun F W σ H Q τ G QT' ET a ds vs p r h => by
  unfold rSplitC at h
  split at h
  · obtain ⟨v, rfl, r1⟩ := r.inv1
    rw [r1.str_inv]
    exact ⟨a, _, rfl, rfl, h.1, h.2.1, fun q hq => p.lstC hq (rpL_strs _) h.2.2⟩
  · exact h.elim) h
end
end TL
end
section
namespace WK
open PySem PySem.Spec L2 TL
def N_dump_graph : List Str := ["graph", "lines", "node", "source", "target", "line"]
def ps_dump_graph : List Str := ["graph"]
abbrev lv_dump_graph : Nat := 2
def t_dump_graph (C_Graph : Addr) (sp_Graph_nodes sp_Graph_edges : SpT) : S1 :=
    (sSeq (sSet 1 (eLcC (iSeq (eMeth C_Graph "nodes" sp_Graph_nodes [] (eVar 0) aNil)) (.nm 2) tTrue (eJs [(eC (.str "node ")), (eFmt (eVar 2))] Str.empty) [2]))
    (sSeq (sExpr (eLm mExtend (eVar 1) (aCons (eLc (iSeq (eMeth C_Graph "edges" sp_Graph_edges [] (eVar 0) aNil)) (.tp (.cons (.nm 3) (.cons (.nm 4) .nil))) tTrue (eJs [(eC (.str "edge ")), (eFmt (eVar 3)), (eC (.str " ")), (eFmt (eVar 4))] Str.empty) [3, 4]) aNil)))
    (sFrz 1 (sRet (eSm rJoin (eC (.str "")) (aOne (eLc (iSeq (eVar 1)) (.nm 5) tTrue (eAdd (eVar 5) (eC (.str "\n"))) [5])))))))
abbrev sp0_dump_graph (C_Graph : Addr) (sp_Graph_nodes sp_Graph_edges : SpT) : SpT := spOf N_dump_graph 1 (t_dump_graph C_Graph sp_Graph_nodes sp_Graph_edges)
def N_read_line : List Str := ["line", "nodes", "edges", "word", "names"]
def ps_read_line : List Str := ["line", "nodes", "edges"]
abbrev lv_read_line : Nat := 3
def t_read_line (sp_is_name sp_edge_problem : SpT) : S1 :=
    (sSeq (sStar (eSm rSplit (eVar 0) (aOne (eC (.str " ")))) (.cons (.nm 3) (.cons (.nm 4) .nil)) 1)
    (sSeq (sIf (tAnd' (tBl (eEq (eVar 3) (eC (.str "node")))) (tAnd' (tBl (eEq (eLen (aCons (eVar 4) aNil)) (eC (.int 1)))) (tAnd' (tBl (eEq (eVar 2) (eLst aNil))) (tBl (eLt (eLen (aCons (eVar 1) aNil)) (eC (.int 16))))))) (sIf (tAnd' (tBl (eCall sp_is_name [] (aCons (eIx (eVar 4) (eC (.int 0))) aNil))) (tBl (eNotIn (eIx (eVar 4) (eC (.int 0))) (eVar 1)))) (sSeq (sExpr (eLm mAppend (eVar 1) (aCons (eIx (eVar 4) (eC (.int 0))) aNil)))
    (sRet (eC (.bl true)))) sNext) sNext)
    (sSeq (sIf (tAnd' (tBl (eEq (eVar 3) (eC (.str "edge")))) (tBl (eIs (eCall sp_edge_problem [] (aCons (eTuple (aCons (eVar 4) aNil)) (aCons (eVar 1) (aCons (eVar 2) aNil)))) (eC .non)))) (sSeq (sExpr (eLm mAppend (eVar 2) (aCons (eTuple (aCons (eVar 4) aNil)) aNil)))
    (sRet (eC (.bl true)))) sNext)
    (sRet (eC (.bl false))))))
abbrev sp0_read_line (sp_is_name sp_edge_problem : SpT) : SpT := spOf N_read_line 3 (t_read_line sp_is_name sp_edge_problem)
def N_load_graph : List Str := ["text", "lines", "rest", "nodes", "edges", "number", "line"]
def ps_load_graph : List Str := ["text"]
abbrev lv_load_graph : Nat := 6
def t_load_graph (Cs : List Addr) (K : PySem.W.Frag) (C_InvalidText : Addr) (C_Graph : Addr) (sp_read_line sp_Graph : SpT) : S1 :=
    (sSeq (sIf (tNot' (tBl (eIsi Cs K (aCons (eVar 0) (aCons (eC (.ty "str")) aNil))))) (sRaiseX C_InvalidText ["line"] [.int] (aCons (eC (.int 0)) aNil)) sNext)
    (sSeq (sStar (eSm rSplit (eVar 0) (aOne (eC (.str "\n")))) (.cons (.nm 1) (.cons (.nm 2) .nil)) 0)
    (sSeq (sSet 3 (eLstC aNil))
    (sSeq (sSet 4 (eLstC aNil))
    (sSeq (sFor (iEnumK (aCons (eVar 1) aNil) (aCons (eC (.int 1)) aNil)) (.tp (.cons (.nm 5) (.cons (.nm 6) .nil))) (sIf (tNot' (tBl (eCall sp_read_line [] (aCons (eVar 6) (aCons (eVar 3) (aCons (eVar 4) aNil)))))) (sRaiseX C_InvalidText ["line"] [.int] (aCons (eVar 5) aNil)) sNext))
    (sSeq (sIf (tOr' (tBl (eNe (eVar 2) (eC (.str "")))) (tBl (eEq (eVar 3) (eLst aNil)))) (sRaiseX C_InvalidText ["line"] [.int] (aCons (eAdd (eLen (aCons (eVar 1) aNil)) (eC (.int 1))) aNil)) sNext)
    (sFrz 4 (sFrz 3 (sRet (eFrz (eMake C_Graph sp_Graph [] (aCons (eVar 3) (aCons (eVar 4) aNil)))))))))))))
abbrev sp0_load_graph (Cs : List Addr) (K : PySem.W.Frag) (C_InvalidText : Addr) (C_Graph : Addr) (sp_read_line sp_Graph : SpT) : SpT := spOf N_load_graph 1 (t_load_graph Cs K C_InvalidText C_Graph sp_read_line sp_Graph)
def N_law_is_name : List Str := ["word", "sign"]
def ps_law_is_name : List Str := ["word"]
abbrev lv_law_is_name : Nat := 1
def t_law_is_name  : S1 :=
    (sRet (eAnd (eChain rLeT rLeT (eC (.int 1)) (eLen (aCons (eVar 0) aNil)) (eC (.int 8))) (eEq (eLc (iSeq (eVar 0)) (.nm 1) (tBl (eNotIn (eVar 1) (eC (.str "abcdefghijklmnopqrstuvwxyz")))) (eVar 1) [1]) (eLst aNil))))
abbrev sp0_law_is_name  : SpT := spOf N_law_is_name 1 (t_law_is_name )
def N_law_leads : List Str := ["arrows", "start", "goal", "reached", "at", "low", "high"]
def ps_law_leads : List Str := ["arrows", "start", "goal"]
abbrev lv_law_leads : Nat := 1
def t_law_leads  : S1 :=
    (sSeq (sAsg (eTup (aCons (eLst (aCons (eVar 1) aNil)) (aCons (eC (.int 0)) aNil))) (.tp (.cons (.nm 3) (.cons (.nm 4) .nil))))
    (sSeq (sWhile (tBl (eLt (eVar 4) (eLen (aCons (eVar 3) aNil)))) (sSeq (sSet 3 (eAdd (eVar 3) (eLc (iSeq (eVar 0)) (.tp (.cons (.nm 5) (.cons (.nm 6) .nil))) (tAnd' (tBl (eEq (eVar 5) (eIx (eVar 3) (eVar 4)))) (tBl (eNotIn (eVar 6) (eVar 3)))) (eVar 6) [5, 6])))
    (sSet 4 (eAdd (eVar 4) (eC (.int 1))))))
    (sRet (eIn (eVar 2) (eVar 3)))))
abbrev sp0_law_leads  : SpT := spOf N_law_leads 3 (t_law_leads )
def N_law_line_fits : List Str := ["line", "points", "arrows", "words"]
def ps_law_line_fits : List Str := ["line", "points", "arrows"]
abbrev lv_law_line_fits : Nat := 2
def t_law_line_fits (sp__law_is_name sp__law_leads : SpT) : S1 :=
    (sSeq (sSet 3 (eSm rSplit (eVar 0) (aOne (eC (.str " ")))))
    (sSeq (sIf (tBl (eEq (eIx (eVar 3) (eC (.int 0))) (eC (.str "node")))) (sSeq (sIf (tOr' (tBl (eNe (eLen (aCons (eVar 3) aNil)) (eC (.int 2)))) (tOr' (tBl (eNe (eVar 2) (eLst aNil))) (tBl (eEq (eLen (aCons (eVar 1) aNil)) (eC (.int 16)))))) (sRet (eC (.bl false))) sNext)
    (sSeq (sIf (tOr' (tNot' (tBl (eCall sp__law_is_name [] (aCons (eIx (eVar 3) (eC (.int 1))) aNil)))) (tBl (eIn (eIx (eVar 3) (eC (.int 1))) (eVar 1)))) (sRet (eC (.bl false))) sNext)
    (sSeq (sExpr (eLm mAppend (eVar 1) (aCons (eIx (eVar 3) (eC (.int 1))) aNil)))
    (sRet (eC (.bl true)))))) sNext)
    (sSeq (sIf (tOr' (tBl (eNe (eIx (eVar 3) (eC (.int 0))) (eC (.str "edge")))) (tOr' (tBl (eNe (eLen (aCons (eVar 3) aNil)) (eC (.int 3)))) (tOr' (tBl (eNotIn (eIx (eVar 3) (eC (.int 1))) (eVar 1))) (tBl (eNotIn (eIx (eVar 3) (eC (.int 2))) (eVar 1)))))) (sRet (eC (.bl false))) sNext)
    (sSeq (sIf (tOr' (tBl (eIn (eTuple (aCons (eSl (eVar 3) (oSome (eC (.int 1))) oNone) aNil)) (eVar 2))) (tBl (eCall sp__law_leads [] (aCons (eVar 2) (aCons (eIx (eVar 3) (eC (.int 2))) (aCons (eIx (eVar 3) (eC (.int 1))) aNil)))))) (sRet (eC (.bl false))) sNext)
    (sSeq (sExpr (eLm mAppend (eVar 2) (aCons (eTuple (aCons (eSl (eVar 3) (oSome (eC (.int 1))) oNone) aNil)) aNil)))
    (sRet (eC (.bl true))))))))
abbrev sp0_law_line_fits (sp__law_is_name sp__law_leads : SpT) : SpT := spOf N_law_line_fits 3 (t_law_line_fits sp__law_is_name sp__law_leads)
def N_law_expected : List Str := ["written", "rows", "points", "arrows", "number"]
def ps_law_expected : List Str := ["written"]
abbrev lv_law_expected : Nat := 3
def t_law_expected (sp__law_line_fits : SpT) : S1 :=
    (sSeq (sPar3 1 2 3 (aCons (eSm rSplit (eVar 0) (aOne (eC (.str "\n")))) (aCons (eLstC aNil) (aCons (eLstC aNil) aNil))))
    (sSeq (sFor (iRng (aCons (eSub (eLen (aCons (eVar 1) aNil)) (eC (.int 1))) aNil)) (.nm 4) (sIf (tNot' (tBl (eCall sp__law_line_fits [] (aCons (eIx (eVar 1) (eVar 4)) (aCons (eVar 2) (aCons (eVar 3) aNil)))))) (sRet (eAdd (eVar 4) (eC (.int 1)))) sNext))
    (sRet (eIf (tAnd' (tBl (eEq (eIx (eVar 1) (eNeg (eC (.int 1)))) (eC (.str "")))) (tBl (eNe (eVar 2) (eLst aNil)))) (eC .non) (eLen (aCons (eVar 1) aNil))))))
abbrev sp0_law_expected (sp__law_line_fits : SpT) : SpT := spOf N_law_expected 1 (t_law_expected sp__law_line_fits)
def N_law_odd_line : List Str := ["pot", "rows", "options", "words", "at", "word", "head", "tail", "extra", "one"]
def ps_law_odd_line : List Str := ["pot", "rows"]
abbrev lv_law_odd_line : Nat := 3
def t_law_odd_line (sp__law_choice sp__law_draw : SpT) : S1 :=
    (sSeq (sSet 2 (eLst (aCons (eC (.str "")) (aCons (eC (.str " ")) (aCons (eC (.str "node")) (aCons (eC (.str "edge")) (aCons (eC (.str "node a b")) (aCons (eC (.str "node A")) (aCons (eC (.str "node abcdefghi")) (aCons (eC (.str "node a1")) (aCons (eC (.str " node a")) (aCons (eC (.str "node  a")) aNil))))))))))))
    (sSeq (sSet 2 (eAdd (eVar 2) (eLst (aCons (eC (.str "node a ")) aNil))))
    (sSeq (sSet 2 (eAdd (eVar 2) (eLst (aCons (eC (.str "edge a")) (aCons (eC (.str "edge a a")) (aCons (eC (.str "edge a zz")) (aCons (eC (.str "Node a")) (aCons (eC (.str "edge a b c")) (aCons (eC (.str "edge b a")) (aCons (eC (.str "edge a b")) (aCons (eC (.str "node q")) aNil)))))))))))
    (sSeq (sSet 3 (eSm rSplit (eCall sp__law_choice [] (aCons (eVar 0) (aCons (eVar 1) aNil))) (aOne (eC (.str " ")))))
    (sSeq (sSet 4 (eCall sp__law_draw [] (aCons (eVar 0) (aCons (eLen (aCons (eVar 3) aNil)) aNil))))
    (sSeq (sSet 5 (eCall sp__law_choice [] (aCons (eVar 0) (aCons (eLst (aCons (eC (.str "")) (aCons (eC (.str "a")) (aCons (eC (.str "b")) (aCons (eC (.str "node")) (aCons (eC (.str "edge")) (aCons (eC (.str "zz")) (aCons (eC (.str "A")) (aCons (eC (.str "-")) aNil))))))))) aNil))))
    (sSeq (sPar 6 7 (aCons (eSl (eVar 3) oNone (oSome (eVar 4))) (aCons (eSl (eVar 3) (oSome (eAdd (eVar 4) (eC (.int 1)))) oNone) aNil)))
    (sSeq (sSet 8 (eLst (aCons (eAdd (eAdd (eVar 6) (eLst (aCons (eVar 5) aNil))) (eVar 7)) (aCons (eAdd (eAdd (eVar 6) (eLst (aCons (eVar 5) aNil))) (eSl (eVar 3) (oSome (eVar 4)) oNone)) (aCons (eAdd (eVar 6) (eVar 7)) (aCons (eRev (eVar 3)) (aCons (eAdd (eSl (eVar 3) oNone (oSome (eC (.int 1)))) (eRev (eSl (eVar 3) (oSome (eC (.int 1))) oNone))) aNil)))))))
    (sRet (eCall sp__law_choice [] (aCons (eVar 0) (aCons (eAdd (eVar 2) (eMul (eLc (iSeq (eVar 8)) (.nm 9) tTrue (eSm rJoin (eC (.str " ")) (aOne (eVar 9))) [9]) (eC (.int 4)))) aNil))))))))))))
abbrev sp0_law_odd_line (sp__law_choice sp__law_draw : SpT) : SpT := spOf N_law_odd_line 2 (t_law_odd_line sp__law_choice sp__law_draw)
def N_law_spoilt : List Str := ["pot", "written", "way", "sign", "rows", "at", "spot", "other"]
def ps_law_spoilt : List Str := ["pot", "written"]
abbrev lv_law_spoilt : Nat := 4
def t_law_spoilt (sp__law_draw sp__law_choice sp__law_odd_line : SpT) : S1 :=
    (sSeq (sPar 2 3 (aCons (eCall sp__law_draw [] (aCons (eVar 0) (aCons (eC (.int 9)) aNil))) (aCons (eCall sp__law_choice [] (aCons (eVar 0) (aCons (eC (.str "abnodeg \n-#A0")) aNil))) aNil)))
    (sSeq (sPar 4 5 (aCons (eSm rSplitC (eVar 1) (aOne (eC (.str "\n")))) (aCons (eCall sp__law_draw [] (aCons (eVar 0) (aCons (eAdd (eLen (aCons (eVar 1) aNil)) (eC (.int 1))) aNil))) aNil)))
    (sSeq (sSet 6 (eCall sp__law_draw [] (aCons (eVar 0) (aCons (eLen (aCons (eVar 4) aNil)) aNil))))
    (sSeq (sIf (tBl (eLt (eVar 2) (eC (.int 2)))) (sRet (eAdd (eAdd (eSl (eVar 1) oNone (oSome (eVar 5))) (eVar 3)) (eSl (eVar 1) (oSome (eAdd (eVar 5) (eVar 2))) oNone))) sNext)
    (sSeq (sIf (tBl (eEq (eVar 2) (eC (.int 2)))) (sRet (eAdd (eSl (eVar 1) oNone (oSome (eVar 5))) (eSl (eVar 1) (oSome (eAdd (eVar 5) (eC (.int 1)))) oNone))) sNext)
    (sSeq (sIf (tBl (eLt (eVar 2) (eC (.int 5)))) (sRet (eSm rJoin (eC (.str "\n")) (aOne (eAdd (eAdd (eSl (eVar 4) oNone (oSome (eVar 6))) (eLst (aCons (eCall sp__law_odd_line [] (aCons (eVar 0) (aCons (eVar 4) aNil))) aNil))) (eSl (eVar 4) (oSome (eSub (eAdd (eVar 6) (eVar 2)) (eC (.int 3)))) oNone))))) sNext)
    (sSeq (sIf (tBl (eEq (eVar 2) (eC (.int 5)))) (sSeq (sSet 7 (eCall sp__law_draw [] (aCons (eVar 0) (aCons (eLen (aCons (eVar 4) aNil)) aNil))))
    (sSeq (sPut2 (eVar 4) (eVar 6) (eVar 4) (eVar 7) (eTup (aCons (eIx (eVar 4) (eVar 7)) (aCons (eIx (eVar 4) (eVar 6)) aNil))))
    (sRet (eSm rJoin (eC (.str "\n")) (aOne (eVar 4)))))) sNext)
    (sSeq (sIf (tBl (eEq (eVar 2) (eC (.int 6)))) (sRet (eSm rJoin (eC (.str "\n")) (aOne (eAdd (eSl (eVar 4) oNone (oSome (eVar 6))) (eSl (eVar 4) (oSome (eAdd (eVar 6) (eC (.int 1)))) oNone))))) sNext)
    (sRet (eIf (tBl (eEq (eVar 2) (eC (.int 7)))) (eSm rJoin (eC (.str "\n")) (aOne (eAdd (eAdd (eSl (eVar 4) oNone (oSome (eVar 6))) (eLst (aCons (eIx (eVar 4) (eVar 6)) aNil))) (eSl (eVar 4) (oSome (eVar 6)) oNone)))) (eSl (eVar 1) oNone (oSome (eNeg (eC (.int 1)))))))))))))))
abbrev sp0_law_spoilt (sp__law_draw sp__law_choice sp__law_odd_line : SpT) : SpT := spOf N_law_spoilt 2 (t_law_spoilt sp__law_draw sp__law_choice sp__law_odd_line)
def N_law_outcome : List Str := ["value", "result", "made", "e", "is_other"]
def ps_law_outcome : List Str := ["value"]
abbrev lv_law_outcome : Nat := 7
def t_law_outcome (Cs : List Addr) (K : PySem.W.Frag) (C_Graph : Addr) (C_ProgressError : Addr) (C_InvalidGraph : Addr) (C_InvalidNodes : Addr) (C_InvalidCommand : Addr) (C_InvalidText : Addr) (sp_load_graph sp_dump_graph : SpT) : S1 :=
    (sSeq (sSet 1 (eC .non))
    (sSeq (sTry K (sSeq (sSet 2 (eCall sp_load_graph [] (aCons (eVar 0) aNil)))
    (sSet 1 (eIf (tAnd' (tBl (eIsi Cs K (aCons (eVar 2) (aCons (eC (.ref C_Graph)) aNil)))) (tBl (eEq (eCall sp_dump_graph [] (aCons (eVar 2) aNil)) (eVar 0)))) (eC .non) (eC (.str "unlike"))))) [⟨.ref C_ProgressError, some 3, fun a cls d => (sSeq (sSet 4 (eIsX K a cls d (aCons (eVar 3) (aCons (eTup (aCons (eC (.ref C_InvalidGraph)) (aCons (eC (.ref C_InvalidNodes)) (aCons (eC (.ref C_InvalidCommand)) aNil)))) aNil))))
    (sSet 1 (eIf (tAnd' (tBl (eIsX K a cls d (aCons (eVar 3) (aCons (eC (.ref C_InvalidText)) aNil)))) (tAnd' (tBl (eIsX K a cls d (aCons (eVar 3) (aCons (eC (.ty "ValueError")) aNil)))) (tNot' (tBl (eVar 4))))) (eXf K a cls d "line" (eVar 3)) (eC (.str "other")))))⟩])
    (sRet (eVar 1))))
abbrev sp0_law_outcome (Cs : List Addr) (K : PySem.W.Frag) (C_Graph : Addr) (C_ProgressError : Addr) (C_InvalidGraph : Addr) (C_InvalidNodes : Addr) (C_InvalidCommand : Addr) (C_InvalidText : Addr) (sp_load_graph sp_dump_graph : SpT) : SpT := spOf N_law_outcome 1 (t_law_outcome Cs K C_Graph C_ProgressError C_InvalidGraph C_InvalidNodes C_InvalidCommand C_InvalidText sp_load_graph sp_dump_graph)
def N_law : List Str := ["script", "index", "pot", "points", "arrows", "lines", "point", "low", "high", "written", "line", "turn", "spoilt", "time", "value", "full", "sign", "short"]
def ps_law : List Str := ["script"]
abbrev lv_law : Nat := 8
def t_law (sp__law_pot sp__law_graph sp__law_outcome sp__law_expected sp__law_draw sp__law_spoilt : SpT) : S1 :=
    (sSeq (sFor (iRng (aCons (eMax2 (aCons (eC (.int 1)) (aCons (eMin2 (aCons (eLen (aCons (eVar 0) aNil)) (aCons (eC (.int 5)) aNil))) aNil))) aNil)) (.nm 1) (sSeq (sSet 2 (eCall sp__law_pot [] (aCons (eVar 0) (aCons (eVar 1) aNil))))
    (sSeq (sAsg (eCall sp__law_graph [] (aCons (eVar 2) (aCons (eC (.int 16)) aNil))) (.tp (.cons (.nm 3) (.cons (.nm 4) .nil))))
    (sSeq (sSet 5 (eAdd (eLc (iSeq (eVar 3)) (.nm 6) tTrue (eAdd (eC (.str "node ")) (eVar 6)) [6]) (eLc (iSeq (eVar 4)) (.tp (.cons (.nm 7) (.cons (.nm 8) .nil))) tTrue (eAdd (eAdd (eAdd (eC (.str "edge ")) (eVar 7)) (eC (.str " "))) (eVar 8)) [7, 8])))
    (sSeq (sSet 9 (eSm rJoin (eC (.str "")) (aOne (eLc (iSeq (eVar 5)) (.nm 10) tTrue (eAdd (eVar 10) (eC (.str "\n"))) [10]))))
    (sSeq (sIf (tOr' (tBl (eIsNot (eCall sp__law_outcome [] (aCons (eVar 9) aNil)) (eC .non))) (tBl (eIsNot (eCall sp__law_expected [] (aCons (eVar 9) aNil)) (eC .non)))) (sRet (eC (.bl false))) sNext)
    (sSeq (sFor (iRng (aCons (eC (.int 6)) aNil)) (.nm 11) (sSeq (sSet 12 (eVar 9))
    (sSeq (sFor (iRng (aCons (eAdd (eC (.int 1)) (eCall sp__law_draw [] (aCons (eVar 2) (aCons (eC (.int 3)) aNil)))) aNil)) (.nm 13) (sSet 12 (eCall sp__law_spoilt [] (aCons (eVar 2) (aCons (eVar 12) aNil)))))
    (sIf (tBl (eNe (eRepr (aCons (eCall sp__law_outcome [] (aCons (eVar 12) aNil)) aNil)) (eRepr (aCons (eCall sp__law_expected [] (aCons (eVar 12) aNil)) aNil)))) (sRet (eC (.bl false))) sNext))))
    (sFor (iSeq (eLst (aCons (eC .non) (aCons (eC (.int 0)) (aCons (eC (.bl false)) (aCons (eLst aNil) (aCons (eTup aNil) (aCons (eFrz eDNewC) (aCons (eLst (aCons (eVar 9) aNil)) (aCons (eTup (aCons (eVar 9) aNil)) (aCons (eC (.int 7)) (aCons (eFrz (eDisp [((eC (.str "node")), (eC (.int 1)))])) aNil)))))))))))) (.nm 14) (sIf (tBl (eNe (eRepr (aCons (eCall sp__law_outcome [] (aCons (eVar 14) aNil)) aNil)) (eC (.str "0")))) (sRet (eC (.bl false))) sNext)))))))))
    (sSeq (sSet 15 (eSm rJoin (eC (.str "")) (aOne (eLc (iSeq (eC (.str "abcdefghijklmnopq"))) (.nm 16) tTrue (eAdd (eAdd (eC (.str "node ")) (eVar 16)) (eC (.str "\n"))) [16]))))
    (sSeq (sSet 17 (eLst (aCons (eC (.str "")) (aCons (eC (.str "\n")) (aCons (eC (.str "node a")) (aCons (eC (.str "node a\n\n")) (aCons (eVar 15) (aCons (eC (.str "node a\nedge a a\n")) aNil))))))))
    (sRet (eEq (eLc (iSeq (eVar 17)) (.nm 9) tTrue (eCall sp__law_outcome [] (aCons (eVar 9) aNil)) [9]) (eLst (aCons (eC (.int 1)) (aCons (eC (.int 1)) (aCons (eC (.int 1)) (aCons (eC (.int 2)) (aCons (eC (.int 17)) (aCons (eC (.int 2)) aNil))))))))))))
abbrev sp0_law (sp__law_pot sp__law_graph sp__law_outcome sp__law_expected sp__law_draw sp__law_spoilt : SpT) : SpT := spOf N_law 1 (t_law sp__law_pot sp__law_graph sp__law_outcome sp__law_expected sp__law_draw sp__law_spoilt)
end WK
end
section
namespace PL
open PySem PySem.Spec L2 TL WK
local macro_rules | `(tactic| kwd_rel) => `(tactic| simp only [startT, spOf, sSeq, sIf, sSet, sRet, sRetN, sExpr, sNext, sPar, sPutNm, sPut, sAug, sAsg, eC, eVar, aNil, aCons, aOne, eOp, eUn, eB, eAdd, eSub, eMul, eDiv, eMod, ePow, eNeg, eLt, eLe, eGt, eGe, eEq, eNe, eIs, eIsNot, eIn, eNotIn, eIx, eAbs, eMax2, eMin2, eDvm, eLen, eList, eListC, eTuple, eAll, eAny, eSum, tBl, tNot', tAnd', tOr', eAnd, eOr, eNot, eIf, eTup, eLst, eLstC, eCall, eMeth, eMake, eFld, eLm, eLc, eLcC, iSeq, iRng, iRng2', TL.iZip, eSm, eRevS, sFrz, eFrz, sFor, r_add, r_addS, r_addL, r_sub, r_mul, r_div, r_mod, r_pow, r_neg, r_lt, r_le, r_gt, r_ge, r_ixL, r_ixT, r_ixS, r_eqI, atI_0, atI_1, atI_2, b_abs, b_max, b_min, b_dvm, b_lenL, b_lenT, b_lenQ, vIt_str, vIt_lst, vIt_tup, CT_true, true_and, wipeT, List.map, List.length, List.replicate, List.cons_append, List.nil_append, List.append_nil, Nat.zero_le, List.getElem?_cons_zero, List.getElem?_cons_succ, List.getElem?_nil, List.set_cons_zero, List.set_cons_succ, gT, gsT, TgL.len, TL.vQ_tup, TL.vQ_lst, Nat.reduceAdd, Nat.reduceEqDiff, if_true, eSl, oSome, oNone, eIsi, eChain, iEnum', iEnumK, sFldT, eReprO, eCallK, eOEq, eFmt, eFmtR, eJs, eMethK, eReprQ, eInQ, eNotInQ, sRaiseX, eDctPT, eDNewC, eDNewT, eRepr, sPar3, rUpper, sRaiseE, eSetC, eLenS, eDisp, eScC, gP, List.filterMap_cons, List.filterMap_nil])
variable {Cs : List Addr} {K : PySem.W.Frag} {C cT : Addr}
/-! P42: edge_problem of texts, read_line, load_graph, dump_graph. -/
theorem plT {us : List Str} {n : Nat} (h : ∀ u ∈ us, okc u) : PlL (us.map D.str) n := plL_iff.mpr fun x hx => by
  obtain ⟨u, hu, rfl⟩ := List.mem_map.mp hx
  simp only [Pl]
  exact okc_strOk (h u hu)
theorem nmO {s : Str} (h : Nm s) : okc s := strOk_okc h.ok
def spEdgeS : SpT := fun ds G Q E => ∃ (xs : List Str) (dn de : D) (ps : List Str) (es : List Ed), ds = [.tup (xs.map D.str), dn, de] ∧ vQ G dn = some (ps.map D.str) ∧ vQ G de = some (es.map edD) ∧ (∀ s ∈ ps, Nm s) ∧ ps.length ≤ 300 ∧ es.Nodup ∧ es.length ≤ 256 ∧ (∀ e ∈ es, Nm e.1 ∧ Nm e.2) ∧ (∀ x ∈ xs, okc x) ∧
  (okE xs ps es → Q .non G) ∧ (¬ okE xs ps es → ∀ s, Q (.str s) G)
theorem edge_S : ∀ ds G Q E, spEdge ds G Q E → spEdgeS ds G Q E := by
  rintro ds G Q E ⟨e, dn, de, ps, es, rfl, hdn, hde, hn, lp, en, el, hne, h1, h2, h3, h4, ⟨P, p1, p2, p3⟩, k⟩
  have ok : okE [e.1, e.2] ps es := ⟨e.1, e.2, rfl, h1, h2, h3, h4, fun p => p3 (by
    have : ∀ {x y : Str}, Pth es x y → P x → P y := fun p => by
      induction p with
      | refl => exact id
      | step _ he ih => exact fun q => p2 _ he (ih q)
    exact this p p1)⟩
  refine ⟨[e.1, e.2], dn, de, ps, es, rfl, hdn, hde, hn, lp, en, el, hne, fun x hx => ?_, fun _ => k, fun c => absurd ok c⟩
  simp only [List.mem_cons, List.not_mem_nil, or_false] at hx
  rcases hx with rfl | rfl
  · exact nmO (hn _ h1)
  · exact nmO (hn _ h2)
theorem edgeS_ok : ∀ ds G Q E, spEdgeS ds G Q E → sp0_edge_problem Cs K spReach ds G Q E := by
  rintro ds G Q E ⟨xs, dn, de, ps, es, rfl, hdn, hde, hn, lp, en, el, hne, ho, k1, k2⟩
  refine ⟨rfl, ?_⟩
  have s0 : sizeLine = 16777216 := rfl
  unfold t_edge_problem N_edge_problem
  kwd_rel
  refine isi_true rfl ?_
  simp only [Bool.not_true, Bool.false_eq_true, if_false]
  by_cases h2 : ((xs.map D.str).length : Int) = 2
  · simp only [h2, decide_true, bne_self_eq_false, Bool.false_eq_true, if_false]
    obtain ⟨a, b, rfl⟩ : ∃ a b, xs = [a, b] := by
      match xs, h2 with
      | [a, b], _ => exact ⟨a, b, rfl⟩
      | [], h => simp at h
      | [_], h => simp at h
      | _ :: _ :: _ :: _, h => simp at h; omega
    have oa : okc a := ho a (by simp)
    have ob : okc b := ho b (by simp)
    simp only [List.map_cons, List.map_nil]
    kwd_rel
    refine lc_fm (fMem ps) trivial (by simp) (fun d hd => ?_) ?_
    · have : ∃ z, d = .str z ∧ okc z := by
        simp only [List.mem_cons, List.not_mem_nil, or_false] at hd
        rcases hd with rfl | rfl
        · exact ⟨_, rfl, oa⟩
        · exact ⟨_, rfl, ob⟩
      obtain ⟨z, rfl, nz⟩ := this
      refine ⟨_, rfl, fun K4 K5 h => ?_⟩
      simp only [tTrue, if_true]
      kwd_rel
      refine isi_true rfl ?_
      refine r_inG hdn (vQ_ns hdn) (by simpa [Pl] using okc_strOk nz) (plS hn) ?_
      rw [any_str, fb]
      exact h
    · show rAll' [.lst [.bl (decide (a ∈ ps)), .bl (decide (b ∈ ps))]] G _
      rw [show (D.lst [D.bl (decide (a ∈ ps)), D.bl (decide (b ∈ ps))]) = .lst ([decide (a ∈ ps), decide (b ∈ ps)].map fun c => D.bl (id c)) from rfl, r_allMap id]
      simp only [List.all_cons, List.all_nil, id, Bool.and_true]
      by_cases ha : a ∈ ps
      · by_cases hb : b ∈ ps
        · simp only [ha, hb, decide_true, Bool.and_self, Bool.not_true, Bool.false_eq_true, if_false]
          rw [r_eqS (okc_strOk oa) (okc_strOk ob)]
          by_cases hab : a = b
          · simp only [hab, decide_true, fb, if_true]
            exact k2 (fun ⟨a', b', e, _, _, q, _⟩ => by simp at e; exact q (by rw [← e.1, ← e.2]; exact hab)) _
          · simp only [hab, decide_false, fb, Bool.false_eq_true, if_false]
            have na := hn a ha
            have nb := hn b hb
            refine r_inG (x := .tup [.str a, .str b]) (ys := es.map edD) hde (vQ_ns hde) (by simpa [Pl, PlL] using ⟨na.ok, nb.ok⟩) (plE hne) ?_
            rw [any_ed es (a, b)]
            by_cases hm : (a, b) ∈ es
            · simp only [hm, decide_true, fb, if_true]
              exact k2 (fun ⟨a', b', e, _, _, _, q, _⟩ => by simp at e; exact q (by rw [← e.1, ← e.2]; exact hm)) _
            · simp only [hm, decide_false, fb, Bool.false_eq_true, if_false]
              refine ⟨de, b, es, rfl, hde, en, el, hne, nb, fun rs hr => ?_⟩
              refine r_inG rfl (fun _ => nofun) (by simpa [Pl] using na.ok) (plS hr.nm) ?_
              rw [any_str]
              by_cases hp : a ∈ rs
              · simp only [hp, decide_true, fb, if_true]
                exact k2 (fun ⟨a', b', e, _, _, _, _, q⟩ => by simp at e; exact q (by rw [← e.1, ← e.2]; exact (hr.iff a).mp hp)) _
              · simp only [hp, decide_false, fb, Bool.false_eq_true, if_false]
                exact k1 ⟨a, b, rfl, ha, hb, hab, hm, fun p => hp ((hr.iff a).mpr p)⟩
        · simp only [ha, hb, decide_true, decide_false, Bool.and_false, Bool.not_false, if_true]
          exact k2 (fun ⟨a', b', e, _, q, _⟩ => by simp at e; exact hb (by rw [e.2]; exact q)) _
      · simp only [ha, decide_false, Bool.false_and, Bool.not_false, if_true]
        exact k2 (fun ⟨a', b', e, q, _⟩ => by simp at e; exact ha (by rw [e.1]; exact q)) _
  · simp only [h2, decide_false, Bool.bne_false, if_true]
    exact k2 (fun ⟨a, b, e, _⟩ => h2 (by rw [e]; rfl)) _

end PL
end
section
namespace PL
open PySem PySem.Spec L2 TL WK
local macro_rules | `(tactic| kwd_rel) => `(tactic| simp only [startT, spOf, sSeq, sIf, sSet, sRet, sRetN, sExpr, sNext, sPar, sPutNm, sPut, sAug, sAsg, eC, eVar, aNil, aCons, aOne, eOp, eUn, eB, eAdd, eSub, eMul, eDiv, eMod, ePow, eNeg, eLt, eLe, eGt, eGe, eEq, eNe, eIs, eIsNot, eIn, eNotIn, eIx, eAbs, eMax2, eMin2, eDvm, eLen, eList, eListC, eTuple, eAll, eAny, eSum, tBl, tNot', tAnd', tOr', eAnd, eOr, eNot, eIf, eTup, eLst, eLstC, eCall, eMeth, eMake, eFld, eLm, eLc, eLcC, iSeq, iRng, iRng2', TL.iZip, eSm, eRevS, sFrz, eFrz, sFor, r_add, r_addS, r_addL, r_sub, r_mul, r_div, r_mod, r_pow, r_neg, r_lt, r_le, r_gt, r_ge, r_ixL, r_ixT, r_ixS, r_eqI, atI_0, atI_1, atI_2, b_abs, b_max, b_min, b_dvm, b_lenL, b_lenT, b_lenQ, vIt_str, vIt_lst, vIt_tup, CT_true, true_and, wipeT, List.map, List.length, List.replicate, List.cons_append, List.nil_append, List.append_nil, Nat.zero_le, List.getElem?_cons_zero, List.getElem?_cons_succ, List.getElem?_nil, List.set_cons_zero, List.set_cons_succ, gT, gsT, TgL.len, TL.vQ_tup, TL.vQ_lst, Nat.reduceAdd, Nat.reduceEqDiff, if_true, eSl, oSome, oNone, eIsi, eChain, iEnum', iEnumK, sFldT, eReprO, eCallK, eOEq, eFmt, eFmtR, eJs, eMethK, eReprQ, eInQ, eNotInQ, sRaiseX, eDctPT, eDNewC, eDNewT, eRepr, sPar3, rUpper, sRaiseE, gP, List.filterMap_cons, List.filterMap_nil])
variable {Cs : List Addr} {K : PySem.W.Frag} {C : Addr}
/-! PH: helpers of the plain level. -/
/-- cells stay as they are -/
def Ext (G G' : GH) : Prop := ∀ q c, G q = some c → G' q = some c
theorem Ext.refl {G : GH} : Ext G G := fun _ _ h => h
theorem Ext.trans {G G1 G2 : GH} (h : Ext G G1) (h' : Ext G1 G2) : Ext G G2 := fun q c e => h' q c (h q c e)
theorem Ext.new {G : GH} {p : Addr} {c : Cl} (h : G p = none) : Ext G (gup G p c) := fun q d e => by
  rw [gup_ne (fun z => by rw [z, h] at e; cases e)]; exact e
/-- a cell that is not of the old ones changes -/
theorem Ext.put {G G1 : GH} {p : Addr} {c : Cl} (x : Ext G G1) (h : G p = none) : Ext G (gup G1 p c) := fun q d e => by
  rw [gup_ne (fun z => by rw [z, h] at e; cases e)]; exact x q d e
theorem Ext.del {G G1 : GH} {p : Addr} (x : Ext G G1) (h : G p = none) : Ext G (gdel G1 p) := fun q d e => by
  have : q ≠ p := fun z => by rw [z, h] at e; cases e
  unfold gdel
  simp only [this, if_false]
  exact x q d e
theorem Ext.none {G G1 : GH} {p : Addr} (x : Ext G G1) (h : G1 p = none) : G p = none := by
  cases e : G p with
  | none => rfl
  | some c => rw [x p c e] at h; cases h
theorem Pot.ext {G G' : GH} {p : Addr} (h : Pot G p) (x : Ext G G') : Pot G' p := by
  obtain ⟨a, b, h1, h2, h3, h4⟩ := h
  exact ⟨a, b, h1, h2, h3, x _ _ h4⟩
theorem bools_show : ∀ bs : List Bool, PyData.bulkAll (toPyL (bs.map D.bl)) = bs.length ∧ PyData.leavesShortAll 8 (toPyL (bs.map D.bl)) = true ∧ PyData.showableAll (toPyL (bs.map D.bl)) = true ∧ PlL (bs.map D.bl) 49
  | [] => ⟨rfl, rfl, rfl, by simp [PlL]⟩
  | b :: r => by
    obtain ⟨h1, h2, h3, h4⟩ := bools_show r
    simp only [List.map_cons, toPyL, toPy, PyData.bulkAll, PyData.bulk, PyData.leavesShortAll, PyData.leavesShort, PyData.showableAll, PyData.showable, PlL, Pl, h1, h2, h3, h4, List.length_cons, Bool.and_self, and_self, and_true]
    omega
theorem okS_of {G : GH} {d : D} {N : Nat} (p : Pl (vD G d) 50) (h : (toPy (vD G d)).leavesShort 8 = true) (hs : (toPy (vD G d)).showable = true) (hb : (toPy (vD G d)).bulk ≤ N) (hN : 10 * N + 8 ≤ 16777216) : okShow G d := by
  refine ⟨p, hs, ?_⟩
  have := PyData.shown_le_bulk 8 (by decide) _ h
  have s0 : sizeLine = 16777216 := rfl
  unfold showD
  have : (8 + 2) * (toPy (vD G d)).bulk ≤ 10 * N := Nat.mul_le_mul_left 10 hb
  omega
theorem ok_bools {G : GH} {bs : List Bool} (h : bs.length ≤ 1000) : okShow G (.lst (bs.map D.bl)) := by
  obtain ⟨h1, h2, h3, h4⟩ := bools_show bs
  refine okS_of (N := 1000) ?_ ?_ ?_ ?_ (by decide)
  · show Pl (.lst _) 50
    rw [Pl]; exact h4
  · show PyData.leavesShort 8 (.list _) = true
    rw [PyData.leavesShort]; exact h2
  · show PyData.showable (.list _) = true
    rw [PyData.showable]; exact h3
  · show PyData.bulk (.list _) ≤ _
    rw [PyData.bulk, h1]; exact h
def fBo (f : Str → Bool) : D → Option D
  | .str s => some (.bl (f s))
  | _ => none
theorem fBo_map (f : Str → Bool) : ∀ ps : List Str, (ps.map D.str).filterMap (fBo f) = (ps.map f).map D.bl
  | [] => rfl
  | s :: r => by
    rw [List.map_cons, List.filterMap_cons, List.map_cons, List.map_cons, ← fBo_map f r]; rfl
theorem eqS_list {ps qs : List Str} : eqD (.lst (ps.map D.str)) (.lst (qs.map D.str)) = decide (ps = qs) := eqL_map ps qs
theorem r_neS {x y : D} {ps qs : List Str} {neg : Bool} {G : GH} {Q : KD} {E : KX} (hx : vD G x = .lst (ps.map D.str)) (hy : vD G y = .lst (qs.map D.str)) (h1 : ∀ s ∈ ps, Nm s) (h2 : ∀ s ∈ qs, Nm s) (k : Q (.bl (neg != decide (ps = qs))) G) : rEqT neg x y G Q E := by
  refine r_eqG hx hy (by show Pl (.lst _) 60; rw [Pl]; exact plL_mono (by decide) (plS h1)) (by show Pl (.lst _) 60; rw [Pl]; exact plL_mono (by decide) (plS h2)) ?_
  rw [eqS_list]
  exact k
theorem r_rep {d : D} {G : GH} {Q : KD} (h : okShow G d) (k : Q (.str (showD G d)) G) : rRepr' [d] G Q := ⟨h, k⟩
theorem isN {ps : List Str} {s : Str} (h : s ∈ ps) : isNode ps (.str s) = true := by unfold isNode; simp [h]
def spChoice : SpT := fun ds G Q E => ∃ (p : Addr) (d : D) (xs : List D), ds = [.ref p, d] ∧ Pot G p ∧ vQ G d = some xs ∧ d ≠ .ref p ∧ xs ≠ [] ∧ xs.length ≤ 1000 ∧ ∀ x ∈ xs, ∀ G', Pot G' p → TL.Same p G G' → Q x G'
theorem choice_ok : ∀ ds G Q E, spChoice ds G Q E → sp0_law_choice spDraw ds G Q E := by
  rintro ds G Q E ⟨p, d, xs, rfl, hp, hd, hne, hx, hl, k⟩
  refine ⟨rfl, ?_⟩
  have s0 : sizeLine = 16777216 := rfl
  unfold t_law_choice N_law_choice
  kwd_rel
  rw [b_lenV hd]
  have l0 : 0 < xs.length := by
    cases xs with
    | nil => exact absurd rfl hx
    | cons x r => simp
  refine sp_draw hp (by omega) (by omega) fun i G' h0 h1 p' sm => ?_
  have hd' : vQ G' d = some xs := (vQ_same sm hne).trans hd
  rw [r_ix hd' (vQ_ns hd')]
  obtain ⟨x, hx, e⟩ := atI_mem h0 h1
  rw [e]
  exact k x hx G' p' sm
theorem kitAny_no {t : Value} : ∀ {cs : List Value}, (∀ c ∈ cs, PySem.W.kitOne K t c = some false) → PySem.W.kitAny K t cs = some false
  | [], _ => rfl
  | c :: r, h => by
    unfold PySem.W.kitAny
    rw [h c List.mem_cons_self]
    exact kitAny_no fun c hc => h c (List.mem_cons_of_mem _ hc)
/-- a value whose repr is told -/
structure Shw (d : D) : Prop where
  tr : ∀ G, vD G d = d
  pq : Pq d 50
  sh : (toPy d).showable = true
  ln : (toPy d).shown.length ≤ 16777216
  lv : lvO (toPy d)
theorem Shw.ok {d : D} (h : Shw d) (G : GH) : okShowQ G d := ⟨by rw [h.tr]; exact h.pq, by rw [h.tr]; exact h.sh, by unfold showD; rw [h.tr]; exact h.ln⟩
theorem upper_nm {s : Str} (h : Nm s) : (∀ c ∈ cl (Txt.upper s), c < 128) ∧ (Txt.upper s).length ≤ 8 := by
  have e := PyProof.Rows.upper_ascii (x := s) (fun c hc => by have := h.2.2 c hc; omega)
  rw [e]
  constructor
  · intro c hc
    have hc : c ∈ (s.cps.map PyProof.Rows.up1).toList := hc
    rw [Array.toList_map] at hc
    obtain ⟨b, hb, rfl⟩ := List.mem_map.mp hc
    have := h.2.2 b hb
    unfold PyProof.Rows.up1
    split <;> omega
  · show (s.cps.map PyProof.Rows.up1).size ≤ 8
    rw [Array.size_map]
    exact h.2.1
theorem shw_str {s : Str} (h : ∀ c ∈ cl s, c < 16 ^ 8) (hv : okc s) (l : s.length ≤ 1000) : Shw (.str s) where
  tr := fun _ => rfl
  pq := by simp [Pq]
  sh := rfl
  ln := by
    have := PyData.shown_le_bulk 8 (by decide) (.str s) (by
      rw [PyData.leavesShort]
      exact List.all_eq_true.mpr fun c hc => decide_eq_true (h c hc))
    have e : (PyData.str s).bulk = s.cps.size := by rw [PyData.bulk]
    have l : s.cps.size ≤ 1000 := l
    show (PyData.str s).shown.length ≤ _
    omega
  lv := by
    show lvO (.str s)
    rw [lvO]; exact hv

end PL
end
section
namespace PL
open PySem PySem.Spec L2 TL WK
local macro_rules | `(tactic| kwd_rel) => `(tactic| simp only [startT, spOf, sSeq, sIf, sSet, sRet, sRetN, sExpr, sNext, sPar, sPutNm, sPut, sAug, sAsg, eC, eVar, aNil, aCons, aOne, eOp, eUn, eB, eAdd, eSub, eMul, eDiv, eMod, ePow, eNeg, eLt, eLe, eGt, eGe, eEq, eNe, eIs, eIsNot, eIn, eNotIn, eIx, eAbs, eMax2, eMin2, eDvm, eLen, eList, eListC, eTuple, eAll, eAny, eSum, tBl, tNot', tAnd', tOr', eAnd, eOr, eNot, eIf, eTup, eLst, eLstC, eCall, eMeth, eMake, eFld, eLm, eLc, eLcC, iSeq, iRng, iRng2', TL.iZip, eSm, eRevS, sFrz, eFrz, sFor, r_add, r_addS, r_addL, r_sub, r_mul, r_div, r_mod, r_pow, r_neg, r_lt, r_le, r_gt, r_ge, r_ixL, r_ixT, r_ixS, r_eqI, atI_0, atI_1, atI_2, b_abs, b_max, b_min, b_dvm, b_lenL, b_lenT, b_lenQ, vIt_str, vIt_lst, vIt_tup, CT_true, true_and, wipeT, List.map, List.length, List.replicate, List.cons_append, List.nil_append, List.append_nil, Nat.zero_le, List.getElem?_cons_zero, List.getElem?_cons_succ, List.getElem?_nil, List.set_cons_zero, List.set_cons_succ, gT, gsT, TgL.len, TL.vQ_tup, TL.vQ_lst, Nat.reduceAdd, Nat.reduceEqDiff, if_true, eSl, oSome, oNone, eIsi, eChain, iEnum', iEnumK, sFldT, eReprO, eCallK, eOEq, eFmt, eFmtR, eJs, eMethK, eReprQ, eInQ, eNotInQ, sRaiseX, eDctPT, eDNewC, eDNewT, eRepr, sPar3, rUpper, sRaiseE, eSetC, eLenS, eDisp, eScC, gP, List.filterMap_cons, List.filterMap_nil])
variable {Cs : List Addr} {K : PySem.W.Frag} {C cT : Addr}
/-! P43: read_line, load_graph. -/
def spReadS : SpT := fun ds G Q E => ∃ (l : Str) (a b : Addr) (ps : List Str) (es : List Ed), ds = [.str l, .ref a, .ref b] ∧ a ≠ b ∧ G a = some (.lst (ps.map D.str)) ∧ G b = some (.lst (es.map edD)) ∧ Gs ps es ∧ okc l ∧ l.length ≤ 1000000 ∧ (parts 32 l).length ≤ 16384 ∧
  (∀ ps' es', Fit l ps es ps' es' → Q (.bl true) (gup (gup G a (.lst (ps'.map D.str))) b (.lst (es'.map edD)))) ∧ ((∀ ps' es', ¬ Fit l ps es ps' es') → Q (.bl false) G)
theorem read_ok : ∀ ds G Q E, spReadS ds G Q E → sp0_read_line spIsName spEdgeS ds G Q E := by
  rintro ds G Q E ⟨l, a, b, ps, es, rfl, hab, ga, gb, g, ol, ll, lw, k1, k2⟩
  refine ⟨rfl, ?_⟩
  have s0 : sizeLine = 16777216 := rfl
  unfold t_read_line N_read_line
  have ep := split_parts (c := 32) (w := l) (y := " ") rfl (by decide)
  obtain ⟨w, xs, hw⟩ : ∃ w xs, parts 32 l = w :: xs := by
    cases e : parts 32 l with
    | nil => exact absurd e parts_ne
    | cons w xs => exact ⟨w, xs, rfl⟩
  have hm : ∀ x ∈ w :: xs, x ∈ parts 32 l := fun x hx => by rw [hw]; exact hx
  have ow : ∀ x ∈ w :: xs, okc x := fun x hx => parts_okc ol (hm x hx)
  have lx : ∀ x ∈ w :: xs, x.length ≤ 1000000 := fun x hx => Nat.le_trans (parts_short (hm x hx)) ll
  have lw' : xs.length + 1 ≤ 16384 := by rw [hw] at lw; exact lw
  refine cut1 (fun τ' G' => G' = G ∧ τ' = [some (.str l), some (.ref a), some (.ref b), some (.str w), some (.lst (xs.map D.str))]) (fun K hK => ?_) ?_
  · simp only [sSeq, sStar, eSm, eVar, aOne, eC, rSplit, startT, List.map, List.length, List.getElem?_cons_zero, List.cons_append, ep, hw]
    refine ⟨by decide, by omega, ?_⟩
    have tl : (TgL.cons (TgN.nm 3) (TgL.cons (TgN.nm 4) TgL.nil)).len = 2 := rfl
    simp only [vQ_lst, tl, List.map_cons, List.length_cons, List.length_map]
    refine ⟨by omega, by omega, by omega, ?_⟩
    have e1 : xs.length + 1 + 1 - 2 = xs.length := by omega
    simp only [e1, List.take_succ_cons, List.take_zero, List.drop_succ_cons, List.drop_zero]
    rw [show (xs.map D.str).take xs.length = xs.map D.str from List.take_of_length_le (by simp), show (xs.map D.str).drop xs.length = [] from List.drop_of_length_le (by simp)]
    exact hK _ _ ⟨rfl, rfl⟩
  · rintro τ' G' ⟨rfl, rfl⟩
    kwd_rel
    have okw := ow w List.mem_cons_self
    have oxs : ∀ x ∈ xs, okc x := fun x hx => ow x (List.mem_cons_of_mem _ hx)
    have hne : ¬ (("node" : Str) = "edge") := by decide
    have en : ∀ (G : GH) (Q : KD) (E : KX), rIsT false .non .non G Q E = Q (.bl true) G := fun _ _ _ => rfl
    have es' : ∀ (s : Str) (G : GH) (Q : KD) (E : KX), rIsT false (.str s) .non G Q E = Q (.bl false) G := fun _ _ _ _ => rfl
    have et : ∀ (G : GH) (Q : KD), rTup' [.lst (xs.map D.str)] G Q = Q (.tup (xs.map D.str)) G := fun _ _ => rfl
    simp only [r_eqS', et]
    by_cases hn : w = "node"
    · subst hn
      simp only [decide_true, fb, if_true, hne, decide_false, Bool.false_eq_true, if_false]
      have nofit : ((xs.length = 1 → es = [] → ps.length < 16 → ∀ x, xs = [x] → Nm x → x ∉ ps → False)) → Q (.bl false) G' := fun h => k2 fun ps' es' f => by
        rcases f with ⟨x, h1, h2, h3, h4, h5, _⟩ | ⟨c, d, h1, _⟩
        · rw [hw] at h1
          simp at h1
          exact h (by rw [h1]; rfl) h2 h3 x h1 h4 h5
        · rw [hw] at h1
          simp at h1
          exact hne h1.1
      by_cases h1 : ((xs.map D.str).length : Int) = 1
      · simp only [h1, decide_true, if_true]
        have h1' : xs.length = 1 := by rw [List.length_map] at h1; omega
        obtain ⟨x, rfl⟩ := List.length_eq_one_iff.mp h1'
        have lx1 := lx x (by simp)
        refine r_eqG (y := .lst []) (e := .lst []) (vD_ref gb) rfl (by rw [Pl]; exact plL_mono (by decide) (plE g.enm)) (by simp [Pl, PlL]) ?_
        rw [eqD_nil, fb]
        by_cases h2 : es = []
        · subst h2
          simp only [List.map_nil, List.isEmpty_nil, if_true, b_lenR ga, r_lt]
          by_cases h3 : ((ps.map D.str).length : Int) < 16
          · simp only [h3, decide_true, if_true, List.map_cons, List.map_nil, List.getElem?_cons_zero]
            refine ⟨x, rfl, by omega, ?_⟩
            by_cases h4 : Nm x
            · simp only [h4, decide_true, if_true]
              refine r_inG (vQ_ref ga) (fun _ => nofun) (by simpa [Pl] using h4.ok) (plS g.nm) ?_
              rw [any_str]
              by_cases h5 : x ∈ ps
              · simp only [h5, decide_true, tb, Bool.not_true, Bool.false_eq_true, if_false]
                exact nofit fun _ _ _ y e _ q => by cases e; exact q h5
              · simp only [h5, decide_false, tb, Bool.not_false, if_true, vL_ref ga, Option.isSome_some, true_and, ga, mAppend]
                rw [if_pos (by rw [List.length_map] at h3 ⊢; omega)]
                have := k1 (ps ++ [x]) [] (.inl ⟨x, hw, rfl, by rw [List.length_map] at h3; omega, h4, h5, rfl, rfl⟩)
                rw [gup_id (by rw [gup_ne hab.symm]; exact gb)] at this
                simpa using this
            · simp only [h4, decide_false, Bool.false_eq_true, if_false]
              exact nofit fun _ _ _ y e q _ => by cases e; exact h4 q
          · simp only [h3, decide_false, Bool.false_eq_true, if_false]
            exact nofit fun _ _ q => by rw [List.length_map] at h3; omega
        · have : (es.map edD).isEmpty = false := by cases es with
            | nil => exact absurd rfl h2
            | cons a b => rfl
          simp only [this, Bool.false_eq_true, if_false]
          exact nofit fun _ q => absurd q h2
      · simp only [h1, decide_false, Bool.false_eq_true, if_false]
        exact nofit fun q => absurd q (by rw [List.length_map] at h1; omega)
    · simp only [hn, decide_false, fb, Bool.false_eq_true, if_false]
      by_cases he : w = "edge"
      · subst he
        simp only [decide_true, if_true]
        have lp := g.l16
        refine ⟨xs, .ref a, .ref b, ps, es, rfl, vQ_ref ga, vQ_ref gb, g.nm, by omega, g.en, g.le, g.enm, oxs, fun ok => ?_, fun no s => ?_⟩
        · obtain ⟨c, d, rfl, hc⟩ := id ok
          have le := g.le
          simp only [en, if_true, vL_ref gb, Option.isSome_some, true_and, gb, mAppend]
          rw [if_pos (by rw [List.length_map]; omega)]
          have := k1 ps (es ++ [(c, d)]) (.inr ⟨c, d, hw, ok, rfl, rfl⟩)
          rw [gup_id (G := G') ga] at this
          simpa using this
        · simp only [es', Bool.false_eq_true, if_false]
          refine k2 fun ps' e2 f => ?_
          rcases f with ⟨x, h1, _⟩ | ⟨c, d, h1, h2, _⟩
          · rw [hw] at h1; simp at h1; exact hn h1.1
          · rw [hw] at h1; simp at h1; rw [h1] at no; exact no h2
      · simp only [he, decide_false, Bool.false_eq_true, if_false]
        refine k2 fun ps' e2 f => ?_
        rcases f with ⟨x, h1, _⟩ | ⟨c, d, h1, h2, _⟩
        · rw [hw] at h1; simp at h1; exact hn h1.1
        · rw [hw] at h1; simp at h1; exact he h1.1
/-- a text to be loaded -/
structure Tx (w : Str) (T N S : Nat) : Prop where
  ok : okc w
  ln : w.length ≤ T
  nl : (cl w).count 10 ≤ N
  sp : (cl w).count 32 ≤ S
abbrev xL (k : Nat) : List (Str × D) := [("line", .int k)]
def spLoad (C cT : Addr) : SpT := fun ds G Q E => (∃ w, ds = [.str w] ∧ Tx w 1000000 10000 10000 ∧ (∀ ps es R, Gd ps es → w = joined (lns ps es) → Out w none → Q (gr C ps es R) G) ∧ (∀ k, Out w (some k) → ∀ G', Ext G G' → E (.ref cT) (xL k) G')) ∨
  ∃ d, ds = [d] ∧ Val d ∧ is_str d = false ∧ E (.ref cT) (xL 0) G
theorem reqEdges_S : ∀ ds G Q E, spReqEdges ds G Q E → sp0_require_edges Cs K spEdgeS ds G Q E := reqEdges_okG edge_S
theorem load_ok : ∀ ds G Q E, spLoad C cT ds G Q E → sp0_load_graph Cs K cT C spReadS (spInit C) ds G Q E := by
  rintro ds G Q E (⟨w, rfl, tx, k1, k2⟩ | ⟨d, rfl, hv, hs, k⟩)
  · refine ⟨rfl, ?_⟩
    have s0 : sizeLine = 16777216 := rfl
    have ep := split_parts (c := 10) (w := w) (y := "\n") rfl (by decide)
    have pl : (parts 10 w).length ≤ 10001 := by rw [parts_len]; have := tx.nl; omega
    obtain ⟨ls, r, hp⟩ := (List.eq_nil_or_concat (parts 10 w)).resolve_left parts_ne
    rw [List.concat_eq_append] at hp
    have hno : ∀ x ∈ ls ++ [r], x ∈ parts 10 w := fun x hx => by rw [hp]; exact hx
    have ox : ∀ x ∈ ls ++ [r], okc x := fun x hx => parts_okc tx.ok (hno x hx)
    have lx : ∀ x ∈ ls ++ [r], x.length ≤ 1000000 := fun x hx => Nat.le_trans (parts_short (hno x hx)) tx.ln
    have sx : ∀ x ∈ ls ++ [r], (parts 32 x).length ≤ 16384 := fun x hx => by
      rw [parts_len]
      have := parts_count (d := 32) (by decide) (hno x hx)
      have := tx.sp
      omega
    have nl : ls.length ≤ 10000 := by rw [hp] at pl; simp at pl; exact pl
    obtain ⟨o, ps, es, hr⟩ := Run.ex ls 1 [] []
    have ho : ∀ o', o' = (match o with
      | some k => some k
      | none => if r = Str.empty ∧ ps ≠ [] then none else some (ls.length + 1)) → Out w o' := fun o' e => by
      refine ⟨o, ps, es, by rw [hp, List.dropLast_concat]; exact hr, ?_⟩
      rw [e, hp]
      cases o with
      | some k => rfl
      | none => simp
    unfold t_load_graph N_load_graph
    refine cut2 (fun τ' G' => G' = G ∧ τ' = [some (.str w), some (.lst (ls.map D.str)), some (.str r), none, none, none, none]) (fun K hK => ?_) ?_
    · simp only [sSeq, sIf, sNext, sStar, eSm, eVar, aOne, aCons, aNil, eC, eIsi, eB, tBl, tNot', rSplit, startT, List.map, List.length, List.getElem?_cons_zero, List.cons_append, ep, hp]
      refine isi_true rfl ?_
      simp only [Bool.not_true, Bool.false_eq_true, if_false]
      refine ⟨by decide, by have := tx.ln; omega, ?_⟩
      have tl : (TgL.cons (TgN.nm 1) (TgL.cons (TgN.nm 2) TgL.nil)).len = 2 := rfl
      simp only [vQ_lst, tl, List.map_append, List.length_append, List.length_map, List.length_cons, List.length_nil, List.take_zero, List.drop_zero, List.nil_append]
      refine ⟨by omega, by omega, by omega, ?_⟩
      have e1 : ls.length + (0 + 1) + 1 - 2 = ls.length := by omega
      rw [e1]
      have t1 : (ls.map D.str ++ [D.str r]).take ls.length = ls.map D.str := by
        rw [List.take_append_of_le_length (by simp)]
        exact List.take_of_length_le (by simp)
      have t2 : (ls.map D.str ++ [D.str r]).drop ls.length = [D.str r] := by
        rw [List.drop_append, List.drop_of_length_le (by simp)]
        simp
      simp only [t1, t2, List.map_cons, List.map_nil]
      exact hK _ _ ⟨rfl, rfl⟩
    · rintro τ' G' ⟨rfl, rfl⟩
      kwd_rel
      refine fun a ha => fun b hb => ?_
      have hab : a ≠ b := ne_of_get gup_same hb
      have hb0 : G' b = none := by rw [gup_ne hab.symm] at hb; exact hb
      refine ⟨by decide, by decide, ?_⟩
      have sz : ∀ G1 : GH, (∀ x, x ≠ a → x ≠ b → G1 x = G' x) → Ext G' G1 := fun G1 h q c e => by
        rw [h q (fun z => by rw [z, ha] at e; cases e) (fun z => by rw [z, hb0] at e; cases e)]
        exact e
      refine for_inv (fun i τ1 G1 => ∃ (p1 : List Str) (e1 : List Ed) (x5 x6 : Option D), τ1 = [some (.str w), some (.lst (ls.map D.str)), some (.str r), some (.ref a), some (.ref b), x5, x6] ∧ i ≤ ls.length ∧ G1 a = some (.lst (p1.map D.str)) ∧ G1 b = some (.lst (e1.map edD)) ∧ (∀ x, x ≠ a → x ≠ b → G1 x = G' x) ∧ Gs p1 e1 ∧ Run (1 + i) (ls.drop i) p1 e1 o ps es) (fun _ _ _ _ => trivial) ?_ ?_ ?_
      · rintro i t τ1 G1 e ⟨p1, e1, x5, x6, rfl, hi, g1, g2, o1, gs, rn⟩
        obtain ⟨u, eu, rfl⟩ := enum_at e
        rw [List.getElem?_map] at eu
        cases ei : ls[i]? with
        | none => rw [ei] at eu; cases eu
        | some l =>
          rw [ei] at eu
          cases eu
          have hi' : i < ls.length := (List.getElem?_eq_some_iff.mp ei).1
          have hl : l ∈ ls ++ [r] := List.mem_append_left _ (List.mem_of_getElem? ei)
          have ed : ls.drop i = l :: ls.drop (i + 1) := by rw [List.drop_eq_getElem_cons hi']; congr 1; exact (List.getElem?_eq_some_iff.mp ei).2
          refine ⟨_, rfl, fun K2 hK2 => ?_⟩
          kwd_rel
          refine ⟨l, a, b, p1, e1, rfl, hab, g1, g2, gs, ox l hl, lx l hl, sx l hl, fun p2 e2 f => ?_, fun nf => ?_⟩
          · simp only [Bool.not_true, Bool.false_eq_true, if_false]
            rw [ed] at rn
            cases rn with
            | bad h => exact absurd f (h _ _)
            | fit h t =>
              obtain ⟨rfl, rfl⟩ := h.one f
              refine hK2 _ _ ⟨_, _, _, _, rfl, hi', by rw [gup_ne hab]; exact gup_same, gup_same, fun x h1 h2 => by rw [gup_ne h2, gup_ne h1]; exact o1 x h1 h2, (h.gs gs).1, by rw [← Nat.add_assoc]; exact t⟩
          · simp only [Bool.not_false, if_true]
            refine ⟨by decide, ⟨.int (1 + i), [], rfl, ⟨1 + i, rfl, ?_⟩, rfl⟩, ?_⟩
            · exact log2_lt (k := 1920) (Nat.lt_of_lt_of_le (m := 2 ^ 20) (by omega) (Nat.pow_le_pow_right (by decide) (by decide))) (by decide)
            · rw [ed] at rn
              cases rn with
              | fit h t => exact absurd h (nf _ _)
              | bad h =>
                have e1 : (1 + (i : Int)) = ((1 + i : Nat) : Int) := by omega
                rw [e1]
                exact k2 (1 + i) (ho _ rfl) G1 (sz G1 o1)
      · rintro τ1 G1 ⟨p1, e1, x5, x6, rfl, hi, g1, g2, o1, gs, rn⟩
        have len : (enumD 1 (ls.map D.str)).length = ls.length := by rw [enumD_length, List.length_map]
        rw [len, List.drop_length] at rn
        cases rn with
        | done =>
          kwd_rel
          rw [r_eqS']
          have bad : ¬ (r = Str.empty ∧ ps ≠ []) → E (.ref cT) [("line", .int (((ls.map D.str).length : Int) + 1))] G1 := fun h => by
            have e1 : (((ls.map D.str).length : Int) + 1) = ((ls.length + 1 : Nat) : Int) := by rw [List.length_map]; omega
            rw [e1]
            exact k2 (ls.length + 1) (ho _ (by dsimp only; rw [if_neg h])) G1 (sz G1 o1)
          have lg : okD [.int] [.int ((ls.map D.str).length + 1)] := ⟨_, [], rfl, ⟨_, rfl, log2_lt (k := 1920) (Nat.lt_of_lt_of_le (m := 2 ^ 20) (by rw [List.length_map]; omega) (Nat.pow_le_pow_right (by decide) (by decide))) (by decide)⟩, rfl⟩
          have le : ((ls.map D.str).length : Int) = ls.length := by rw [List.length_map]
          by_cases hr0 : r = Str.empty
          · have hr1 : decide (r = Str.ofString "") = true := decide_eq_true hr0
            simp only [hr1, bne_self_eq_false, Bool.false_eq_true, if_false]
            refine r_eqG (y := .lst []) (e := .lst []) (vD_ref g1) rfl (by rw [Pl]; exact plL_mono (by decide) (plS gs.nm)) (by simp [Pl, PlL]) ?_
            rw [eqD_nil, fb]
            by_cases hp0 : ps = []
            · have : (ps.map D.str).isEmpty = true := by rw [hp0]; rfl
              simp only [this, if_true]
              refine ⟨by decide, lg, ?_⟩
              exact bad fun h => h.2 hp0
            · have : (ps.map D.str).isEmpty = false := by cases ps with
                | nil => exact absurd rfl hp0
                | cons a b => rfl
              simp only [this, Bool.false_eq_true, if_false]
              have gd := gs.gd hp0
              have gdl : gdel (gdel G1 b) a = G' := by
                funext x
                by_cases c1 : x = a
                · subst c1; rw [gdel_same, ha]
                · rw [gdel_ne c1]
                  by_cases c2 : x = b
                  · subst c2; rw [gdel_same, hb0]
                  · rw [gdel_ne c2]; exact o1 x c1 c2
              rw [frz_lst g2]
              dsimp only
              rw [frz_lst (G := gdel G1 b) (p := a) (xs := ps.map D.str) (by rw [gdel_ne hab]; exact g1)]
              dsimp only
              rw [gdl]
              have out : Out w none := ho none (by dsimp only; rw [if_pos ⟨hr0, hp0⟩])
              have ew : w = joined (lns ps es) := by
                obtain ⟨q1, q2, h1, _, _, h4⟩ := out.text
                rw [hp, List.dropLast_concat] at h1
                obtain ⟨_, rfl, rfl⟩ := hr.one h1
                exact h4
              exact mk rfl rfl gd fun R _ => k1 ps es R gd ew out
          · have hr1 : decide (r = Str.ofString "") = false := decide_eq_false hr0
            simp only [hr1, Bool.bne_false, if_true]
            refine ⟨by decide, lg, ?_⟩
            exact bad fun h => hr0 h.1
      · exact ⟨[], [], none, none, rfl, Nat.zero_le _, by rw [gup_ne hab]; exact gup_same, gup_same, fun x h1 h2 => by rw [gup_ne h2, gup_ne h1], Gs.nil, by simpa using hr⟩
  · refine ⟨rfl, ?_⟩
    unfold t_load_graph N_load_graph
    kwd_rel
    rw [isi_str hv, hs]
    simp only [Bool.not_false, if_true]
    exact ⟨by decide, ⟨.int 0, [], rfl, ⟨0, rfl, by decide⟩, rfl⟩, k⟩

end PL
end
section
namespace PL
open PySem PySem.Spec L2 TL WK
local macro_rules | `(tactic| kwd_rel) => `(tactic| simp only [startT, spOf, sSeq, sIf, sSet, sRet, sRetN, sExpr, sNext, sPar, sPutNm, sPut, sAug, sAsg, eC, eVar, aNil, aCons, aOne, eOp, eUn, eB, eAdd, eSub, eMul, eDiv, eMod, ePow, eNeg, eLt, eLe, eGt, eGe, eEq, eNe, eIs, eIsNot, eIn, eNotIn, eIx, eAbs, eMax2, eMin2, eDvm, eLen, eList, eListC, eTuple, eAll, eAny, eSum, tBl, tNot', tAnd', tOr', eAnd, eOr, eNot, eIf, eTup, eLst, eLstC, eCall, eMeth, eMake, eFld, eLm, eLc, eLcC, iSeq, iRng, iRng2', TL.iZip, eSm, eRevS, sFrz, eFrz, sFor, r_add, r_addS, r_addL, r_sub, r_mul, r_div, r_mod, r_pow, r_neg, r_lt, r_le, r_gt, r_ge, r_ixL, r_ixT, r_ixS, r_eqI, atI_0, atI_1, atI_2, b_abs, b_max, b_min, b_dvm, b_lenL, b_lenT, b_lenQ, vIt_str, vIt_lst, vIt_tup, CT_true, true_and, wipeT, List.map, List.length, List.replicate, List.cons_append, List.nil_append, List.append_nil, Nat.zero_le, List.getElem?_cons_zero, List.getElem?_cons_succ, List.getElem?_nil, List.set_cons_zero, List.set_cons_succ, gT, gsT, TgL.len, TL.vQ_tup, TL.vQ_lst, Nat.reduceAdd, Nat.reduceEqDiff, if_true, eSl, oSome, oNone, eIsi, eChain, iEnum', iEnumK, sFldT, eReprO, eCallK, eOEq, eFmt, eFmtR, eJs])
variable {Cs : List Addr} {K : PySem.W.Frag} {C : Addr}
def spDump (C : Addr) : SpT := fun ds G Q E => ∃ (ps : List Str) (es : List Ed) (R : Str → List Str), ds = [gr C ps es R] ∧ Gd ps es ∧ Q (.str (joined (lns ps es))) G
theorem dump_ok : ∀ ds G Q E, spDump C ds G Q E → sp0_dump_graph C (spNodes C) (spEdges C) ds G Q E := by
  rintro ds G Q E ⟨ps, es, R, rfl, g, k⟩
  refine ⟨rfl, ?_⟩
  have s0 : sizeLine = 16777216 := rfl
  have l1 := g.l16
  have l2 := g.le
  have n1 : getK (gfs ps es R) ("nodes" : Str) = none := gfn (by decide) (by decide) (by decide)
  have n2 : getK (gfs ps es R) ("edges" : Str) = none := gfn (by decide) (by decide) (by decide)
  unfold t_dump_graph N_dump_graph
  kwd_rel
  simp only [vI_gr, n1, n2, true_and]
  refine ⟨ps, es, R, rfl, ?_⟩
  simp only [vIt_lst]
  refine lc_fm fLn trivial (by simp; omega) (fun t ht => ?_) ?_
  · obtain ⟨l, hl, rfl⟩ := List.mem_map.mp ht
    refine ⟨_, rfl, fun K4 K5 h => ?_⟩
    simp only [tTrue, if_true]
    kwd_rel
    have := (g.nm l hl).2.1
    simp only [emp]
    exact ⟨by show 5 ≤ _; omega, by omega, by rw [len_app]; show 5 + _ ≤ _; omega, h⟩
  · rw [fLn_map]
    intro q hq
    simp only [vL_ref gup_same, Option.isSome_some, true_and]
    refine ⟨ps, es, R, rfl, ?_⟩
    simp only [vIt_lst]
    refine lc_fm fLe trivial (by simp; omega) (fun t ht => ?_) ?_
    · obtain ⟨l, hl, rfl⟩ := List.mem_map.mp ht
      refine ⟨_, rfl, fun K4 K5 h => ?_⟩
      simp only [tTrue, if_true]
      kwd_rel
      have h1 := (g.enm l hl).1.2.1
      have h2 := (g.enm l hl).2.2.1
      simp only [emp]
      exact ⟨by show 5 ≤ _; omega, by omega, by rw [len_app]; show 5 + _ ≤ _; omega, by rw [len_app, len_app]; show 5 + _ + 1 ≤ _; omega, by omega, by rw [len_app, len_app, len_app]; show 5 + _ + 1 + _ ≤ _; omega, h⟩
    · rw [fLe_map]
      simp only [gup_same, mExtend, vL_lst]
      rw [if_pos (by simp; omega)]
      simp only [gup_gup, ← List.map_append]
      rw [frz_lst gup_same]
      dsimp only
      rw [gdel_gup hq]
      simp only [vIt_lst]
      have hl : ∀ l ∈ lns ps es, l.length ≤ 22 := lns_len g.nm g.enm
      have ll : (lns ps es).length ≤ 300 := by unfold lns; simp; omega
      refine lc_fm fNl trivial (by simp; unfold lns at ll; simp at ll; omega) (fun t ht => ?_) (join_nl (ls := lns ps es) (by omega) hl k)
      obtain ⟨l, hl', rfl⟩ := List.mem_map.mp ht
      refine ⟨_, rfl, fun K4 K5 h => ?_⟩
      simp only [tTrue, if_true]
      kwd_rel
      have := hl l hl'
      exact ⟨by show l.length + 1 ≤ _; omega, h⟩
/-! repr -/

end PL
end
section
namespace PL
open PySem PySem.Spec L2 TL WK
local macro_rules | `(tactic| kwd_rel) => `(tactic| simp only [startT, spOf, sSeq, sIf, sSet, sRet, sRetN, sExpr, sNext, sPar, sPutNm, sPut, sAug, sAsg, eC, eVar, aNil, aCons, aOne, eOp, eUn, eB, eAdd, eSub, eMul, eDiv, eMod, ePow, eNeg, eLt, eLe, eGt, eGe, eEq, eNe, eIs, eIsNot, eIn, eNotIn, eIx, eAbs, eMax2, eMin2, eDvm, eLen, eList, eListC, eTuple, eAll, eAny, eSum, tBl, tNot', tAnd', tOr', eAnd, eOr, eNot, eIf, eTup, eLst, eLstC, eCall, eMeth, eMake, eFld, eLm, eLc, eLcC, iSeq, iRng, iRng2', TL.iZip, eSm, eRevS, sFrz, eFrz, sFor, r_add, r_addS, r_addL, r_sub, r_mul, r_div, r_mod, r_pow, r_neg, r_lt, r_le, r_gt, r_ge, r_ixL, r_ixT, r_ixS, r_eqI, atI_0, atI_1, atI_2, b_abs, b_max, b_min, b_dvm, b_lenL, b_lenT, b_lenQ, vIt_str, vIt_lst, vIt_tup, CT_true, true_and, wipeT, List.map, List.length, List.replicate, List.cons_append, List.nil_append, List.append_nil, Nat.zero_le, List.getElem?_cons_zero, List.getElem?_cons_succ, List.getElem?_nil, List.set_cons_zero, List.set_cons_succ, gT, gsT, TgL.len, TL.vQ_tup, TL.vQ_lst, Nat.reduceAdd, Nat.reduceEqDiff, if_true, eSl, oSome, oNone, eIsi, eChain, iEnum', iEnumK, sFldT, eReprO, eCallK, eOEq, eFmt, eFmtR, eJs, eMethK, eReprQ, eInQ, eNotInQ, sRaiseX, eDctPT, eDNewC, eDNewT, eRepr, sPar3, rUpper, sRaiseE, eSetC, eLenS, eDisp, eScC, gP, List.filterMap_cons, List.filterMap_nil])
variable {Cs : List Addr} {K : PySem.W.Frag} {C cT : Addr}
/-! P44: the law's own look: _law_is_name, _law_leads, _law_line_fits, _law_expected. -/
def spLName : SpT := fun ds G Q E => ∃ s : Str, ds = [.str s] ∧ okc s ∧ s.length ≤ 16777216 ∧ Q (.bl (decide (Nm s))) G
def fOdd : D → Option D
  | .str z => if (cl z).headD 0 ∈ cl abc then none else some (.str z)
  | _ => none
theorem lname_ok : ∀ ds G Q E, spLName ds G Q E → sp0_law_is_name ds G Q E := by
  rintro ds G Q E ⟨s, rfl, ho, hl, k⟩
  refine ⟨rfl, ?_⟩
  have s0 : sizeLine = 16777216 := rfl
  unfold t_law_is_name N_law_is_name
  kwd_rel
  rw [b_lenS (show s.length ≤ sizeLine by omega), r_le]
  by_cases h0 : (1 : Int) ≤ (s.length : Nat)
  · simp only [h0, decide_true]
    rw [r_le]
    by_cases h9 : ((s.length : Nat) : Int) ≤ 8
    · simp only [h9, decide_true]
      refine lc_fm fOdd trivial (by simp [signsD]; have := cl_len s; simp [cl] at this; omega) (fun d hd => ?_) ?_
      · obtain ⟨c, hc, rfl⟩ := List.mem_map.mp hd
        refine ⟨_, rfl, fun K4 K5 h => ?_⟩
        kwd_rel
        refine ⟨c, rfl, ?_⟩
        have ef : fOdd (.str ⟨#[c]⟩) = if c ∈ cl abc then none else some (.str ⟨#[c]⟩) := rfl
        rw [ef] at h
        show if (true != decide (c ∈ cl abc)) = true then _ else _
        by_cases c1 : c ∈ cl abc
        · simp only [c1, if_true, decide_true, tb, Bool.not_true, Bool.false_eq_true, if_false] at h ⊢; exact h
        · simp only [c1, if_false, decide_false, tb, Bool.not_false, if_true] at h ⊢; exact h
      · have ef : ∀ c, fOdd (.str ⟨#[c]⟩) = if c ∈ cl abc then none else some (.str ⟨#[c]⟩) := fun _ => rfl
        have pl : PlL ((signsD s).filterMap fOdd) 59 := plL_iff.mpr fun x hx => by
          obtain ⟨y, hy, e⟩ := List.mem_filterMap.mp hx
          obtain ⟨c, hc, rfl⟩ := List.mem_map.mp hy
          rw [ef] at e
          split at e
          · cases e
          · cases e
            have := ho c hc
            simp only [Pl]
            exact strOk_of fun x hx => by
              have hx : x ∈ [c] := hx
              rw [List.mem_singleton.mp hx]; exact this
        refine r_eqG rfl rfl (by show Pl (.lst _) 60; rw [Pl]; exact pl) (by show Pl (.lst []) 60; simp [Pl, PlL]) ?_
        show Q (.bl (false != eqD (.lst _) (.lst []))) G
        rw [eqD_nil, fb]
        have e : ((signsD s).filterMap fOdd).isEmpty = decide (Nm s) := by
          rw [Bool.eq_iff_iff, List.isEmpty_iff]
          rw [decide_eq_true_eq, List.filterMap_eq_nil_iff]
          constructor
          · intro h
            refine ⟨by omega, by omega, fun c hc => ?_⟩
            have := h (.str ⟨#[c]⟩) (List.mem_map.mpr ⟨c, hc, rfl⟩)
            rw [ef] at this
            split at this
            · rename_i hm
              rw [abc_cl] at hm
              simp at hm
              omega
            · cases this
          · rintro h x hx
            obtain ⟨c, hc, rfl⟩ := List.mem_map.mp hx
            have := h.2.2 c hc
            rw [ef, if_pos]
            rw [abc_cl]
            simp
            omega
        rw [e]
        exact k
    · simp only [h9, decide_false]
      have : decide (Nm s) = false := decide_eq_false fun h => h9 (by have := h.2.1; omega)
      rw [this] at k
      exact k
  · simp only [h0, decide_false]
    have : decide (Nm s) = false := decide_eq_false fun h => h0 (by have := h.1; omega)
    rw [this] at k
    exact k
def spLeads : SpT := fun ds G Q E => ∃ (d : D) (s t : Str) (es : List Ed), ds = [d, .str s, .str t] ∧ vQ G d = some (es.map edD) ∧ es.Nodup ∧ es.length ≤ 256 ∧ (∀ e ∈ es, Nm e.1 ∧ Nm e.2) ∧ Nm s ∧ okc t ∧ ∀ b : Bool, (b = true ↔ Pth es s t) → Q (.bl b) G
theorem leads_ok : ∀ ds G Q E, spLeads ds G Q E → sp0_law_leads ds G Q E := by
  rintro ds G Q E ⟨d, s, t, es, rfl, hd, en, el, hn, hs, ht, k⟩
  refine ⟨rfl, ?_⟩
  have s0 : sizeLine = 16777216 := rfl
  unfold t_law_leads N_law_leads
  kwd_rel
  refine ⟨by omega, by omega, ?_⟩
  refine while_inv (fun n τ' G' => ∃ (rs : List Str) (v : Nat) (y z : Option D), n = 300 - v ∧ v ≤ rs.length ∧ τ' = [some d, some (.str s), some (.str t), some (.lst (rs.map D.str)), some (.int v), y, z] ∧ G' = G ∧ rs.Nodup ∧ s ∈ rs ∧ (∀ i, i < v → ∀ e ∈ es, rs[i]? = some e.1 → e.2 ∈ rs) ∧
    (∀ P : Str → Prop, P s → (∀ e ∈ es, P e.1 → P e.2) → ∀ x ∈ rs, P x)) ?_ (n := 300) ⟨[s], 0, none, none, rfl, by simp, rfl, rfl, by simp, by simp, by simp, fun P h _ x hx => by simp at hx; rw [hx]; exact h⟩
  rintro n τ' G' ⟨rs, v, y, z, rfl, hv, rfl, rfl, nd, st, cl, mn⟩ K hK
  have hle : rs.length ≤ es.length + 1 := by
    have := nodup_le (ys := s :: es.map (·.2)) nd fun x hx => mn (fun x => x ∈ s :: es.map (·.2)) (by simp) (fun e he _ => List.mem_cons_of_mem _ (List.mem_map.mpr ⟨e, he, rfl⟩)) x hx
    simpa using this
  have hnm : ∀ x ∈ rs, Nm x := mn Nm hs fun e he _ => (hn e he).2
  kwd_rel
  simp only [List.length_map]
  by_cases hlt : v < rs.length
  · have hlt' : (v : Int) < rs.length := by omega
    simp only [hlt', decide_true, if_true]
    simp only [vIt_of hd]
    obtain ⟨w, hw⟩ : ∃ w, rs[v]? = some w := ⟨rs[v], List.getElem?_eq_getElem hlt⟩
    have hwm : w ∈ rs := List.mem_of_getElem? hw
    refine lc_fm (fRch rs w) (vIt_of hd) (by simp; omega) (fun t' ht' => ?_) ?_
    · obtain ⟨e, he, rfl⟩ := List.mem_map.mp ht'
      refine ⟨_, rfl, fun K4 K5 h => ?_⟩
      have he' := hn e he
      kwd_rel
      rw [TL.atI_nat, List.getElem?_map, hw]
      simp only [Option.map_some]
      rw [r_eqS he'.1.ok (hnm w hwm).ok]
      have hf : fRch rs w (edD e) = if e.1 = w ∧ e.2 ∉ rs then some (.str e.2) else none := rfl
      rw [hf] at h
      by_cases c1 : e.1 = w
      · simp only [c1, decide_true, Bool.bne_true, Bool.not_false, if_true]
        refine r_inG rfl (fun _ => nofun) (by simpa [Pl] using he'.2.ok) (plS hnm) ?_
        rw [any_str]
        by_cases c2 : e.2 ∈ rs
        · simpa [c1, c2] using h
        · simpa [c1, c2] using h
      · simpa [c1] using h
    · rw [fRch_map]
      have le2 : rs.length + (tgt es rs w).length ≤ 600 := by
        have : (tgt es rs w).length ≤ es.length := by unfold tgt; rw [List.length_map]; exact List.length_filter_le ..
        omega
      refine ⟨by rw [List.length_map]; omega, ?_⟩
      simp only [← List.map_append]
      refine hK (300 - (v + 1)) _ _ (by omega) ⟨rs ++ tgt es rs w, v + 1, _, _, rfl, by simp; omega, rfl, rfl, ?_, List.mem_append_left _ st, ?_, ?_⟩
      · exact List.nodup_append.mpr ⟨nd, tgt_nd en, fun a ha b hb e => (mem_tgt.mp hb).2 (e ▸ ha)⟩
      · intro i hi e he e1
        rw [List.getElem?_append_left (by omega)] at e1
        by_cases c : i < v
        · exact List.mem_append_left _ (cl i c e he e1)
        · have : i = v := by omega
          subst this
          rw [hw] at e1
          by_cases c2 : e.2 ∈ rs
          · exact List.mem_append_left _ c2
          · exact List.mem_append_right _ (mem_tgt.mpr ⟨by rw [Option.some.inj e1]; exact he, c2⟩)
      · intro P h1 h2 a ha
        rcases List.mem_append.mp ha with ha | ha
        · exact mn P h1 h2 a ha
        · exact h2 _ (mem_tgt.mp ha).1 (mn P h1 h2 w hwm)
  · have hlt' : ¬ (v : Int) < rs.length := by omega
    simp only [hlt', decide_false, Bool.false_eq_true, if_false]
    have hr : Rch es s rs := ⟨nd, st, fun e he h1 => by
      obtain ⟨i, hi, e1⟩ := List.getElem_of_mem h1
      exact cl i (by omega) e he (by rw [List.getElem?_eq_getElem hi, e1]), mn, hnm, hle⟩
    refine r_inG rfl (fun _ => nofun) (by simpa [Pl] using okc_strOk ht) (plS hnm) ?_
    rw [any_str, fb]
    exact k _ (by rw [decide_eq_true_eq]; exact hr.iff t)
/-- the law's look at a line -/
def spFits : SpT := fun ds G Q E => ∃ (l : Str) (a b : Addr) (ps : List Str) (es : List Ed), ds = [.str l, .ref a, .ref b] ∧ a ≠ b ∧ G a = some (.lst (ps.map D.str)) ∧ G b = some (.lst (es.map edD)) ∧ Gs ps es ∧ okc l ∧ l.length ≤ 1000000 ∧ (parts 32 l).length ≤ 16384 ∧
  (∀ ps' es', Fit l ps es ps' es' → Q (.bl true) (gup (gup G a (.lst (ps'.map D.str))) b (.lst (es'.map edD)))) ∧ ((∀ ps' es', ¬ Fit l ps es ps' es') → Q (.bl false) G)
theorem fits_ok : ∀ ds G Q E, spFits ds G Q E → sp0_law_line_fits spLName spLeads ds G Q E := by
  rintro ds G Q E ⟨l, a, b, ps, es, rfl, hab, ga, gb, g, ol, ll, lw, k1, k2⟩
  refine ⟨rfl, ?_⟩
  have s0 : sizeLine = 16777216 := rfl
  unfold t_law_line_fits N_law_line_fits
  have ep := split_parts (c := 32) (w := l) (y := " ") rfl (by decide)
  obtain ⟨w, xs, hw⟩ : ∃ w xs, parts 32 l = w :: xs := by
    cases e : parts 32 l with
    | nil => exact absurd e parts_ne
    | cons w xs => exact ⟨w, xs, rfl⟩
  have hm : ∀ x ∈ w :: xs, x ∈ parts 32 l := fun x hx => by rw [hw]; exact hx
  have ow : ∀ x ∈ w :: xs, okc x := fun x hx => parts_okc ol (hm x hx)
  have lx : ∀ x ∈ w :: xs, x.length ≤ 1000000 := fun x hx => Nat.le_trans (parts_short (hm x hx)) ll
  have lw' : xs.length + 1 ≤ 16384 := by rw [hw] at lw; exact lw
  refine cut1 (fun τ' G' => G' = G ∧ τ' = [some (.str l), some (.ref a), some (.ref b), some (.lst (.str w :: xs.map D.str))]) (fun K hK => ?_) ?_
  · simp only [sSeq, sSet, eSm, eVar, aOne, eC, rSplit, startT, List.map, List.length, List.getElem?_cons_zero, List.cons_append, ep, hw]
    exact ⟨by decide, by omega, hK _ _ ⟨rfl, rfl⟩⟩
  · rintro τ' G' ⟨rfl, rfl⟩
    kwd_rel
    simp only [r_eqS']
    have hne : ¬ (("node" : Str) = "edge") := by decide
    have lp := g.l16
    have le := g.le
    by_cases hn : w = "node"
    · subst hn
      simp only [decide_true, fb, if_true]
      have nofit : ((xs.length = 1 → es = [] → ps.length < 16 → ∀ x, xs = [x] → Nm x → x ∉ ps → False)) → Q (.bl false) G' := fun h => k2 fun ps' es' f => by
        rcases f with ⟨x, h1, h2, h3, h4, h5, _⟩ | ⟨c, d, h1, _⟩
        · rw [hw] at h1
          simp at h1
          exact h (by rw [h1]; rfl) h2 h3 x h1 h4 h5
        · rw [hw] at h1
          simp at h1
          exact hne h1.1
      by_cases h1 : (((xs.map D.str).length + 1 : Nat) : Int) = 2
      · simp only [h1, decide_true, tb, Bool.not_true, Bool.false_eq_true, if_false]
        have h1' : xs.length = 1 := by rw [List.length_map] at h1; omega
        obtain ⟨x, rfl⟩ := List.length_eq_one_iff.mp h1'
        have lx1 := lx x (by simp)
        refine r_eqG (y := .lst []) (e := .lst []) (vD_ref gb) rfl (by rw [Pl]; exact plL_mono (by decide) (plE g.enm)) (by simp [Pl, PlL]) ?_
        rw [eqD_nil]
        by_cases h2 : es = []
        · subst h2
          simp only [List.map_nil, List.isEmpty_nil, tb, Bool.not_true, Bool.false_eq_true, if_false, b_lenR ga, r_eqI, fb]
          by_cases h3 : ((ps.map D.str).length : Int) = 16
          · simp only [h3, decide_true, if_true]
            exact nofit fun _ _ q => by rw [List.length_map] at h3; omega
          · simp only [h3, decide_false, Bool.false_eq_true, if_false, List.map_cons, List.map_nil, List.getElem?_cons_zero]
            refine ⟨x, rfl, ow x (by simp), by omega, ?_⟩
            by_cases h4 : Nm x
            · simp only [h4, decide_true, Bool.not_true, Bool.false_eq_true, if_false]
              refine r_inG (vQ_ref ga) (fun _ => nofun) (by simpa [Pl] using h4.ok) (plS g.nm) ?_
              rw [any_str]
              by_cases h5 : x ∈ ps
              · simp only [h5, decide_true, fb, if_true]
                exact nofit fun _ _ _ y e _ q => by cases e; exact q h5
              · simp only [h5, decide_false, fb, Bool.false_eq_true, if_false, vL_ref ga, Option.isSome_some, true_and, ga, mAppend]
                rw [if_pos (by rw [List.length_map] at h3 ⊢; omega)]
                have := k1 (ps ++ [x]) [] (.inl ⟨x, hw, rfl, by rw [List.length_map] at h3; omega, h4, h5, rfl, rfl⟩)
                rw [gup_id (by rw [gup_ne hab.symm]; exact gb)] at this
                simpa using this
            · simp only [h4, decide_false, Bool.not_false, if_true]
              exact nofit fun _ _ _ y e q _ => by cases e; exact h4 q
        · have : (es.map edD).isEmpty = false := by cases es with
            | nil => exact absurd rfl h2
            | cons a b => rfl
          simp only [this, tb, Bool.not_false, if_true]
          exact nofit fun _ q => absurd q h2
      · simp only [h1, decide_false, tb, Bool.not_false, if_true]
        exact nofit fun q => absurd q (by rw [List.length_map] at h1; omega)
    · simp only [hn, decide_false, fb, Bool.false_eq_true, if_false]
      have nofit : (w = "edge" → ¬ okE xs ps es) → Q (.bl false) G' := fun h => k2 fun ps' es' f => by
        rcases f with ⟨x, h1, _⟩ | ⟨c, d, h1, h2, _⟩
        · rw [hw] at h1; simp at h1; exact hn h1.1
        · rw [hw] at h1; simp at h1; have := h h1.1; rw [h1.2] at this; exact this h2
      by_cases he : w = "edge"
      · subst he
        simp only [decide_true, tb, Bool.not_true, Bool.false_eq_true, if_false]
        by_cases h1 : (((xs.map D.str).length + 1 : Nat) : Int) = 3
        · simp only [h1, decide_true, Bool.not_true, Bool.false_eq_true, if_false]
          obtain ⟨c, d, rfl⟩ : ∃ c d, xs = [c, d] := by
            match xs, h1 with
            | [c, d], _ => exact ⟨c, d, rfl⟩
            | [], h => simp at h
            | [_], h => simp at h
            | _ :: _ :: _ :: _, h => simp at h; omega
          have oc := ow c (by simp)
          have od := ow d (by simp)
          simp only [List.map_cons, List.map_nil, List.getElem?_cons_zero, List.getElem?_cons_succ]
          refine r_inG (vQ_ref ga) (fun _ => nofun) (by simpa [Pl] using okc_strOk oc) (plS g.nm) ?_
          rw [any_str]
          by_cases hc : c ∈ ps
          · simp only [hc, decide_true, tb, Bool.not_true, Bool.false_eq_true, if_false]
            refine r_inG (vQ_ref ga) (fun _ => nofun) (by simpa [Pl] using okc_strOk od) (plS g.nm) ?_
            rw [any_str]
            by_cases hd : d ∈ ps
            · simp only [hd, decide_true, tb, Bool.not_true, Bool.false_eq_true, if_false]
              have sl : ∀ (G : GH) (Q : KD), rSlT' (.lst [.str "edge", .str c, .str d]) (some 1) none G Q = Q (.lst [.str c, .str d]) G := fun _ _ => rfl
              have et : ∀ (G : GH) (Q : KD), rTup' [.lst [.str c, .str d]] G Q = Q (.tup [.str c, .str d]) G := fun _ _ => rfl
              simp only [sl, et]
              refine r_inG (x := .tup [.str c, .str d]) (vQ_ref gb) (fun _ => nofun) (by simpa [Pl, PlL] using ⟨okc_strOk oc, okc_strOk od⟩) (plE g.enm) ?_
              rw [any_ed es (c, d), fb]
              by_cases hm' : (c, d) ∈ es
              · simp only [hm', decide_true, if_true]
                exact nofit fun _ ⟨a', b', e, _, _, _, q, _⟩ => by simp at e; exact q (by rw [← e.1, ← e.2]; exact hm')
              · simp only [hm', decide_false, Bool.false_eq_true, if_false]
                refine ⟨.ref b, d, c, es, rfl, vQ_ref gb, g.en, g.le, g.enm, g.nm d hd, oc, fun r hr => ?_⟩
                cases r with
                | true =>
                  simp only [if_true]
                  exact nofit fun _ ⟨a', b', e, _, _, _, _, q⟩ => by simp at e; exact q (by rw [← e.1, ← e.2]; exact hr.mp rfl)
                | false =>
                  have np : ¬ Pth es d c := fun p => by have := hr.mpr p; cases this
                  have ok : okE [c, d] ps es := ⟨c, d, rfl, hc, hd, fun e => np (e ▸ .refl _), hm', np⟩
                  simp only [Bool.false_eq_true, if_false, vL_ref gb, Option.isSome_some, true_and, gb, mAppend]
                  rw [if_pos (by rw [List.length_map]; omega)]
                  have := k1 ps (es ++ [(c, d)]) (.inr ⟨c, d, hw, ok, rfl, rfl⟩)
                  rw [gup_id (G := G') ga] at this
                  simpa using this
            · simp only [hd, decide_false, tb, Bool.not_false, if_true]
              exact nofit fun _ ⟨a', b', e, _, q, _⟩ => by simp at e; exact hd (by rw [e.2]; exact q)
          · simp only [hc, decide_false, tb, Bool.not_false, if_true]
            exact nofit fun _ ⟨a', b', e, q, _⟩ => by simp at e; exact hc (by rw [e.1]; exact q)
        · simp only [h1, decide_false, Bool.not_false, if_true]
          exact nofit fun _ ⟨a', b', e, _⟩ => h1 (by rw [e]; rfl)
      · simp only [he, decide_false, tb, Bool.not_false, if_true]
        exact nofit fun q => absurd q he

end PL
end
section
namespace PL
open PySem PySem.Spec L2 TL WK
local macro_rules | `(tactic| kwd_rel) => `(tactic| simp only [startT, spOf, sSeq, sIf, sSet, sRet, sRetN, sExpr, sNext, sPar, sPutNm, sPut, sAug, sAsg, eC, eVar, aNil, aCons, aOne, eOp, eUn, eB, eAdd, eSub, eMul, eDiv, eMod, ePow, eNeg, eLt, eLe, eGt, eGe, eEq, eNe, eIs, eIsNot, eIn, eNotIn, eIx, eAbs, eMax2, eMin2, eDvm, eLen, eList, eListC, eTuple, eAll, eAny, eSum, tBl, tNot', tAnd', tOr', eAnd, eOr, eNot, eIf, eTup, eLst, eLstC, eCall, eMeth, eMake, eFld, eLm, eLc, eLcC, iSeq, iRng, iRng2', TL.iZip, eSm, eRevS, sFrz, eFrz, sFor, r_add, r_addS, r_addL, r_sub, r_mul, r_div, r_mod, r_pow, r_neg, r_lt, r_le, r_gt, r_ge, r_ixL, r_ixT, r_ixS, r_eqI, atI_0, atI_1, atI_2, b_abs, b_max, b_min, b_dvm, b_lenL, b_lenT, b_lenQ, vIt_str, vIt_lst, vIt_tup, CT_true, true_and, wipeT, List.map, List.length, List.replicate, List.cons_append, List.nil_append, List.append_nil, Nat.zero_le, List.getElem?_cons_zero, List.getElem?_cons_succ, List.getElem?_nil, List.set_cons_zero, List.set_cons_succ, gT, gsT, TgL.len, TL.vQ_tup, TL.vQ_lst, Nat.reduceAdd, Nat.reduceEqDiff, if_true, eSl, oSome, oNone, eIsi, eChain, iEnum', iEnumK, sFldT, eReprO, eCallK, eOEq, eFmt, eFmtR, eJs, eMethK, eReprQ, eInQ, eNotInQ, sRaiseX, eDctPT, eDNewC, eDNewT, eRepr, sPar3, rUpper, sRaiseE, eSetC, eLenS, eDisp, eScC, gP, List.filterMap_cons, List.filterMap_nil])
variable {Cs : List Addr} {K : PySem.W.Frag} {C cT : Addr}
/-! P45: _law_expected. -/
def oD : Option Nat → D
  | none => .non
  | some k => .int k
def spExp : SpT := fun ds G Q E => ∃ w, ds = [.str w] ∧ Tx w 1000000 10000 10000 ∧ ∀ o, Out w o → ∀ G', Ext G G' → Q (oD o) G'
theorem atI_lst {α : Type} {xs : List α} {x : α} : atI (xs ++ [x]) (-1) = some x := by
  unfold atI ixN
  rw [if_neg (by decide), if_pos (by simp; omega)]
  show (xs ++ [x])[((-1 : Int) + ((xs ++ [x]).length : Int)).toNat]? = _
  rw [show ((-1 : Int) + ((xs ++ [x]).length : Int)).toNat = xs.length by simp; omega]
  simp
theorem exp_ok : ∀ ds G Q E, spExp ds G Q E → sp0_law_expected spFits ds G Q E := by
  rintro ds G Q E ⟨w, rfl, tx, k⟩
  refine ⟨rfl, ?_⟩
  have s0 : sizeLine = 16777216 := rfl
  have ep := split_parts (c := 10) (w := w) (y := "\n") rfl (by decide)
  have pl : (parts 10 w).length ≤ 10001 := by rw [parts_len]; have := tx.nl; omega
  obtain ⟨ls, r, hp⟩ := (List.eq_nil_or_concat (parts 10 w)).resolve_left parts_ne
  rw [List.concat_eq_append] at hp
  have hno : ∀ x ∈ ls ++ [r], x ∈ parts 10 w := fun x hx => by rw [hp]; exact hx
  have ox : ∀ x ∈ ls ++ [r], okc x := fun x hx => parts_okc tx.ok (hno x hx)
  have lx : ∀ x ∈ ls ++ [r], x.length ≤ 1000000 := fun x hx => Nat.le_trans (parts_short (hno x hx)) tx.ln
  have sx : ∀ x ∈ ls ++ [r], (parts 32 x).length ≤ 16384 := fun x hx => by
    rw [parts_len]
    have := parts_count (d := 32) (by decide) (hno x hx)
    have := tx.sp
    omega
  have nl : ls.length ≤ 10000 := by rw [hp] at pl; simp at pl; exact pl
  obtain ⟨o, ps, es, hr⟩ := Run.ex ls 1 [] []
  have ho : ∀ o', o' = (match o with
    | some k => some k
    | none => if r = Str.empty ∧ ps ≠ [] then none else some (ls.length + 1)) → Out w o' := fun o' e => by
    refine ⟨o, ps, es, by rw [hp, List.dropLast_concat]; exact hr, ?_⟩
    rw [e, hp]
    cases o with
    | some k => rfl
    | none => simp
  unfold t_law_expected N_law_expected
  refine cut1 (fun τ' G' => ∃ a b, G a = none ∧ G b = none ∧ a ≠ b ∧ G' = gup (gup G a (.lst [])) b (.lst []) ∧ τ' = [some (.str w), some (.lst (ls.map D.str ++ [.str r])), some (.ref a), some (.ref b), none]) (fun K hK => ?_) ?_
  · simp only [sSeq, sPar3, aCons, aNil, eSm, eVar, aOne, eC, rSplit, startT, List.map, List.length, List.getElem?_cons_zero, List.cons_append, ep, hp, eLstC]
    refine ⟨by decide, by have := tx.ln; omega, by omega, fun a ha => ⟨by omega, fun b hb => ?_⟩⟩
    have hab : a ≠ b := ne_of_get gup_same hb
    rw [List.map_append]
    exact hK _ _ ⟨a, b, ha, by rw [gup_ne hab.symm] at hb; exact hb, hab, rfl, rfl⟩
  · rintro τ' G0 ⟨a, b, ha, hb0, hab, rfl, rfl⟩
    have sz : ∀ G1 : GH, (∀ x, x ≠ a → x ≠ b → G1 x = G x) → Ext G G1 := fun G1 h q c e => by
      rw [h q (fun z => by rw [z, ha] at e; cases e) (fun z => by rw [z, hb0] at e; cases e)]
      exact e
    kwd_rel
    have e1 : (((ls.map D.str ++ [D.str r]).length : Nat) : Int) - 1 = (ls.length : Nat) := by simp
    rw [e1]
    refine ⟨by omega, by omega, ?_⟩
    refine for_inv (fun i τ1 G1 => ∃ (p1 : List Str) (e1 : List Ed) (x5 : Option D), τ1 = [some (.str w), some (.lst (ls.map D.str ++ [.str r])), some (.ref a), some (.ref b), x5] ∧ i ≤ ls.length ∧ G1 a = some (.lst (p1.map D.str)) ∧ G1 b = some (.lst (e1.map edD)) ∧ (∀ x, x ≠ a → x ≠ b → G1 x = G x) ∧ Gs p1 e1 ∧ Run (1 + i) (ls.drop i) p1 e1 o ps es) (fun _ _ _ _ => trivial) ?_ ?_ ?_
    · rintro i t τ1 G1 e ⟨p1, e1, x5, rfl, hi, g1, g2, o1, gs, rn⟩
      have hi' : i < ls.length := by
        have := (List.getElem?_eq_some_iff.mp e).1
        simpa [rngD] using this
      obtain rfl : t = .int (i : Nat) := by
        unfold rngD at e
        rw [List.getElem?_map, List.getElem?_range (by simpa using hi')] at e
        rw [← Option.some.inj e]
        simp
      have hl : ls[i] ∈ ls ++ [r] := List.mem_append_left _ (List.getElem_mem hi')
      have ed : ls.drop i = ls[i] :: ls.drop (i + 1) := List.drop_eq_getElem_cons hi'
      refine ⟨_, rfl, fun K2 hK2 => ?_⟩
      kwd_rel
      rw [TL.atI_nat, List.getElem?_append_left (by simpa using hi'), List.getElem?_map, List.getElem?_eq_getElem hi']
      simp only [Option.map_some]
      refine ⟨ls[i], a, b, p1, e1, rfl, hab, g1, g2, gs, ox _ hl, lx _ hl, sx _ hl, fun p2 e2 f => ?_, fun nf => ?_⟩
      · simp only [Bool.not_true, Bool.false_eq_true, if_false]
        rw [ed] at rn
        cases rn with
        | bad h => exact absurd f (h _ _)
        | fit h t =>
          obtain ⟨rfl, rfl⟩ := h.one f
          refine hK2 _ _ ⟨_, _, _, rfl, hi', by rw [gup_ne hab]; exact gup_same, gup_same, fun x h1 h2 => by rw [gup_ne h2, gup_ne h1]; exact o1 x h1 h2, (h.gs gs).1, by rw [← Nat.add_assoc]; exact t⟩
      · simp only [Bool.not_false, if_true]
        rw [ed] at rn
        cases rn with
        | fit h t => exact absurd h (nf _ _)
        | bad h =>
          have e1 : ((i : Nat) : Int) + 1 = ((1 + i : Nat) : Int) := by omega
          rw [e1]
          exact k (some (1 + i)) (ho _ rfl) G1 (sz G1 o1)
    · rintro τ1 G1 ⟨p1, e1, x5, rfl, hi, g1, g2, o1, gs, rn⟩
      have len : (rngD 0 (((ls.length : Nat) : Int)).toNat).length = ls.length := by simp [rngD]
      rw [len, List.drop_length] at rn
      cases rn with
      | done =>
        kwd_rel
        rw [atI_lst]
        dsimp only
        rw [r_eqS', fb]
        have bad : ¬ (r = Str.empty ∧ ps ≠ []) → Q (.int (((ls.map D.str ++ [D.str r]).length : Nat) : Int)) G1 := fun h => by
          have e1 : (((ls.map D.str ++ [D.str r]).length : Nat) : Int) = ((ls.length + 1 : Nat) : Int) := by simp
          rw [e1]
          exact k (some (ls.length + 1)) (ho _ (by dsimp only; rw [if_neg h])) G1 (sz G1 o1)
        by_cases hr0 : r = Str.empty
        · have hr1 : decide (r = Str.ofString "") = true := decide_eq_true hr0
          simp only [hr1, if_true]
          refine r_eqG (y := .lst []) (e := .lst []) (vD_ref g1) rfl (by rw [Pl]; exact plL_mono (by decide) (plS gs.nm)) (by simp [Pl, PlL]) ?_
          rw [eqD_nil, tb]
          by_cases hp0 : ps = []
          · have : (ps.map D.str).isEmpty = true := by rw [hp0]; rfl
            simp only [this, Bool.not_true, Bool.false_eq_true, if_false]
            exact bad fun h => h.2 hp0
          · have : (ps.map D.str).isEmpty = false := by cases ps with
              | nil => exact absurd rfl hp0
              | cons a b => rfl
            simp only [this, Bool.not_false, if_true]
            exact k none (ho none (by dsimp only; rw [if_pos ⟨hr0, hp0⟩])) G1 (sz G1 o1)
        · have hr1 : decide (r = Str.ofString "") = false := decide_eq_false hr0
          simp only [hr1, Bool.false_eq_true, if_false]
          exact bad fun h => hr0 h.1
    · exact ⟨[], [], none, rfl, Nat.zero_le _, by rw [gup_ne hab]; exact gup_same, gup_same, fun x h1 h2 => by rw [gup_ne h2, gup_ne h1], Gs.nil, by simpa using hr⟩

end PL
end
section
namespace PL
open PySem PySem.Spec L2 TL WK
local macro_rules | `(tactic| kwd_rel) => `(tactic| simp only [startT, spOf, sSeq, sIf, sSet, sRet, sRetN, sExpr, sNext, sPar, sPutNm, sPut, sAug, sAsg, eC, eVar, aNil, aCons, aOne, eOp, eUn, eB, eAdd, eSub, eMul, eDiv, eMod, ePow, eNeg, eLt, eLe, eGt, eGe, eEq, eNe, eIs, eIsNot, eIn, eNotIn, eIx, eAbs, eMax2, eMin2, eDvm, eLen, eList, eListC, eTuple, eAll, eAny, eSum, tBl, tNot', tAnd', tOr', eAnd, eOr, eNot, eIf, eTup, eLst, eLstC, eCall, eMeth, eMake, eFld, eLm, eLc, eLcC, iSeq, iRng, iRng2', TL.iZip, eSm, eRevS, sFrz, eFrz, sFor, r_add, r_addS, r_addL, r_sub, r_mul, r_div, r_mod, r_pow, r_neg, r_lt, r_le, r_gt, r_ge, r_ixL, r_ixT, r_ixS, r_eqI, atI_0, atI_1, atI_2, b_abs, b_max, b_min, b_dvm, b_lenL, b_lenT, b_lenQ, vIt_str, vIt_lst, vIt_tup, CT_true, true_and, wipeT, List.map, List.length, List.replicate, List.cons_append, List.nil_append, List.append_nil, Nat.zero_le, List.getElem?_cons_zero, List.getElem?_cons_succ, List.getElem?_nil, List.set_cons_zero, List.set_cons_succ, gT, gsT, TgL.len, TL.vQ_tup, TL.vQ_lst, Nat.reduceAdd, Nat.reduceEqDiff, if_true, eSl, oSome, oNone, eIsi, eChain, iEnum', iEnumK, sFldT, eReprO, eCallK, eOEq, eFmt, eFmtR, eJs, eMethK, eReprQ, eInQ, eNotInQ, sRaiseX, eDctPT, eDNewC, eDNewT, eRepr, sPar3, rUpper, sRaiseE, eSetC, eLenS, eDisp, eScC, gP, List.filterMap_cons, List.filterMap_nil])
variable {Cs : List Addr} {K : PySem.W.Frag} {C cT : Addr}
/-! P46: _law_odd_line. -/
structure Ol (T S : Nat) (s : Str) : Prop where
  ok : okc s
  no : 10 ∉ cl s
  ln : s.length ≤ T
  sp : (cl s).count 32 ≤ S
def sm (ys : List Str) : Nat := (ys.map Str.length).sum
theorem sm_app (a b : List Str) : sm (a ++ b) = sm a + sm b := by unfold sm; rw [List.map_append, List.sum_append]
theorem sm_one (a : Str) : sm [a] = a.length := by simp [sm]
theorem sm_td (i : Nat) (a : List Str) : sm (a.take i) + sm (a.drop i) = sm a := by rw [← sm_app, List.take_append_drop]
theorem sm_dd (i : Nat) (a : List Str) : sm (a.drop (i + 1)) ≤ sm (a.drop i) := by
  rw [← List.drop_drop]
  have := sm_td 1 (a.drop i)
  omega
theorem sm_rev (a : List Str) : sm a.reverse = sm a := by unfold sm; rw [List.map_reverse, List.sum_reverse]
theorem map_cl (ys : List Str) : (ys.map cl).map List.length = ys.map Str.length := by
  rw [List.map_map]
  exact List.map_congr_left fun s _ => cl_len s
def Yd (y : Str) : Prop := okc y ∧ 10 ∉ cl y ∧ 32 ∉ cl y
theorem ol_join {T S : Nat} {row : Str} {ys : List Str} (hr : Ol T S row) (hy : ∀ y ∈ ys, Yd y) (hl : ys.length ≤ (parts 32 row).length + 1) (hs : sm ys ≤ sm (parts 32 row) + 4) : Ol (T + 14) (S + 3) (Txt.join " " ys) := by
  have el : cl (Txt.join " " ys) = joinL 32 (ys.map cl) := by rw [TL.join_eq]; exact join_cl 32 ys
  have er : (cl row).length = sm (parts 32 row) + ((parts 32 row).length - 1) := by
    have := join_cl 32 (parts 32 row)
    rw [parts_join] at this
    rw [this, join_length, List.length_map, map_cl]; rfl
  have hp : (parts 32 row).length = (cl row).count 32 + 1 := parts_len
  have s1 := hr.sp
  have l1 := hr.ln
  rw [cl_len] at er
  refine ⟨fun c hc => ?_, fun hc => ?_, ?_, ?_⟩
  · rw [el] at hc
    rcases join_mem hc with rfl | ⟨l, hl, hx⟩
    · decide
    · obtain ⟨y, hy1, rfl⟩ := List.mem_map.mp hl
      exact (hy y hy1).1 c hx
  · rw [el] at hc
    rcases join_mem hc with h | ⟨l, hl, hx⟩
    · exact absurd h (by decide)
    · obtain ⟨y, hy1, rfl⟩ := List.mem_map.mp hl
      exact (hy y hy1).2.1 hx
  · rw [← cl_len, el, join_length, List.length_map, map_cl]
    show sm ys + _ ≤ _
    omega
  · rw [el]
    have := join_count (c := 32) (ls := ys.map cl) (fun l hl => by
      obtain ⟨y, hy1, rfl⟩ := List.mem_map.mp hl
      exact (hy y hy1).2.2)
    rw [List.length_map] at this
    omega
theorem cut_dropN {xs : List D} (i : Nat) : cutD xs (some (i : Int)) none = xs.drop i := by
  unfold cutD
  rw [HT.sIx_none, HT.sIx_nat]
  by_cases h : i ≤ xs.length
  · rw [Nat.min_eq_left h, List.take_of_length_le (by simp)]
  · rw [Nat.min_eq_right (by omega), List.drop_of_length_le (Nat.le_refl _), List.drop_of_length_le (by omega), List.take_nil]
theorem cut_take1 {xs : List D} : cutD xs none (some 1) = xs.take 1 := cut_take 1
theorem cut_drop1 {xs : List D} : cutD xs (some 1) none = xs.drop 1 := cut_dropN 1
theorem sm_parts (row : Str) : sm (parts 32 row) ≤ row.length := by
  have := join_cl 32 (parts 32 row)
  rw [parts_join] at this
  rw [← cl_len, this, join_length, List.length_map, map_cl]
  show _ ≤ sm _ + _
  omega
def fJn : D → Option D
  | .lst xs => (strsD xs).map fun ys => .str (Txt.join " " ys)
  | _ => none
theorem fJn_str (ys : List Str) : fJn (.lst (ys.map D.str)) = some (.str (Txt.join " " ys)) := by
  show (strsD (ys.map D.str)).map _ = _
  rw [strsD_map]; rfl
def isOl (s : Str) : Bool := (cl s).all (fun c => decide (c < 1114112) && c != 10) && decide (s.length ≤ 14) && decide ((cl s).count 32 ≤ 3)
theorem ol_is {s : Str} (h : isOl s = true) {T S : Nat} : Ol (T + 14) (S + 3) s := by
  unfold isOl at h
  simp only [Bool.and_eq_true, List.all_eq_true, decide_eq_true_eq, bne_iff_ne] at h
  exact ⟨fun c hc => (h.1.1 c hc).1, fun hc => (h.1.1 10 hc).2 rfl, by omega, by omega⟩
def isYd (s : Str) : Bool := (cl s).all (fun c => decide (c < 1114112) && c != 10 && c != 32) && decide (s.length ≤ 4)
theorem yd_is {s : Str} (h : isYd s = true) : Yd s ∧ s.length ≤ 4 := by
  unfold isYd at h
  simp only [Bool.and_eq_true, List.all_eq_true, decide_eq_true_eq, bne_iff_ne] at h
  exact ⟨⟨fun c hc => (h.1 c hc).1.1, fun hc => (h.1 10 hc).1.2 rfl, fun hc => (h.1 32 hc).2 rfl⟩, h.2⟩
def dAll (f : Str → Bool) (xs : List D) : Bool := xs.all fun x => match x with
  | .str s => f s
  | _ => false
theorem dAll_ok {f : Str → Bool} {xs : List D} (h : dAll f xs = true) : ∀ x ∈ xs, ∃ s, x = .str s ∧ f s = true := fun x hx => by
  have := List.all_eq_true.mp h x hx
  split at this
  · exact ⟨_, rfl, this⟩
  · cases this
/-- a choice from a list, and from a text -/
def spCh2 : SpT := fun ds G Q E => spChoice ds G Q E ∨ ∃ (p : Addr) (s : Str), ds = [.ref p, .str s] ∧ Pot G p ∧ 1 ≤ s.length ∧ s.length ≤ 1000 ∧ ∀ c ∈ cl s, ∀ G', Pot G' p → TL.Same p G G' → Q (.str (one c)) G'
theorem choice2_ok : ∀ ds G Q E, spCh2 ds G Q E → sp0_law_choice spDraw ds G Q E := by
  rintro ds G Q E (h | ⟨p, s, rfl, hp, h1, h2, k⟩)
  · exact choice_ok _ _ _ _ h
  · refine ⟨rfl, ?_⟩
    have s0 : sizeLine = 16777216 := rfl
    unfold t_law_choice N_law_choice
    kwd_rel
    rw [b_lenS (by omega)]
    refine sp_draw hp (by omega) (by omega) fun i G' h0 h1 p' sm => ?_
    obtain ⟨i, rfl⟩ := Int.eq_ofNat_of_zero_le h0
    simp only [rIxT']
    have hi : i < s.cps.toList.length := by
      have := cl_len s
      unfold cl at this
      omega
    rw [TL.atI_nat, List.getElem?_eq_getElem hi]
    exact ⟨by omega, k _ (List.getElem_mem hi) G' p' sm⟩
def spOdd : SpT := fun ds G Q E => ∃ (p r : Addr) (rows : List Str) (T S : Nat), ds = [.ref p, .ref r] ∧ Pot G p ∧ r ≠ p ∧ G r = some (.lst (rows.map D.str)) ∧ rows ≠ [] ∧ rows.length ≤ 1000 ∧ (∀ x ∈ rows, Ol T S x) ∧ T ≤ 1000000 ∧ S ≤ 10000 ∧ ∀ l, Ol (T + 14) (S + 3) l → ∀ G', Pot G' p → Same p G G' → Q (.str l) G'
theorem odd_ok : ∀ ds G Q E, spOdd ds G Q E → sp0_law_odd_line spCh2 spDraw ds G Q E := by
  rintro ds G Q E ⟨p, r, rows, T, S, rfl, hp, hrp, hr, hne, hl, ho, hT, hS, k⟩
  refine ⟨rfl, ?_⟩
  have s0 : sizeLine = 16777216 := rfl
  unfold t_law_odd_line N_law_odd_line
  kwd_rel
  refine ⟨by omega, by omega, by omega, by omega, by omega, .inl ⟨p, .ref r, rows.map D.str, rfl, hp, vQ_ref hr, by simp [hrp], by simp [hne], by simp; omega, fun x hx G1 p1 sm1 => ?_⟩⟩
  obtain ⟨row, hrow, rfl⟩ := List.mem_map.mp hx
  have ol := ho row hrow
  have l1 := ol.ln
  have c1 := ol.sp
  have sp := split_parts (c := 32) (w := row) (y := " ") rfl (by decide)
  simp only [rSplit]
  refine ⟨by decide, by omega, ?_⟩
  rw [sp]
  have pl : (parts 32 row).length = (cl row).count 32 + 1 := parts_len
  have yd : ∀ y ∈ parts 32 row, Yd y := fun y hy => ⟨parts_okc ol.ok hy, fun h => ol.no (parts_mem hy _ h), parts_no _ hy⟩
  have smp := sm_parts row
  have olj : ∀ ys : List Str, (∀ y ∈ ys, Yd y) → ys.length ≤ (parts 32 row).length + 1 → sm ys ≤ sm (parts 32 row) + 4 → Ol (T + 14) (S + 3) (Txt.join " " ys) := fun ys => ol_join ol
  generalize hW : parts 32 row = W at pl yd smp olj
  rw [b_lenL, List.length_map]
  refine sp_draw p1 (by omega) (by omega) fun i G2 h0 h1 p2 sm2 => ?_
  obtain ⟨i, rfl⟩ := Int.eq_ofNat_of_zero_le h0
  have hi : i < W.length := by omega
  refine ⟨by omega, .inl ⟨p, _, _, rfl, p2, rfl, by simp, by simp, by simp, fun z hz G3 p3 sm3 => ?_⟩⟩
  obtain ⟨word, rfl, hw⟩ := dAll_ok (f := isYd) (by decide) z hz
  have ei : ((i : Nat) : Int) + 1 = ((i + 1 : Nat) : Int) := rfl
  simp only [rSlT', vQ, r_add, ei, cut_take, cut_dropN, cut_take1, cut_drop1]
  kwd_rel
  obtain ⟨hwy, hw4⟩ := yd_is hw
  have l1 : (W.take i).length ≤ W.length := by rw [List.length_take]; omega
  have l2 : (W.drop i).length + (W.take i).length = W.length := by rw [List.length_take, List.length_drop]; omega
  have l3 : (W.drop (i + 1)).length + (W.take i).length + 1 = W.length := by rw [List.length_take, List.length_drop]; omega
  have l4 : (W.drop 1).length + (W.take 1).length = W.length := by rw [List.length_take, List.length_drop]; omega
  have m1 := sm_td i W
  have m2 := sm_dd i W
  have m3 := sm_td 1 W
  have yt : ∀ n, ∀ y ∈ W.take n, Yd y := fun n y hy => yd y (List.mem_of_mem_take hy)
  have yr : ∀ n, ∀ y ∈ W.drop n, Yd y := fun n y hy => yd y (List.mem_of_mem_drop hy)
  have w1 : ∀ y ∈ [word], Yd y := fun y hy => by rw [List.mem_singleton.mp hy]; exact hwy
  have y2 : ∀ {a b : List Str}, (∀ y ∈ a, Yd y) → (∀ y ∈ b, Yd y) → ∀ y ∈ a ++ b, Yd y := fun h1 h2 y hy => (List.mem_append.mp hy).elim (h1 y) (h2 y)
  have s1 : sm [word] ≤ 4 := by rw [sm_one]; exact hw4
  simp only [rAddT, eRev, vQ, vL, eVar, List.getElem?_cons_zero, List.getElem?_cons_succ, eSl, oSome, oNone, eC, rSlT', cut_take, cut_dropN, cut_take1, cut_drop1]
  refine ⟨by omega, by simp; omega, by simp; omega, by omega, by simp; omega, by simp; omega, by simp; omega, by simp; omega, by omega, ?_⟩
  generalize hLs : [D.lst ((W.map D.str).take i ++ [D.str word] ++ (W.map D.str).drop (i + 1)), _, _, _, _] = Ls
  have hl5 : Ls.length = 5 := by rw [← hLs]; rfl
  have hL : ∀ d ∈ Ls, ∃ ys : List Str, d = .lst (ys.map D.str) ∧ (∀ y ∈ ys, Yd y) ∧ ys.length ≤ W.length + 1 ∧ sm ys ≤ sm W + 4 := fun d hd => by
    rw [← hLs] at hd
    simp only [List.mem_cons, List.not_mem_nil, or_false] at hd
    rcases hd with rfl | rfl | rfl | rfl | rfl
    · exact ⟨W.take i ++ [word] ++ W.drop (i + 1), by simp, y2 (y2 (yt _) w1) (yr _), by simp; omega, by simp only [sm_app]; omega⟩
    · exact ⟨W.take i ++ [word] ++ W.drop i, by simp, y2 (y2 (yt _) w1) (yr _), by simp; omega, by simp only [sm_app]; omega⟩
    · exact ⟨W.take i ++ W.drop (i + 1), by simp, y2 (yt _) (yr _), by simp; omega, by simp only [sm_app]; omega⟩
    · exact ⟨W.reverse, by simp, fun y hy => yd y (List.mem_reverse.mp hy), by simp, by rw [sm_rev]; omega⟩
    · exact ⟨W.take 1 ++ (W.drop 1).reverse, by simp, y2 (yt _) (fun y hy => yr 1 y (List.mem_reverse.mp hy)), by simp; omega, by simp only [sm_app, sm_rev]; omega⟩
  refine lc_fm fJn trivial (by omega) (fun d hd => ?_) ?_
  · obtain ⟨ys, rfl, hy, hyl, hys⟩ := hL d hd
    refine ⟨_, rfl, fun K4 K5 h => ?_⟩
    rw [fJn_str] at h
    kwd_rel
    simp only [rJoin, vQ, strsD_map, tTrue, if_true]
    refine ⟨?_, h⟩
    show sm ys + ys.length * 1 ≤ _
    omega
  · have hf : (Ls.filterMap fJn).length ≤ 5 := Nat.le_trans (List.length_filterMap_le ..) (by omega)
    have hfl : ((List.replicate (Int.toNat 4) (Ls.filterMap fJn)).flatten).length ≤ 20 := by
      rw [List.length_flatten, List.map_replicate]
      show (List.replicate 4 _).sum ≤ _
      simp only [List.replicate, List.sum_cons, List.sum_nil]
      omega
    have hfm : ∀ x ∈ (List.replicate (Int.toNat 4) (Ls.filterMap fJn)).flatten, ∃ l, x = .str l ∧ Ol (T + 14) (S + 3) l := fun x hx => by
      obtain ⟨fs, h1, h2⟩ := List.mem_flatten.mp hx
      rw [List.eq_of_mem_replicate h1] at h2
      obtain ⟨d, hd, e⟩ := List.mem_filterMap.mp h2
      obtain ⟨ys, rfl, hy, hyl, hys⟩ := hL d hd
      rw [fJn_str] at e
      exact ⟨_, (Option.some.inj e).symm, olj ys hy hyl hys⟩
    simp only [rMulT]
    refine ⟨by decide, by decide, by show _ * 4 ≤ _; omega, ?_⟩
    generalize (List.replicate (Int.toNat 4) (Ls.filterMap fJn)).flatten = M at hfl hfm
    refine ⟨by simp; omega, .inl ⟨p, _, _, rfl, p3, rfl, by simp, by simp, by simp; omega, fun x hx G4 p4 sm4 => ?_⟩⟩
    have ho : ∃ l, x = .str l ∧ Ol (T + 14) (S + 3) l := by
      rcases List.mem_append.mp hx with hx | hx
      · obtain ⟨s, rfl, hs⟩ := dAll_ok (f := isOl) (by decide) x hx
        exact ⟨s, rfl, ol_is hs⟩
      · exact hfm x hx
    obtain ⟨l, rfl, hl⟩ := ho
    exact k l hl G4 p4 fun q hq => by rw [sm4 q hq, sm3 q hq, sm2 q hq, sm1 q hq]

end PL
end
section
namespace PL
open PySem PySem.Spec L2 TL WK
local macro_rules | `(tactic| kwd_rel) => `(tactic| simp only [startT, spOf, sSeq, sIf, sSet, sRet, sRetN, sExpr, sNext, sPar, sPutNm, sPut, sAug, sAsg, eC, eVar, aNil, aCons, aOne, eOp, eUn, eB, eAdd, eSub, eMul, eDiv, eMod, ePow, eNeg, eLt, eLe, eGt, eGe, eEq, eNe, eIs, eIsNot, eIn, eNotIn, eIx, eAbs, eMax2, eMin2, eDvm, eLen, eList, eListC, eTuple, eAll, eAny, eSum, tBl, tNot', tAnd', tOr', eAnd, eOr, eNot, eIf, eTup, eLst, eLstC, eCall, eMeth, eMake, eFld, eLm, eLc, eLcC, iSeq, iRng, iRng2', TL.iZip, eSm, eRevS, sFrz, eFrz, sFor, r_add, r_addS, r_addL, r_sub, r_mul, r_div, r_mod, r_pow, r_neg, r_lt, r_le, r_gt, r_ge, r_ixL, r_ixT, r_ixS, r_eqI, atI_0, atI_1, atI_2, b_abs, b_max, b_min, b_dvm, b_lenL, b_lenT, b_lenQ, vIt_str, vIt_lst, vIt_tup, CT_true, true_and, wipeT, List.map, List.length, List.replicate, List.cons_append, List.nil_append, List.append_nil, Nat.zero_le, List.getElem?_cons_zero, List.getElem?_cons_succ, List.getElem?_nil, List.set_cons_zero, List.set_cons_succ, gT, gsT, TgL.len, TL.vQ_tup, TL.vQ_lst, Nat.reduceAdd, Nat.reduceEqDiff, if_true, eSl, oSome, oNone, eIsi, eChain, iEnum', iEnumK, sFldT, eReprO, eCallK, eOEq, eFmt, eFmtR, eJs, eMethK, eReprQ, eInQ, eNotInQ, sRaiseX, eDctPT, eDNewC, eDNewT, eRepr, sPar3, rUpper, sRaiseE, eSetC, eLenS, eDisp, eScC, gP, List.filterMap_cons, List.filterMap_nil])
variable {Cs : List Addr} {K : PySem.W.Frag} {C cT : Addr}
/-! P47: _law_spoilt. -/
def sf (f : Str → Nat) (ys : List Str) : Nat := (ys.map f).sum
theorem sf_app (f : Str → Nat) (a b : List Str) : sf f (a ++ b) = sf f a + sf f b := by unfold sf; rw [List.map_append, List.sum_append]
theorem sf_one (f : Str → Nat) (a : Str) : sf f [a] = f a := by simp [sf]
theorem sf_td (f : Str → Nat) (i : Nat) (a : List Str) : sf f (a.take i) + sf f (a.drop i) = sf f a := by rw [← sf_app, List.take_append_drop]
theorem sf_dd (f : Str → Nat) (i j : Nat) (a : List Str) : sf f (a.drop (i + j)) ≤ sf f (a.drop i) := by
  rw [← List.drop_drop]
  have := sf_td f j (a.drop i)
  omega
theorem sf_mem {f : Str → Nat} {a : List Str} {x : Str} (h : x ∈ a) : f x ≤ sf f a := le_sum (List.mem_map_of_mem h)
theorem sf_set (f : Str → Nat) (x : Str) : ∀ (a : List Str) (i : Nat) (h : i < a.length), sf f (a.set i x) + f a[i] = sf f a + f x
  | b :: r, 0, h => by simp [sf]; omega
  | b :: r, i + 1, h => by
    have := sf_set f x r i (by simpa using h)
    simp only [sf, List.set_cons_succ, List.map_cons, List.sum_cons, List.getElem_cons_succ] at this ⊢
    omega
theorem sf_swap (f : Str → Nat) (a : List Str) (i j : Nat) (hi : i < a.length) (hj : j < a.length) : sf f ((a.set i a[j]).set j a[i]) = sf f a := by
  have h1 := sf_set f a[j] a i hi
  have h2 := sf_set f a[i] (a.set i a[j]) j (by simpa using hj)
  have h3 : (a.set i a[j])[j]'(by simpa using hj) = a[j] := by
    rw [List.getElem_set]; split <;> simp_all
  rw [h3] at h2
  omega
def c32 (s : Str) : Nat := (cl s).count 32
theorem rows_len (w : Str) : sf Str.length (parts 10 w) + ((parts 10 w).length - 1) = w.length := by
  have := join_cl 10 (parts 10 w)
  rw [parts_join] at this
  rw [← cl_len, this, join_length, List.length_map, map_cl]; rfl
theorem rows_c32 (w : Str) : sf c32 (parts 10 w) = (cl w).count 32 := by
  have := join_cl 10 (parts 10 w)
  rw [parts_join] at this
  rw [this, join_countO (by decide)]
  unfold sf
  rw [List.map_map]; rfl
theorem tx_join {ys : List Str} {T N S : Nat} (h : ∀ y ∈ ys, okc y ∧ 10 ∉ cl y) (hl : ys.length ≤ N + 1) (hs : sf Str.length ys + (ys.length - 1) ≤ T) (hc : sf c32 ys ≤ S) : Tx (Txt.join "\n" ys) T N S := by
  have el : cl (Txt.join "\n" ys) = joinL 10 (ys.map cl) := by rw [TL.join_eq]; exact join_cl 10 ys
  refine ⟨fun c hc => ?_, ?_, ?_, ?_⟩
  · rw [el] at hc
    rcases join_mem hc with rfl | ⟨l, hl, hx⟩
    · decide
    · obtain ⟨y, hy1, rfl⟩ := List.mem_map.mp hl
      exact (h y hy1).1 c hx
  · rw [← cl_len, el, join_length, List.length_map, map_cl]
    exact hs
  · rw [el]
    have := join_count (c := 10) (ls := ys.map cl) (fun l hl => by
      obtain ⟨y, hy1, rfl⟩ := List.mem_map.mp hl
      exact (h y hy1).2)
    rw [List.length_map] at this
    omega
  · rw [el, join_countO (by decide)]
    have : sf c32 ys = ((ys.map cl).map (·.count 32)).sum := by
      unfold sf
      rw [List.map_map]; rfl
    omega
theorem tx_cut {w w' : Str} {T N S a b : Nat} {m : List Nat} (tx : Tx w T N S) (hab : a ≤ b) (hm : m.length ≤ 1) (ho : ∀ c ∈ m, c < 0x110000) (e : cl w' = (cl w).take a ++ m ++ (cl w).drop b) : Tx w' (T + 1) (N + 1) (S + 1) := by
  obtain ⟨j, rfl⟩ := Nat.exists_eq_add_of_le hab
  have hcnt : ∀ c, (cl w').count c ≤ (cl w).count c + 1 := fun c => by
    rw [e, List.count_append, List.count_append, ← List.drop_drop]
    have h1 : (cl w).count c = ((cl w).take a).count c + ((cl w).drop a).count c := by rw [← List.count_append, List.take_append_drop]
    have h2 : ((List.drop j (List.drop a (cl w)))).count c ≤ ((cl w).drop a).count c := (List.drop_sublist ..).count_le ..
    have h3 : m.count c ≤ m.length := List.count_le_length
    omega
  have l1 := tx.ln
  have n1 := tx.nl
  have s1 := tx.sp
  have c1 := hcnt 10
  have c2 := hcnt 32
  refine ⟨fun c hc => ?_, ?_, by omega, by omega⟩
  · rw [e] at hc
    rcases List.mem_append.mp hc with h | h
    · rcases List.mem_append.mp h with h | h
      · exact tx.ok c (List.mem_of_mem_take h)
      · exact ho c h
    · exact tx.ok c (List.mem_of_mem_drop h)
  · rw [← cl_len, e]
    rw [← cl_len] at l1
    simp only [List.length_append, List.length_take, List.length_drop]
    omega
theorem tx_up {w : Str} {T N S T' N' S' : Nat} (h : Tx w T N S) (h1 : T ≤ T') (h2 : N ≤ N') (h3 : S ≤ S') : Tx w T' N' S' := ⟨h.ok, Nat.le_trans h.ln h1, Nat.le_trans h.nl h2, Nat.le_trans h.sp h3⟩
theorem cutS_take (w : Str) (a : Nat) : cl (cutS w none (some (a : Int))) = (cl w).take a := by
  show (w.cps.toList.drop (HT.sIx w.length 0 none)).take (HT.sIx w.length w.length (some (a : Int)) - HT.sIx w.length 0 none) = _
  rw [HT.sIx_none, HT.sIx_nat, List.drop_zero, Nat.sub_zero]
  have l := cl_len w
  by_cases h : a ≤ w.length
  · rw [Nat.min_eq_left h]
  · rw [Nat.min_eq_right (by omega), ← l]
    show (cl w).take _ = _
    rw [List.take_of_length_le (Nat.le_refl _), List.take_of_length_le (by omega)]
theorem cutS_drop (w : Str) (a : Nat) : cl (cutS w (some (a : Int)) none) = (cl w).drop a := by
  show (w.cps.toList.drop (HT.sIx w.length 0 (some (a : Int)))).take (HT.sIx w.length w.length none - HT.sIx w.length 0 (some (a : Int))) = _
  rw [HT.sIx_none, HT.sIx_nat]
  have l := cl_len w
  show ((cl w).drop _).take _ = _
  rw [List.take_of_length_le (by rw [List.length_drop]; omega)]
  by_cases h : a ≤ w.length
  · rw [Nat.min_eq_left h]
  · rw [Nat.min_eq_right (by omega), List.drop_of_length_le (by omega), List.drop_of_length_le (by omega)]
theorem cutS_any (w : Str) (o : Option Int) : ∃ a, cl (cutS w none o) = (cl w).take a := ⟨HT.sIx w.length w.length o, by
  show (w.cps.toList.drop (HT.sIx w.length 0 none)).take (HT.sIx w.length w.length o - HT.sIx w.length 0 none) = _
  rw [HT.sIx_none, List.drop_zero, Nat.sub_zero]⟩
theorem putC_lst {G : GH} {r : Addr} {xs : List D} {i : Nat} {v : D} (h : G r = some (.lst xs)) (hi : i < xs.length) : putC G (.ref r) (.int (i : Nat)) v = some (gup G r (.lst (xs.set i v))) := by
  unfold putC
  simp only [h, ixN]
  rw [if_pos (by omega)]
  simp [hi]
def spSpoilt : SpT := fun ds G Q E => ∃ (p : Addr) (w : Str) (T N S : Nat), ds = [.ref p, .str w] ∧ Pot G p ∧ Tx w T N S ∧ T ≤ 400000 ∧ N ≤ 900 ∧ S ≤ 4000 ∧ ∀ w', Tx w' (2 * T + 15) (N + 1) (2 * S + 3) → ∀ G', Pot G' p → Q (.str w') G'
theorem spoilt_ok : ∀ ds G Q E, spSpoilt ds G Q E → sp0_law_spoilt spDraw spCh2 spOdd ds G Q E := by
  rintro ds G Q E ⟨p, w, T, N, S, rfl, hp, tx, hT, hN, hS, k⟩
  refine ⟨rfl, ?_⟩
  have s0 : sizeLine = 16777216 := rfl
  unfold t_law_spoilt N_law_spoilt
  kwd_rel
  refine sp_draw hp (by decide) (by decide) fun way G1 h0 h9 p1 sm1 => ?_
  obtain ⟨way, rfl⟩ := Int.eq_ofNat_of_zero_le h0
  refine .inr ⟨p, _, rfl, p1, by decide, by decide, fun c hc G2 p2 sm2 => ?_⟩
  have hc1 : c < 0x110000 := by
    have : ((cl (Str.ofString "abnodeg \n-#A0")).all fun c => decide (c < 0x110000)) = true := by decide
    exact of_decide_eq_true (List.all_eq_true.mp this c hc)
  have lw := tx.ln
  have ep := split_parts (c := 10) (w := w) (y := "\n") rfl (by decide)
  simp only [rSplitC]
  refine ⟨by decide, by omega, fun r hr => ?_⟩
  have hrp : r ≠ p := by
    obtain ⟨a, b, h1, h2, h3, h4⟩ := p2
    exact fun e => by rw [e, h4] at hr; cases hr
  rw [ep]
  have hno : ∀ y ∈ parts 10 w, okc y ∧ 10 ∉ cl y := fun y hy => ⟨parts_okc tx.ok hy, parts_no y hy⟩
  have hol : ∀ y ∈ parts 10 w, Ol T S y := fun y hy => ⟨parts_okc tx.ok hy, parts_no y hy, Nat.le_trans (parts_short hy) tx.ln, Nat.le_trans (parts_count (by decide) hy) tx.sp⟩
  have rl := rows_len w
  have rc := rows_c32 w
  have rn : (parts 10 w).length = (cl w).count 10 + 1 := parts_len
  have n1 := tx.nl
  have c1 := tx.sp
  rw [b_lenS (by omega), r_add]
  refine sp_draw (Pot.ext p2 (Ext.new hr)) (by omega) (by omega) fun ia G3 hi0 hi1 p3 sm3 => ?_
  obtain ⟨ia, rfl⟩ := Int.eq_ofNat_of_zero_le hi0
  have g3 : G3 r = some (.lst ((parts 10 w).map D.str)) := by rw [sm3 r hrp]; exact gup_same
  rw [b_lenV (vQ_ref g3), List.length_map]
  refine sp_draw p3 (by omega) (by omega) fun sp G4 hs0 hs1 p4 sm4 => ?_
  obtain ⟨sp, rfl⟩ := Int.eq_ofNat_of_zero_le hs0
  have g4 : G4 r = some (.lst ((parts 10 w).map D.str)) := by rw [sm4 r hrp]; exact g3
  generalize parts 10 w = R at *
  have hsp : sp < R.length := by omega
  rw [r_lt]
  dsimp only
  by_cases w2 : ((way : Nat) : Int) < 2
  · simp only [w2, decide_true, if_true]
    rw [show ((way : Nat) : Int) = ((way : Nat) : Int) from rfl]
    simp only [rSlT', r_addS, r_add]
    have ei : ((ia : Nat) : Int) + (way : Nat) = ((ia + way : Nat) : Int) := rfl
    simp only [ei]
    have t1 := cutS_length w none (some (ia : Int))
    have t2 := cutS_length w (some ((ia + way : Nat) : Int)) none
    have e1 : cl (cutS w none (some (ia : Int)) ++ one c) = (cl w).take ia ++ [c] := by rw [cl_app, cutS_take]; rfl
    have t3 : (cutS w none (some (ia : Int)) ++ one c).length ≤ w.length + 1 := by
      rw [← cl_len, e1]
      have := cl_len w
      simp; omega
    refine ⟨by omega, by show _ + 1 ≤ _; omega, by omega, by omega, k _ (tx_up (tx_cut tx (Nat.le_add_right ia way) (m := [c]) (by simp) (fun x hx => by rw [List.mem_singleton.mp hx]; exact hc1) ?_) (by omega) (by omega) (by omega)) G4 p4⟩
    rw [cl_app, e1, cutS_drop]
  simp only [w2, decide_false, if_false, Bool.false_eq_true]
  have jn : ∀ (ys : List Str) (d : D) (G' : GH), Pot G' p → vQ G' d = some (ys.map D.str) → (∀ y ∈ ys, okc y ∧ 10 ∉ cl y) → ys.length ≤ N + 2 → sf Str.length ys + (ys.length - 1) ≤ 2 * T + 15 → sf c32 ys ≤ 2 * S + 3 → rJoin "\n" [d] G' Q := fun ys d G' pt e h1 h2 h3 h4 => by
    unfold rJoin
    simp only [e, strsD_map]
    refine ⟨?_, k _ (tx_join h1 h2 h3 h4) G' pt⟩
    show sf Str.length ys + ys.length * 1 ≤ _
    omega
  have y2 : ∀ {a b : List Str}, (∀ y ∈ a, okc y ∧ 10 ∉ cl y) → (∀ y ∈ b, okc y ∧ 10 ∉ cl y) → ∀ y ∈ a ++ b, okc y ∧ 10 ∉ cl y := fun h1 h2 y hy => (List.mem_append.mp hy).elim (h1 y) (h2 y)
  have yt : ∀ n, ∀ y ∈ R.take n, okc y ∧ 10 ∉ cl y := fun n y hy => hno y (List.mem_of_mem_take hy)
  have yr : ∀ n, ∀ y ∈ R.drop n, okc y ∧ 10 ∉ cl y := fun n y hy => hno y (List.mem_of_mem_drop hy)
  have y1 : ∀ {z : Str}, okc z ∧ 10 ∉ cl z → ∀ y ∈ [z], okc y ∧ 10 ∉ cl y := fun h y hy => by rw [List.mem_singleton.mp hy]; exact h
  have q1 := fun f => sf_td f sp R
  have q2 := fun f j => sf_dd f sp j R
  have q3 := fun f => sf_mem (f := f) (List.getElem_mem hsp)
  have ln1 : ∀ j, (R.take sp).length + (R.drop (sp + j)).length ≤ R.length := fun j => by rw [List.length_take, List.length_drop]; omega
  rw [r_eqI, fb]
  dsimp only
  by_cases w3 : ((way : Nat) : Int) = 2
  · simp only [w3, decide_true, if_true]
    simp only [rSlT', r_addS, r_add]
    have ei : ((ia : Nat) : Int) + 1 = ((ia + 1 : Nat) : Int) := rfl
    simp only [ei]
    have t1 := cutS_length w none (some (ia : Int))
    have t2 := cutS_length w (some ((ia + 1 : Nat) : Int)) none
    refine ⟨by omega, by omega, by omega, k _ (tx_up (tx_cut tx (Nat.le_add_right ia 1) (m := []) (by simp) (fun x hx => by cases hx) ?_) (by omega) (by omega) (by omega)) G4 p4⟩
    rw [cl_app, cutS_take, cutS_drop, List.append_nil]
  simp only [w3, decide_false, if_false, Bool.false_eq_true]
  rw [r_lt]
  dsimp only
  by_cases w4 : ((way : Nat) : Int) < 5
  · simp only [w4, decide_true, if_true]
    rw [vL_sl (vL_ref g4), cut_take]
    refine ⟨p, r, R, T, S, rfl, p4, hrp, g4, (by intro e; rw [e] at hsp; cases hsp), by omega, hol, by omega, by omega, fun l hl G5 p5 sm5 => ?_⟩
    have g5 : G5 r = some (.lst (R.map D.str)) := by rw [sm5 r hrp]; exact g4
    have ll := hl.ln
    have ls := hl.sp
    have ei : (((sp : Nat) : Int) + (way : Nat)) - 3 = ((sp + (way - 3) : Nat) : Int) := by omega
    simp only [r_addL, r_add, r_sub, ei, CT_true, true_and]
    rw [vL_sl (vL_ref g5), cut_dropN]
    have a1 := q1 Str.length
    have a2 := q2 Str.length (way - 3)
    have a3 := q1 c32
    have a4 := q2 c32 (way - 3)
    have a5 := ln1 (way - 3)
    simp only [r_addL]
    refine ⟨by omega, by simp; omega, by simp at a5 ⊢; omega, jn (R.take sp ++ [l] ++ R.drop (sp + (way - 3))) _ G5 p5 (by show some _ = _; simp) (y2 (y2 (yt _) (y1 ⟨hl.ok, hl.no⟩)) (yr _)) (by simp at a5 ⊢; omega) ?_ ?_⟩
    · simp only [sf_app, sf_one]
      simp at a5 ⊢
      omega
    · simp only [sf_app, sf_one]
      show sf c32 _ + c32 l + _ ≤ _
      unfold c32 at *
      omega
  simp only [w4, decide_false, if_false, Bool.false_eq_true]
  rw [r_eqI, fb]
  dsimp only
  by_cases w5 : ((way : Nat) : Int) = 5
  · simp only [w5, decide_true, if_true]
    rw [b_lenV (vQ_ref g4), List.length_map]
    refine sp_draw p4 (by omega) (by omega) fun ot G5 ht0 ht1 p5 sm5 => ?_
    obtain ⟨ot, rfl⟩ := Int.eq_ofNat_of_zero_le ht0
    have hot : ot < R.length := by omega
    have g5 : G5 r = some (.lst (R.map D.str)) := by rw [sm5 r hrp]; exact g4
    simp only [sPut2, eTup, aCons, aNil, eOp, eVar, List.getElem?_cons_zero, List.getElem?_cons_succ, r_ixR g5, TL.atI_nat, List.getElem?_map, List.getElem?_eq_getElem hsp, List.getElem?_eq_getElem hot, Option.map_some]
    rw [putC_lst g5 (by simpa using hsp)]
    dsimp only
    rw [putC_lst gup_same (by simpa using hot)]
    dsimp only
    have es : ((R.map D.str).set sp (.str R[ot])).set ot (.str R[sp]) = ((R.set sp R[ot]).set ot R[sp]).map D.str := by rw [List.map_set, List.map_set]
    rw [es]
    kwd_rel
    have a1 := sf_swap Str.length R sp ot hsp hot
    have a2 := sf_swap c32 R sp ot hsp hot
    have pr : Pot (gup (gup G5 r (.lst ((R.map D.str).set sp (.str R[ot])))) r (.lst (((R.set sp R[ot]).set ot R[sp]).map D.str))) p := by
      obtain ⟨a, b, h1, h2, h3, h4⟩ := p5
      exact ⟨a, b, h1, h2, h3, by rw [gup_ne hrp.symm, gup_ne hrp.symm]; exact h4⟩
    refine ⟨by omega, jn ((R.set sp R[ot]).set ot R[sp]) (.ref r) _ pr (vQ_ref gup_same) (fun y hy => ?_) (by simp; omega) (by rw [a1, List.length_set, List.length_set]; omega) (by rw [a2]; omega)⟩
    rcases List.mem_or_eq_of_mem_set hy with hy | rfl
    · rcases List.mem_or_eq_of_mem_set hy with hy | rfl
      · exact hno y hy
      · exact hno _ (List.getElem_mem hot)
    · exact hno _ (List.getElem_mem hsp)
  simp only [w5, decide_false, if_false, Bool.false_eq_true]
  rw [r_eqI, fb]
  dsimp only
  by_cases w6 : ((way : Nat) : Int) = 6
  · simp only [w6, decide_true, if_true]
    have a1 := q1 Str.length
    have a2 := q2 Str.length 1
    have a3 := q1 c32
    have a4 := q2 c32 1
    have a5 := ln1 1
    have ei : ((sp : Nat) : Int) + 1 = ((sp + 1 : Nat) : Int) := rfl
    rw [vL_sl (vL_ref g4), cut_take]
    simp only [r_add, ei]
    rw [vL_sl (vL_ref g4), cut_dropN]
    simp only [r_addL]
    refine ⟨by simp; omega, jn (R.take sp ++ R.drop (sp + 1)) _ G4 p4 (by show some _ = _; simp) (y2 (yt _) (yr _)) (by simp at a5 ⊢; omega) ?_ ?_⟩
    · simp only [sf_app]
      simp at a5 ⊢
      omega
    · simp only [sf_app]
      omega
  simp only [w6, decide_false, if_false, Bool.false_eq_true]
  rw [r_eqI, fb]
  dsimp only
  by_cases w7 : ((way : Nat) : Int) = 7
  · simp only [w7, decide_true, if_true]
    have a1 := q1 Str.length
    have a3 := q1 c32
    have a5 := ln1 0
    have a6 := q3 Str.length
    have a7 := q3 c32
    rw [vL_sl (vL_ref g4), cut_take]
    simp only [r_ixR g4, TL.atI_nat, List.getElem?_map, List.getElem?_eq_getElem hsp, Option.map_some, r_addL]
    rw [vL_sl (vL_ref g4), cut_dropN]
    simp only [r_addL]
    refine ⟨by omega, by simp; omega, by simp at a5 ⊢; omega, jn (R.take sp ++ [R[sp]] ++ R.drop sp) _ G4 p4 (by show some _ = _; simp only [List.map_append, List.map_take, List.map_drop, List.map_cons, List.map_nil]) (y2 (y2 (yt _) (y1 (hno _ (List.getElem_mem hsp)))) (yr _)) (by simp at a5 ⊢; omega) ?_ ?_⟩
    · simp only [sf_app, sf_one]
      simp at a5 ⊢
      omega
    · simp only [sf_app, sf_one]
      omega
  simp only [w7, decide_false, if_false, Bool.false_eq_true]
  obtain ⟨a, ea⟩ := cutS_any w (some (-1))
  refine ⟨by omega, k _ (tx_up (tx_cut (a := a) (b := a + (cl w).length) (m := []) tx (by omega) (by simp) (fun x hx => by cases hx) ?_) (by omega) (by omega) (by omega)) G4 p4⟩
  rw [ea, List.append_nil, List.drop_of_length_le (by omega), List.append_nil]

end PL
end
section
namespace PL
open PySem PySem.Spec L2 TL WK
local macro_rules | `(tactic| kwd_rel) => `(tactic| simp only [startT, spOf, sSeq, sIf, sSet, sRet, sRetN, sExpr, sNext, sPar, sPutNm, sPut, sAug, sAsg, eC, eVar, aNil, aCons, aOne, eOp, eUn, eB, eAdd, eSub, eMul, eDiv, eMod, ePow, eNeg, eLt, eLe, eGt, eGe, eEq, eNe, eIs, eIsNot, eIn, eNotIn, eIx, eAbs, eMax2, eMin2, eDvm, eLen, eList, eListC, eTuple, eAll, eAny, eSum, tBl, tNot', tAnd', tOr', eAnd, eOr, eNot, eIf, eTup, eLst, eLstC, eCall, eMeth, eMake, eFld, eLm, eLc, eLcC, iSeq, iRng, iRng2', TL.iZip, eSm, eRevS, sFrz, eFrz, sFor, r_add, r_addS, r_addL, r_sub, r_mul, r_div, r_mod, r_pow, r_neg, r_lt, r_le, r_gt, r_ge, r_ixL, r_ixT, r_ixS, r_eqI, atI_0, atI_1, atI_2, b_abs, b_max, b_min, b_dvm, b_lenL, b_lenT, b_lenQ, vIt_str, vIt_lst, vIt_tup, CT_true, true_and, wipeT, List.map, List.length, List.replicate, List.cons_append, List.nil_append, List.append_nil, Nat.zero_le, List.getElem?_cons_zero, List.getElem?_cons_succ, List.getElem?_nil, List.set_cons_zero, List.set_cons_succ, gT, gsT, TgL.len, TL.vQ_tup, TL.vQ_lst, Nat.reduceAdd, Nat.reduceEqDiff, if_true, eSl, oSome, oNone, eIsi, eChain, iEnum', iEnumK, sFldT, eReprO, eCallK, eOEq, eFmt, eFmtR, eJs, eMethK, eReprQ, eInQ, eNotInQ, sRaiseX, eDctPT, eDNewC, eDNewT, eRepr, sPar3, rUpper, sRaiseE, eSetC, eLenS, eDisp, eScC, gP, List.filterMap_cons, List.filterMap_nil])
variable {Cs : List Addr} {K : PySem.W.Frag} {C cG cN cM cP cT : Addr}
/-! P48: _law_outcome. -/
/-- what is known of InvalidText -/
structure ITk (K : PySem.W.Frag) (cT cP cG cN cM : Addr) : Prop where
  xf : XfC K cT
  ex : ExK K cT
  nv : PySem.W.findIn K (.ref cT) "line" = some none
  em : PySem.W.exmOne K (.ref cT) (.ref cP) = some true
  k1 : PySem.W.kitOne K (.ref cT) (.ref cG) = some false
  k2 : PySem.W.kitOne K (.ref cT) (.ref cN) = some false
  k3 : PySem.W.kitOne K (.ref cT) (.ref cM) = some false
  k4 : PySem.W.kitOne K (.ref cT) (.type "ValueError") = some true
def spOutc : SpT := fun ds G Q E => (∃ w, ds = [.str w] ∧ Tx w 1000000 10000 10000 ∧ ∀ o, Out w o → ∀ G', Ext G G' → Q (oD o) G') ∨
  ∃ d, ds = [d] ∧ Val d ∧ is_str d = false ∧ Q (.int 0) G
theorem outc_ok (hC : C ∈ Cs) (f : ITk K cT cP cG cN cM) : ∀ ds G Q E, spOutc ds G Q E → sp0_law_outcome Cs K C cP cG cN cM cT (spLoad C cT) (spDump C) ds G Q E := by
  intro ds G Q E h
  have s0 : sizeLine = 16777216 := rfl
  obtain ⟨w, rfl, tx, k⟩ | ⟨d, rfl, hv, hs, k⟩ := h
  · refine ⟨rfl, ?_⟩
    unfold t_law_outcome N_law_outcome
    kwd_rel
    unfold sTry
    kwd_rel
    refine .inl ⟨w, rfl, tx, fun ps es R gd ew out => ?_, fun n out G' ext => ?_⟩
    · simp only [rIsi', tyD, hC, if_true, clD, kit_own]
      refine ⟨ps, es, R, rfl, gd, ?_⟩
      dsimp only
      rw [r_eqS', fb]
      subst ew
      simp only [decide_true, if_true]
      exact k none out G Ext.refl
    · unfold wT
      refine ⟨true, f.em, fun _ ax dx hd => ?_, nofun⟩
      simp only [Hx.ends, Hx.slot]
      kwd_rel
      simp only [eIsX, eXf]
      kwd_rel
      unfold rIsX
      dsimp only
      refine ⟨by omega, rfl, rfl, rfl, ⟨cT, rfl, f.ex⟩, _, false, rfl, kitAny_no ?_, ?_⟩
      · intro c hc
        simp only [List.mem_cons, List.not_mem_nil, or_false] at hc
        rcases hc with rfl | rfl | rfl
        · exact f.k1
        · exact f.k2
        · exact f.k3
      · refine ⟨rfl, rfl, rfl, ⟨cT, rfl, f.ex⟩, _, true, rfl, kit_own, rfl, rfl, rfl, ⟨cT, rfl, f.ex⟩, _, true, rfl, f.k4, ⟨cT, rfl, f.xf, f.nv⟩, ?_⟩
        exact k (some n) out G' ext
  · refine ⟨rfl, ?_⟩
    unfold t_law_outcome N_law_outcome
    kwd_rel
    unfold sTry
    kwd_rel
    refine .inr ⟨d, rfl, hv, hs, ?_⟩
    unfold wT
    refine ⟨true, f.em, fun _ ax dx hd => ?_, nofun⟩
    simp only [Hx.ends, Hx.slot]
    kwd_rel
    simp only [eIsX, eXf]
    kwd_rel
    unfold rIsX
    dsimp only
    refine ⟨by omega, rfl, rfl, rfl, ⟨cT, rfl, f.ex⟩, _, false, rfl, kitAny_no ?_, ?_⟩
    · intro c hc
      simp only [List.mem_cons, List.not_mem_nil, or_false] at hc
      rcases hc with rfl | rfl | rfl
      · exact f.k1
      · exact f.k2
      · exact f.k3
    · refine ⟨rfl, rfl, rfl, ⟨cT, rfl, f.ex⟩, _, true, rfl, kit_own, rfl, rfl, rfl, ⟨cT, rfl, f.ex⟩, _, true, rfl, f.k4, ⟨cT, rfl, f.xf, f.nv⟩, ?_⟩
      exact k

end PL
end
section
namespace PL
open PySem PySem.Spec L2 TL WK
local macro_rules | `(tactic| kwd_rel) => `(tactic| simp only [startT, spOf, sSeq, sIf, sSet, sRet, sRetN, sExpr, sNext, sPar, sPutNm, sPut, sAug, sAsg, eC, eVar, aNil, aCons, aOne, eOp, eUn, eB, eAdd, eSub, eMul, eDiv, eMod, ePow, eNeg, eLt, eLe, eGt, eGe, eEq, eNe, eIs, eIsNot, eIn, eNotIn, eIx, eAbs, eMax2, eMin2, eDvm, eLen, eList, eListC, eTuple, eAll, eAny, eSum, tBl, tNot', tAnd', tOr', eAnd, eOr, eNot, eIf, eTup, eLst, eLstC, eCall, eMeth, eMake, eFld, eLm, eLc, eLcC, iSeq, iRng, iRng2', TL.iZip, eSm, eRevS, sFrz, eFrz, sFor, r_add, r_addS, r_addL, r_sub, r_mul, r_div, r_mod, r_pow, r_neg, r_lt, r_le, r_gt, r_ge, r_ixL, r_ixT, r_ixS, r_eqI, atI_0, atI_1, atI_2, b_abs, b_max, b_min, b_dvm, b_lenL, b_lenT, b_lenQ, vIt_str, vIt_lst, vIt_tup, CT_true, true_and, wipeT, List.map, List.length, List.replicate, List.cons_append, List.nil_append, List.append_nil, Nat.zero_le, List.getElem?_cons_zero, List.getElem?_cons_succ, List.getElem?_nil, List.set_cons_zero, List.set_cons_succ, gT, gsT, TgL.len, TL.vQ_tup, TL.vQ_lst, Nat.reduceAdd, Nat.reduceEqDiff, if_true, eSl, oSome, oNone, eIsi, eChain, iEnum', iEnumK, sFldT, eReprO, eCallK, eOEq, eFmt, eFmtR, eJs, eMethK, eReprQ, eInQ, eNotInQ, sRaiseX, eDctPT, eDNewC, eDNewT, eRepr, sPar3, rUpper, sRaiseE, eSetC, eLenS, eDisp, eScC, gP, List.filterMap_cons, List.filterMap_nil])
/-! P49: plain facts for the law of k17. -/
theorem Run.le {k : Nat} {ls ps ps' : List Str} {es es' : List Ed} {o : Option Nat} (h : Run k ls ps es o ps' es') : ∀ n, o = some n → n < k + ls.length := by
  induction h with
  | done => intro n e; cases e
  | bad => intro n e; cases e; simp
  | fit h _ ih => intro n e; have := ih n e; simp; omega
theorem Out.le {w : Str} {k : Nat} (h : Out w (some k)) : k ≤ (cl w).count 10 + 1 := by
  obtain ⟨o, ps, es, r, e⟩ := h
  have hp : (parts 10 w).length = (cl w).count 10 + 1 := parts_len
  cases o with
  | some n =>
    dsimp only at e
    cases e
    have := r.le _ rfl
    rw [List.length_dropLast] at this
    omega
  | none =>
    dsimp only at e
    split at e
    · cases e
    · cases e; omega
structure Ln (l : Str) : Prop where
  ok : okc l
  no : 10 ∉ cl l
  ln : l.length ≤ 22
  sp : (cl l).count 32 ≤ 2
theorem joined_tx : ∀ ls : List Str, (∀ l ∈ ls, Ln l) → Tx (joined ls) (23 * ls.length) ls.length (2 * ls.length) := fun ls h => by
  have key : ∀ ls : List Str, (∀ l ∈ ls, Ln l) → (∀ c ∈ (ls.map fun l => cl l ++ [10]).flatten, c < 0x110000) ∧ (ls.map fun l => cl l ++ [10]).flatten.length ≤ 23 * ls.length ∧ (ls.map fun l => cl l ++ [10]).flatten.count 10 ≤ ls.length ∧ (ls.map fun l => cl l ++ [10]).flatten.count 32 ≤ 2 * ls.length := by
    intro ls h
    induction ls with
    | nil => exact ⟨(fun c hc => by cases hc), by simp, by simp, by simp⟩
    | cons l r ih =>
      obtain ⟨i1, i2, i3, i4⟩ := ih fun x hx => h x (List.mem_cons_of_mem _ hx)
      have hl := h l (List.mem_cons_self ..)
      have l1 := hl.ln
      rw [← cl_len] at l1
      have l2 : (cl l).count 10 = 0 := List.count_eq_zero.mpr hl.no
      have l3 := hl.sp
      have c1 : List.count 10 [10] = 1 := rfl
      have c2 : List.count 32 [10] = 0 := rfl
      rw [List.map_cons, List.flatten_cons]
      refine ⟨fun c hc => ?_, ?_, ?_, ?_⟩
      · rcases List.mem_append.mp hc with hc | hc
        · rcases List.mem_append.mp hc with hc | hc
          · exact hl.ok c hc
          · rw [List.mem_singleton.mp hc]; decide
        · exact i1 c hc
      · rw [List.length_append, List.length_append]; simp only [List.length_cons, List.length_nil]; omega
      · rw [List.count_append, List.count_append, c1, l2]; simp only [List.length_cons]; omega
      · rw [List.count_append, List.count_append, c2]; simp only [List.length_cons]; omega
  obtain ⟨k1, k2, k3, k4⟩ := key ls h
  have e := joined_cl ls
  exact ⟨fun c hc => k1 c (e ▸ hc), by rw [← cl_len, e]; exact k2, by rw [e]; exact k3, by rw [e]; exact k4⟩
theorem Nm.c32 {s : Str} (h : Nm s) : (cl s).count 32 = 0 := List.count_eq_zero.mpr (h.no (by decide))
theorem lnN_ln {x : Str} (h : Nm x) : Ln (lnN x) := by
  have e : cl (lnN x) = cl "node " ++ cl x := cl_app _ _
  have h8 := h.2.1
  refine ⟨fun c hc => ?_, fun hc => ?_, by rw [lnN_len]; omega, ?_⟩
  · rw [e] at hc
    rcases List.mem_append.mp hc with hc | hc
    · have : ((cl "node ").all fun c => decide (c < 0x110000)) = true := by decide +kernel
      exact of_decide_eq_true (List.all_eq_true.mp this c hc)
    · have := h.2.2 c hc; omega
  · rw [e] at hc
    rcases List.mem_append.mp hc with hc | hc
    · revert hc; decide +kernel
    · exact h.no (by decide) hc
  · rw [e, List.count_append, h.c32]
    have : (cl "node ").count 32 = 1 := by decide +kernel
    omega
theorem lnE_ln {x : Ed} (h : Nm x.1) (g : Nm x.2) : Ln (lnE x) := by
  have e : cl (lnE x) = ((cl "edge " ++ cl x.1) ++ cl " ") ++ cl x.2 := by unfold lnE; rw [cl_app, cl_app, cl_app]
  have h8 := h.2.1
  have g8 := g.2.1
  refine ⟨fun c hc => ?_, fun hc => ?_, by rw [lnE_len]; omega, ?_⟩
  · rw [e] at hc
    simp only [List.mem_append] at hc
    rcases hc with ((hc | hc) | hc) | hc
    · have : ((cl "edge ").all fun c => decide (c < 0x110000)) = true := by decide +kernel
      exact of_decide_eq_true (List.all_eq_true.mp this c hc)
    · have := h.2.2 c hc; omega
    · have : ((cl " ").all fun c => decide (c < 0x110000)) = true := by decide +kernel
      exact of_decide_eq_true (List.all_eq_true.mp this c hc)
    · have := g.2.2 c hc; omega
  · rw [e] at hc
    simp only [List.mem_append] at hc
    rcases hc with ((hc | hc) | hc) | hc
    · revert hc; decide +kernel
    · exact h.no (by decide) hc
    · revert hc; decide +kernel
    · exact g.no (by decide) hc
  · rw [e, List.count_append, List.count_append, List.count_append, h.c32, g.c32]
    have : (cl "edge ").count 32 = 1 := by decide +kernel
    have : (cl " ").count 32 = 1 := by decide +kernel
    omega
theorem lns_tx {ps : List Str} {es : List Ed} (g : Gd ps es) : Tx (joined (lns ps es)) 6300 272 544 := by
  have h := joined_tx (lns ps es) fun l hl => by
    rcases List.mem_append.mp hl with hl | hl
    · obtain ⟨x, hx, rfl⟩ := List.mem_map.mp hl
      exact lnN_ln (g.nm x hx)
    · obtain ⟨x, hx, rfl⟩ := List.mem_map.mp hl
      exact lnE_ln (g.enm x hx).1 (g.enm x hx).2
  have l16 := g.l16
  have le := g.le
  have hl : (lns ps es).length ≤ 272 := by unfold lns; simp; omega
  exact ⟨h.ok, Nat.le_trans h.ln (by omega), Nat.le_trans h.nl (by omega), Nat.le_trans h.sp (by omega)⟩
theorem run_pre : ∀ {qs ps ls ps' : List Str} {es' : List Ed} {k : Nat} {o : Option Nat}, Gs (ps ++ qs) [] → Run (k + qs.length) ls (ps ++ qs) [] o ps' es' → Run k (qs.map lnN ++ ls) ps [] o ps' es'
  | [], ps, ls, ps', es', k, o, g, h => by simpa using h
  | q :: r, ps, ls, ps', es', k, o, g, h => by
    have hq : Nm q := g.nm q (by simp)
    have hl := g.l16
    simp at hl
    have hni : q ∉ ps := fun hm => (List.nodup_append.mp g.nd).2.2 q hm q (by simp) rfl
    have e : ps ++ q :: r = (ps ++ [q]) ++ r := by simp
    rw [e] at g h
    refine .fit (.inl ⟨q, ?_, rfl, by omega, hq, hni, rfl, rfl⟩) (run_pre g (by simpa [Nat.add_assoc, Nat.add_comm 1] using h))
    rw [← split_node hq]
    exact (split_parts rfl (by decide)).symm
theorem parts_node {x : Str} (h : Nm x) : parts 32 (lnN x) = [("node" : Str), x] := by
  rw [← split_node h]
  exact (split_parts rfl (by decide)).symm
theorem unfit {l : Str} {ps ps' : List Str} {es es' : List Ed} (h : (parts 32 l).length < 2) : ¬ Fit l ps es ps' es' := by
  rintro (⟨x, e, _⟩ | ⟨a, b, e, _⟩)
  · rw [e] at h; simp at h
  · rw [e] at h; simp at h
theorem okN_a : Nm "a" := by decide +kernel
theorem out1 : Out "" (some 1) := ⟨none, [], [], by
  have : (parts 10 "").dropLast = [] := by decide +kernel
  rw [this]; exact .done, by
  have : (parts 10 "").length = 1 := by decide +kernel
  simp [this]⟩
theorem out2 : Out "\n" (some 1) := ⟨some 1, [], [], by
  have : (parts 10 "\n").dropLast = [Str.empty] := by decide +kernel
  rw [this]; exact .bad fun _ _ => unfit (by decide +kernel), rfl⟩
theorem out3 : Out "node a" (some 1) := ⟨none, [], [], by
  have : (parts 10 "node a").dropLast = [] := by decide +kernel
  rw [this]; exact .done, by
  have : (parts 10 "node a").length = 1 := by decide +kernel
  simp [this]⟩
theorem fit_a : Fit "node a" [] [] ["a"] [] := .inl ⟨"a", by decide +kernel, rfl, by decide, okN_a, by simp, rfl, rfl⟩
theorem out4 : Out "node a\n\n" (some 2) := ⟨some 2, ["a"], [], by
  have : (parts 10 "node a\n\n").dropLast = [("node a" : Str), Str.empty] := by decide +kernel
  rw [this]
  exact .fit fit_a (.bad fun _ _ => unfit (by decide +kernel)), rfl⟩
theorem out6 : Out "node a\nedge a a\n" (some 2) := ⟨some 2, ["a"], [], by
  have : (parts 10 "node a\nedge a a\n").dropLast = [("node a" : Str), "edge a a"] := by decide +kernel
  rw [this]
  refine .fit fit_a (.bad fun _ _ => ?_)
  have e : parts 32 "edge a a" = [("edge" : Str), "a", "a"] := by decide +kernel
  rintro (⟨x, h, _⟩ | ⟨a, b, h, ⟨a', b', h2, _, _, h3, _⟩, _⟩)
  · rw [e] at h; simp at h
  · rw [e] at h
    simp only [List.cons.injEq, and_true, true_and] at h
    simp only [List.cons.injEq, and_true] at h2
    exact h3 (by rw [← h2.1, ← h2.2, ← h.1, ← h.2]), rfl⟩
def ss17 : List Str := (List.range 17).map fun i => one (97 + i)
def full : Str := joined (ss17.map lnN)
theorem ss17_nm : ∀ s ∈ ss17, Nm s := by decide +kernel
theorem out5 : Out full (some 17) := by
  have e : parts 10 full = ss17.map lnN ++ [Str.empty] := parts_joined fun l hl => by
    obtain ⟨x, hx, rfl⟩ := List.mem_map.mp hl
    exact (lnN_ln (ss17_nm x hx)).no
  refine ⟨some 17, ss17.take 16, [], ?_, rfl⟩
  rw [e, List.dropLast_concat]
  have e2 : ss17.map lnN = (ss17.take 16).map lnN ++ [lnN (one 113)] := by
    have : ss17 = ss17.take 16 ++ [one 113] := by decide +kernel
    rw [← List.map_singleton, ← List.map_append, ← this]
  rw [e2]
  refine run_pre (by
    rw [List.nil_append]
    exact ⟨by decide +kernel, fun s hs => ss17_nm s (List.mem_of_mem_take hs), by decide, (fun e h => by cases h), List.nodup_nil, ⟨fun _ => 0, (fun e h => by cases h)⟩⟩) ?_
  rw [List.nil_append]
  refine .bad fun _ _ => ?_
  have nm : Nm (one 113) := by decide +kernel
  have en := parts_node nm
  rintro (⟨x, h, _, h16, _⟩ | ⟨a, b, h, _⟩)
  · revert h16; decide
  · rw [en] at h; simp at h
theorem full_tx : Tx full 391 17 34 := joined_tx (ss17.map lnN) fun l hl => by
  obtain ⟨x, hx, rfl⟩ := List.mem_map.mp hl
  exact lnN_ln (ss17_nm x hx)
theorem oD_ok {w : Str} {o : Option Nat} {T S : Nat} (h : Out w o) (tx : Tx w T 300 S) (G : GH) : okShow G (oD o) := by
  have i := (show ∀ n : Nat, n < 302 → PyData.leavesShort 8 (.int n) = true ∧ PyData.showable (.int n) = true by decide +kernel)
  cases o with
  | none => exact okS_of (N := 10) (by show Pl .non 50; simp [Pl]) rfl rfl (by show PyData.none.bulk ≤ 10; rw [PyData.bulk]; decide) (by decide)
  | some k =>
    have := h.le
    have := tx.nl
    exact okS_of (N := 10) (by show Pl (.int _) 50; simp [Pl]) (i k (by omega)).1 (i k (by omega)).2 (by show (PyData.int _).bulk ≤ 10; rw [PyData.bulk]; decide) (by decide)

end PL
end
section
namespace PL
open PySem PySem.Spec L2 TL WK
local macro_rules | `(tactic| kwd_rel) => `(tactic| simp only [startT, spOf, sSeq, sIf, sSet, sRet, sRetN, sExpr, sNext, sPar, sPutNm, sPut, sAug, sAsg, eC, eVar, aNil, aCons, aOne, eOp, eUn, eB, eAdd, eSub, eMul, eDiv, eMod, ePow, eNeg, eLt, eLe, eGt, eGe, eEq, eNe, eIs, eIsNot, eIn, eNotIn, eIx, eAbs, eMax2, eMin2, eDvm, eLen, eList, eListC, eTuple, eAll, eAny, eSum, tBl, tNot', tAnd', tOr', eAnd, eOr, eNot, eIf, eTup, eLst, eLstC, eCall, eMeth, eMake, eFld, eLm, eLc, eLcC, iSeq, iRng, iRng2', TL.iZip, eSm, eRevS, sFrz, eFrz, sFor, r_add, r_addS, r_addL, r_sub, r_mul, r_div, r_mod, r_pow, r_neg, r_lt, r_le, r_gt, r_ge, r_ixL, r_ixT, r_ixS, r_eqI, atI_0, atI_1, atI_2, b_abs, b_max, b_min, b_dvm, b_lenL, b_lenT, b_lenQ, vIt_str, vIt_lst, vIt_tup, CT_true, true_and, wipeT, List.map, List.length, List.replicate, List.cons_append, List.nil_append, List.append_nil, Nat.zero_le, List.getElem?_cons_zero, List.getElem?_cons_succ, List.getElem?_nil, List.set_cons_zero, List.set_cons_succ, gT, gsT, TgL.len, TL.vQ_tup, TL.vQ_lst, Nat.reduceAdd, Nat.reduceEqDiff, if_true, eSl, oSome, oNone, eIsi, eChain, iEnum', iEnumK, sFldT, eReprO, eCallK, eOEq, eFmt, eFmtR, eJs, eMethK, eReprQ, eInQ, eNotInQ, sRaiseX, eDctPT, eDNewC, eDNewT, eRepr, sPar3, rUpper, sRaiseE, eSetC, eLenS, eDisp, eScC, gP, List.filterMap_cons, List.filterMap_nil])
variable {Cs : List Addr} {K : PySem.W.Frag} {C : Addr}
/-! P50: the law of k17. -/
theorem clampC (m b : Nat) (hb : 1 ≤ b) : ∃ n : Nat, n ≤ b ∧ (if (if ((b : Nat) : Int) < ((m : Nat) : Int) then ((b : Nat) : Int) else ((m : Nat) : Int)) > 1 then (if ((b : Nat) : Int) < ((m : Nat) : Int) then ((b : Nat) : Int) else ((m : Nat) : Int)) else 1) = (n : Int) := by
  by_cases h : ((b : Nat) : Int) < ((m : Nat) : Int)
  · rw [if_pos h]
    by_cases h2 : ((b : Nat) : Int) > 1
    · exact ⟨b, by omega, by rw [if_pos h2]⟩
    · exact ⟨1, by omega, by rw [if_neg h2]; rfl⟩
  · rw [if_neg h]
    by_cases h2 : ((m : Nat) : Int) > 1
    · exact ⟨m, by omega, by rw [if_pos h2]⟩
    · exact ⟨1, by omega, by rw [if_neg h2]; rfl⟩

def tj : Nat → Nat
  | 0 => 6300
  | t + 1 => 2 * tj t + 15
def sj : Nat → Nat
  | 0 => 544
  | t + 1 => 2 * sj t + 3
theorem tsj : ∀ t < 4, tj t ≤ 1000000 ∧ sj t ≤ 10000 := by decide +kernel
theorem tsj' : ∀ t < 3, tj t ≤ 400000 ∧ sj t ≤ 4000 := by decide +kernel
theorem oD_sh {o : Option Nat} (G : GH) : showD G (oD o) = (toPy (oD o)).shown := by cases o <;> rfl
theorem ok_0 (G : GH) : okShow G (.int 0) := okS_of (N := 10) (by show Pl (.int _) 50; simp [Pl]) (by show PyData.leavesShort 8 (.int 0) = true; decide +kernel) (by show PyData.showable (.int 0) = true; decide +kernel) (by show (PyData.int _).bulk ≤ 10; rw [PyData.bulk]; decide) (by decide)
theorem sh_0 (G : GH) : showD G (.int 0) = Str.ofString "0" := by show PyData.shown (.int 0) = _; decide +kernel
def fNn : D → Option D
  | .str z => some (.str (nl (lnN z)))
  | _ => none
theorem fNn_map : ∀ ss : List Str, (ss.map D.str).filterMap fNn = (ss.map fun s => nl (lnN s)).map D.str
  | [] => rfl
  | s :: r => by rw [List.map_cons, List.filterMap_cons]; show _ :: _ = _; rw [fNn_map r]; rfl
theorem signs17 : signsD (Str.ofString "abcdefghijklmnopq") = ss17.map D.str := by rfl
def SR : List (Str × Nat) := [("", 1), ("\n", 1), ("node a", 1), ("node a\n\n", 2), (full, 17), ("node a\nedge a a\n", 2)]
theorem tx_lit {w : Str} (h : ((cl w).all fun c => decide (c < 0x110000)) = true ∧ w.length ≤ 1000 ∧ (cl w).count 10 ≤ 100 ∧ (cl w).count 32 ≤ 100) : Tx w 1000000 10000 10000 :=
  ⟨fun c hc => of_decide_eq_true (List.all_eq_true.mp h.1 c hc), by omega, by omega, by omega⟩
theorem SR_ok : ∀ x ∈ SR, Out x.1 (some x.2) ∧ Tx x.1 1000000 10000 10000 := by
  intro x hx
  unfold SR at hx
  simp only [List.mem_cons, List.not_mem_nil, or_false] at hx
  rcases hx with rfl | rfl | rfl | rfl | rfl | rfl
  · exact ⟨out1, tx_lit (by decide +kernel)⟩
  · exact ⟨out2, tx_lit (by decide +kernel)⟩
  · exact ⟨out3, tx_lit (by decide +kernel)⟩
  · exact ⟨out4, tx_lit (by decide +kernel)⟩
  · exact ⟨out5, tx_up full_tx (by decide) (by decide) (by decide)⟩
  · exact ⟨out6, tx_lit (by decide +kernel)⟩
def spLaw : SpT := fun ds G Q E => ∃ ns : List Int, ds = [scrD ns] ∧ ns.length ≤ 63 ∧ ∀ G', Q (.bl true) G'
theorem law_ok : ∀ ds G Q E, spLaw ds G Q E → sp0_law spPot spGraph spOutc spExp spDraw spSpoilt ds G Q E := by
  rintro ds G Q E ⟨ns, rfl, hn, k⟩
  refine ⟨rfl, ?_⟩
  have s0 : sizeLine = 16777216 := rfl
  unfold t_law N_law scrD
  kwd_rel
  obtain ⟨n, n5, hb⟩ := clampC (ns.map D.int).length 5 (by decide)
  have hb : (if (if (5 : Int) < ((ns.map D.int).length : Nat) then 5 else (((ns.map D.int).length : Nat) : Int)) > 1 then (if (5 : Int) < ((ns.map D.int).length : Nat) then 5 else (((ns.map D.int).length : Nat) : Int)) else 1) = (n : Int) := hb
  rw [hb]
  refine ⟨by omega, by omega, ?_⟩
  refine for_inv (fun i τ' G' => ∃ x1 x2 x3 x4 x5 x9 x11 x12 x13 x14, τ' = [some (.scr (ns.map D.int)), x1, x2, x3, x4, x5, none, none, none, x9, none, x11, x12, x13, x14, none, none, none]) (fun _ _ _ _ => trivial) ?_ ?_ ⟨_, _, _, _, _, _, _, _, _, _, rfl⟩
  · rintro i d τ' G' e ⟨x1, x2, x3, x4, x5, x9, x11, x12, x13, x14, rfl⟩
    have hi : i < n := by
      have := (List.getElem?_eq_some_iff.mp e).1
      simpa [rngD] using this
    obtain rfl : d = .int (i : Nat) := by
      unfold rngD at e
      rw [List.getElem?_map, List.getElem?_range (by simpa using hi)] at e
      rw [← Option.some.inj e]
      simp
    refine ⟨_, rfl, fun K hK => ?_⟩
    kwd_rel
    refine ⟨ns, i, rfl, by omega, fun p G2 _ p2 _ => ?_⟩
    refine ⟨p, 16, rfl, p2, by decide, by decide, fun ps es G3 g _ p3 _ => ?_⟩
    kwd_rel
    have l16 := g.l16
    have le := g.le
    have emp : (Str.ofString "").length = 0 := by decide
    refine lc_fm fLn trivial (by simp; omega) (fun t ht => ?_) ?_
    · obtain ⟨l, hl, rfl⟩ := List.mem_map.mp ht
      refine ⟨_, rfl, fun K4 K5 h => ?_⟩
      simp only [tTrue, if_true]
      kwd_rel
      have := (g.nm l hl).2.1
      exact ⟨by show 5 + _ ≤ _; omega, h⟩
    rw [fLn_map]
    refine lc_fm fLe trivial (by simp; omega) (fun t ht => ?_) ?_
    · obtain ⟨l, hl, rfl⟩ := List.mem_map.mp ht
      refine ⟨_, rfl, fun K4 K5 h => ?_⟩
      simp only [tTrue, if_true]
      kwd_rel
      have h1 := (g.enm l hl).1.2.1
      have h2 := (g.enm l hl).2.2.1
      exact ⟨by show 5 + _ ≤ _; omega, by rw [len_app]; show 5 + _ + 1 ≤ _; omega, by rw [len_app, len_app]; show 5 + _ + 1 + _ ≤ _; omega, h⟩
    rw [fLe_map]
    have hl : ∀ l ∈ lns ps es, l.length ≤ 22 := lns_len g.nm g.enm
    have ll : (lns ps es).length ≤ 300 := by unfold lns; simp; omega
    refine ⟨by simp; omega, ?_⟩
    simp only [← List.map_append]
    refine lc_fm fNl trivial (by simp; unfold lns at ll; simp at ll; omega) (fun t ht => ?_) (join_nl (ls := lns ps es) (by omega) hl ?_)
    · obtain ⟨l, hl', rfl⟩ := List.mem_map.mp ht
      refine ⟨_, rfl, fun K4 K5 h => ?_⟩
      simp only [tTrue, if_true]
      kwd_rel
      have := hl l hl'
      exact ⟨by show l.length + 1 ≤ _; omega, h⟩
    have tx := lns_tx g
    have og := out_graph g
    generalize joined (lns ps es) = w0 at tx og
    have en : ∀ (G : GH) (Q : KD) (E : KX), rIsT true .non .non G Q E = Q (.bl false) G := fun _ _ _ => rfl
    refine .inl ⟨w0, rfl, tx_up tx (by omega) (by omega) (by omega), fun o ho G4 x4 => ?_⟩
    obtain rfl := ho.one og
    simp only [oD, en, Bool.false_eq_true, if_false]
    refine ⟨w0, rfl, tx_up tx (by omega) (by omega) (by omega), fun o ho G5 x5 => ?_⟩
    obtain rfl := ho.one og
    simp only [oD, en, Bool.false_eq_true, if_false]
    have p5 := (p3.ext x4).ext x5
    refine ⟨by decide, by decide, ?_⟩
    refine for_inv (fun j τ' G' => Pot G' p ∧ ∃ y11 y12 y13, τ' = [some (.scr (ns.map D.int)), some (.int (i : Nat)), some (.ref p), some (.lst (ps.map D.str)), some (.lst (es.map edD)), some (.lst ((ps.map lnN ++ es.map lnE).map D.str)), none, none, none, some (.str w0), none, y11, y12, y13, x14, none, none, none]) (fun _ _ _ _ => trivial) ?_ ?_ ⟨p5, _, _, _, rfl⟩
    · rintro j d τ' G6 e ⟨p6, y11, y12, y13, rfl⟩
      refine ⟨_, rfl, fun K2 hK2 => ?_⟩
      kwd_rel
      refine sp_draw p6 (by decide) (by decide) fun m G7 h0 h3 p7 _ => ?_
      obtain ⟨m, rfl⟩ := Int.eq_ofNat_of_zero_le h0
      have em : (1 : Int) + (m : Nat) = ((m + 1 : Nat) : Int) := by omega
      simp only [r_add, em]
      refine ⟨by omega, by omega, ?_⟩
      refine for_inv (fun t τ' G' => Pot G' p ∧ ∃ w y13, τ' = [some (.scr (ns.map D.int)), some (.int (i : Nat)), some (.ref p), some (.lst (ps.map D.str)), some (.lst (es.map edD)), some (.lst ((ps.map lnN ++ es.map lnE).map D.str)), none, none, none, some (.str w0), none, some d, some (.str w), y13, x14, none, none, none] ∧ Tx w (tj t) (272 + t) (sj t)) (fun _ _ _ _ => trivial) ?_ ?_ ⟨p7, _, _, rfl, tx⟩
      · rintro t d' τ' G8 e ⟨p8, w, y13, rfl, tw⟩
        have ht : t < 3 := by
          have := (List.getElem?_eq_some_iff.mp e).1
          simp [rngD] at this
          omega
        refine ⟨_, rfl, fun K3 hK3 => ?_⟩
        kwd_rel
        obtain ⟨b1, b2⟩ := tsj' t ht
        exact ⟨p, w, tj t, 272 + t, sj t, rfl, p8, tw, b1, by omega, b2, fun w' tx' G9 p9 => hK3 _ _ ⟨p9, w', _, rfl, tx'⟩⟩
      · rintro τ' G8 ⟨p8, w, y13, rfl, tw⟩
        have hlen : (rngD 0 (((m + 1 : Nat) : Int)).toNat).length = m + 1 := by simp [rngD]
        rw [hlen] at tw
        obtain ⟨b1, b2⟩ := tsj (m + 1) (by omega)
        kwd_rel
        refine .inl ⟨w, rfl, tx_up tw b1 (by omega) b2, fun o ho G9 x9 => ?_⟩
        refine r_rep (oD_ok ho (tx_up tw (Nat.le_refl _) (by omega) (Nat.le_refl _)) G9) ?_
        refine ⟨w, rfl, tx_up tw b1 (by omega) b2, fun o2 ho2 G10 x10 => ?_⟩
        obtain rfl := ho2.one ho
        refine r_rep (oD_ok ho2 (tx_up tw (Nat.le_refl _) (by omega) (Nat.le_refl _)) G10) ?_
        rw [r_eqS', oD_sh, oD_sh, tb]
        simp only [decide_true, Bool.not_true, Bool.false_eq_true, if_false]
        exact hK2 _ _ ⟨(p8.ext x9).ext x10, _, _, _, rfl⟩
    · rintro τ' G6 ⟨p6, y11, y12, y13, rfl⟩
      kwd_rel
      intro q hq
      rw [frz_dK gup_same, gdel_gup hq]
      dsimp only
      refine ⟨by decide, by decide, fun q2 hq2 => ?_⟩
      simp only [ePrs, keyD]
      kwd_rel
      refine ⟨gup_same, by decide, ?_⟩
      rw [gup_gup, frz_dK gup_same, gdel_gup hq2]
      dsimp only
      refine ⟨by decide, ?_⟩
      refine for_inv (fun j τ' G' => ∃ z14, τ' = [some (.scr (ns.map D.int)), some (.int (i : Nat)), some (.ref p), some (.lst (ps.map D.str)), some (.lst (es.map edD)), some (.lst ((ps.map lnN ++ es.map lnE).map D.str)), none, none, none, some (.str w0), none, y11, y12, y13, z14, none, none, none]) (fun _ _ _ _ => trivial) ?_ ?_ ⟨_, rfl⟩
      · rintro j d τ' G7 e ⟨z14, rfl⟩
        refine ⟨_, rfl, fun K2 hK2 => ?_⟩
        have hd : Val d ∧ is_str d = false := by
          have := List.mem_of_getElem? e
          simp only [List.mem_cons, List.not_mem_nil, or_false] at this
          rcases this with rfl | rfl | rfl | rfl | rfl | rfl | rfl | rfl | rfl | rfl <;> exact ⟨rfl, rfl⟩
        kwd_rel
        refine .inr ⟨d, rfl, hd.1, hd.2, r_rep (ok_0 _) ?_⟩
        rw [r_eqS', sh_0, tb]
        simp only [decide_true, Bool.not_true, Bool.false_eq_true, if_false]
        exact hK2 _ _ ⟨_, rfl⟩
      · rintro τ' G7 ⟨z14, rfl⟩
        exact hK _ _ ⟨_, _, _, _, _, _, _, _, _, _, rfl⟩
  · rintro τ' G' ⟨x1, x2, x3, x4, x5, x9, x11, x12, x13, x14, rfl⟩
    kwd_rel
    rw [signs17]
    refine lc_fm fNn trivial (by decide) (fun t ht => ?_) ?_
    · obtain ⟨l, hl, rfl⟩ := List.mem_map.mp ht
      refine ⟨_, rfl, fun K4 K5 h => ?_⟩
      simp only [tTrue, if_true]
      kwd_rel
      have := (ss17_nm l hl).2.1
      exact ⟨by show 5 + _ ≤ _; omega, by rw [len_app]; show 5 + _ + 1 ≤ _; omega, h⟩
    rw [fNn_map]
    unfold rJoin
    simp only [vQ_lst, strsD_map]
    refine ⟨by decide +kernel, by decide, ?_⟩
    have ef : Txt.join (Str.ofString "") (ss17.map fun s => nl (lnN s)) = full := by unfold full joined; rw [List.map_map]; rfl
    rw [ef]
    refine lc_inv (fun j acc G' => acc = (SR.take j).map fun x => .int x.2) (fun _ _ _ _ => trivial) (fun j acc G' h => by rw [h]; simp; unfold SR; simp; omega) (by decide) ?_ ?_ rfl
    · intro i d acc G e h
      have e : (SR.map fun x => D.str x.1)[i]? = some d := e
      rw [List.getElem?_map] at e
      cases hx : SR[i]? with
      | none => rw [hx] at e; cases e
      | some x =>
        rw [hx] at e
        obtain rfl := Option.some.inj e
        obtain ⟨o1, t1⟩ := SR_ok x (List.mem_of_getElem? hx)
        refine ⟨_, rfl, fun K2 K3 k2 k3 => ?_⟩
        simp only [tTrue, if_true]
        kwd_rel
        refine .inl ⟨x.1, rfl, t1, fun o ho G2 _ => ?_⟩
        obtain rfl := ho.one o1
        refine k2 _ _ ?_
        rw [h, List.take_add_one, hx, List.map_append]
        rfl
    · intro acc G h
      have h : acc = [D.int 1, D.int 1, D.int 1, D.int 2, D.int 17, D.int 2] := h
      subst h
      refine ⟨by decide, r_eqG rfl rfl (by show Pl (.lst _) 60; simp [Pl, PlL]) (by show Pl (.lst _) 60; simp [Pl, PlL]) ?_⟩
      have e : eqD (.lst [D.int 1, D.int 1, D.int 1, D.int 2, D.int 17, D.int 2]) (.lst [D.int 1, D.int 1, D.int 1, D.int 2, D.int 17, D.int 2]) = true := by decide +kernel
      rw [fb]
      show Q (.bl (eqD (.lst [D.int 1, D.int 1, D.int 1, D.int 2, D.int 17, D.int 2]) (.lst [D.int 1, D.int 1, D.int 1, D.int 2, D.int 17, D.int 2]))) _
      rw [e]
      exact k _

end PL
end
section
/-! TLF: own checks of the head: classes that isinstance knows, own ==. -/
namespace TLH
open PySem PySem.Spec L2 He TL
def ckI (x : Str) : Ck := fun K => eqO (PySem.W.findIn K (.ref (ga K x)) "__class__") (some (some (.builtin "object.__class__"))) && (eqO (PySem.W.specialIn K (.builtin "object.__class__") "__get__") (some (some (.builtin "getset_descriptor.__get__"))) && (decide (PySem.W.takesIn K (.builtin "object.__class__") = some true) && decide (PySem.W.mroIn K (ga K x) (.type "object") = some true)))
theorem clsI_of {x : Str} {K : PySem.W.Frag} (h : ckI x K = true) (c : Cls K (ga K x)) : ClsI K (ga K x) := by
  obtain ⟨h1, h⟩ := ba h
  obtain ⟨h2, h⟩ := ba h
  obtain ⟨h3, h4⟩ := ba h
  exact ⟨c, eqO_ok h1, eqO_ok h2, of_decide_eq_true h3, of_decide_eq_true h4⟩
def ckEq (x : Str) : Ck := fun K => eqO (PySem.W.findIn K (.ref (ga K x)) "__ne__") (some (some (.builtin "object.__ne__"))) && decide (PySem.W.mroIn K (ga K x) (.type "object") = some true)
theorem ownEq_of {x : Str} {K : PySem.W.Frag} {f : Addr} (h : ckEq x K = true) (m : Meth K (ga K x) "__eq__" f) : OwnEq K (ga K x) f := by
  obtain ⟨h1, h2⟩ := ba h
  exact ⟨m.at_, eqO_ok h1, m.fn, of_decide_eq_true h2⟩
end TLH
end
section
/-! TLG: own checks of the head: exception classes. -/
namespace TLH
open PySem PySem.Spec L2 He TL
def isVal : Option PySem.W.CFound → String → Bool
  | some (.val (.builtin n)), m => n == m
  | _, _ => false
theorem isVal_ok {r : Option PySem.W.CFound} {m : String} (h : isVal r m = true) : r = some (.val (.builtin m)) := by
  unfold isVal at h
  split at h
  · rw [eq_of_beq h]
  · cases h
def ckOex (x : Str) (bm : List Value) (nw : String) : Ck := fun K => XG.oexB K (ga K x) bm nw
theorem oex_of {x : Str} {bm : List Value} {nw : String} {K : PySem.W.Frag} (h : ckOex x bm nw K = true) : XG.OexG K (ga K x) bm nw := XG.oexB_ok h
/-- an own class between -/
def ckRd (x : Str) (ini : String) : Ck := fun K => PySem.W.readsIn K (ga K x) (.type "type") && (eqO (PySem.W.specialIn K (.ref (ga K x)) "__getattribute__") (some (some (.builtin "type.__getattribute__"))) && isVal (PySem.W.findCls K (.ref (ga K x)) (.type "type") "__init__") ini)
theorem rd_of {x : Str} {ini : String} {K : PySem.W.Frag} (h : ckRd x ini K = true) : PySem.W.readsIn K (ga K x) (.type "type") = true ∧ PySem.W.specialIn K (.ref (ga K x)) "__getattribute__" = some (some (.builtin "type.__getattribute__")) ∧ PySem.W.findCls K (.ref (ga K x)) (.type "type") "__init__" = some (.val (.builtin ini)) := by
  obtain ⟨h1, h⟩ := ba h
  obtain ⟨h2, h3⟩ := ba h
  exact ⟨h1, eqO_ok h2, isVal_ok h3⟩
def ckIn (B ini : String) : Ck := fun K => isVal (PySem.W.findCls K (.type B) (.type "type") "__init__") ini
theorem in_of {B ini : String} {K : PySem.W.Frag} (h : ckIn B ini K = true) : PySem.W.findCls K (.type B) (.type "type") "__init__" = some (.val (.builtin ini)) := isVal_ok h
def ckXf (x : Str) : Ck := fun K => xfB K (ga K x)
theorem xf_of {x : Str} {K : PySem.W.Frag} (h : ckXf x K = true) : XfC K (ga K x) := xfB_ok h
def ckExK (x : Str) : Ck := fun K => (PySem.W.clsIn K (ga K x)).isSome && (eqO (PySem.W.findIn K (.ref (ga K x)) "__getattribute__") (some (some (.builtin "BaseException.__getattribute__"))) && (eqO (PySem.W.findIn K (.ref (ga K x)) "__getattr__") (some none) && (decide (PySem.W.subIn K (.ref (ga K x)) (.type "BaseException") = some true) &&
  (eqO (PySem.W.findIn K (.ref (ga K x)) "__class__") (some (some (.builtin "object.__class__"))) && (eqO (PySem.W.specialIn K (.builtin "object.__class__") "__get__") (some (some (.builtin "getset_descriptor.__get__"))) && (decide (PySem.W.takesIn K (.builtin "object.__class__") = some true) && decide (PySem.W.mroIn K (ga K x) (.type "object") = some true)))))))
theorem exK_of {x : Str} {K : PySem.W.Frag} (h : ckExK x K = true) : ExK K (ga K x) := by
  obtain ⟨h1, h⟩ := ba h
  obtain ⟨h2, h⟩ := ba h
  obtain ⟨h3, h⟩ := ba h
  obtain ⟨h4, h⟩ := ba h
  obtain ⟨h5, h⟩ := ba h
  obtain ⟨h6, h⟩ := ba h
  obtain ⟨h7, h8⟩ := ba h
  exact ⟨h1, eqO_ok h2, eqO_ok h3, of_decide_eq_true h4, eqO_ok h5, eqO_ok h6, of_decide_eq_true h7, of_decide_eq_true h8⟩
/-- a class, by name -/
inductive Cn2 where
  | own (x : Str) | blt (n : String)
def Cn2.v (K : PySem.W.Frag) : Cn2 → Value
  | .own x => .ref (ga K x)
  | .blt n => .type n
def ckKit (x : Str) (c : Cn2) (b : Bool) : Ck := fun K => decide (PySem.W.kitOne K (.ref (ga K x)) (c.v K) = some b)
theorem kit_of' {x : Str} {c : Cn2} {b : Bool} {K : PySem.W.Frag} (h : ckKit x c b K = true) : PySem.W.kitOne K (.ref (ga K x)) (c.v K) = some b := of_decide_eq_true h
def ckExm (x : Str) (c : Cn2) (b : Bool) : Ck := fun K => decide (PySem.W.exmOne K (.ref (ga K x)) (c.v K) = some b)
theorem exm_of' {x : Str} {c : Cn2} {b : Bool} {K : PySem.W.Frag} (h : ckExm x c b K = true) : PySem.W.exmOne K (.ref (ga K x)) (c.v K) = some b := of_decide_eq_true h
def ckE (x : Str) (bm : List Value) (nw : String) : Ck := fun K => PySem.W.excIn K (ga K x) bm nw && (PySem.W.keepIn K (.ref (ga K x)) && (decide (PySem.W.subIn K (.ref (ga K x)) (.type "BaseException") = some true) && decide (PySem.W.typeIn K (.ref (ga K x)) = some (.type "type"))))
theorem calE_of {x : Str} {B nw ini : String} {bm : List Value} {K : PySem.W.Frag} {mg : Str → Option Value} (T : XG.BaseF B nw ini bm) (h : ckE x bm nw K = true) (m : mg x = some (.ref (ga K x))) : CalE K mg x (ga K x) := by
  obtain ⟨h1, h⟩ := ba h
  obtain ⟨h2, h⟩ := ba h
  obtain ⟨h3, h4⟩ := ba h
  exact ⟨B, nw, ini, bm, T.F, h1, m, h2, of_decide_eq_true h3, of_decide_eq_true h4⟩
def ckSys : Ck := fun K => match K.lookup sysModules with
  | some o => match o.cls with
    | .type n => n == "dict"
    | _ => false
  | none => false
theorem sys_of {K : PySem.W.Frag} (h : ckSys K = true) : SysK K := by
  unfold ckSys at h
  split at h
  · rename_i o e
    refine ⟨o, e, ?_⟩
    split at h
    · rename_i n e2
      rw [e2, eq_of_beq h]
    · cases h
  · cases h
end TLH
end
section
namespace WK
open PySem PySem.Spec L2 TL
def top (i : Nat) : Stmt := PySem.Challenge.pw_progressbounds_k17_whole_graph_texts_spo.main.body.getD i (.Pass ⟨0, 0, 0, 0⟩)
def clsBody (s : Stmt) : List Stmt := match s with
  | .ClassDef _ _ _ b _ _ _ _ _ _ _ => b
  | _ => []
def mth (i j : Nat) : Stmt := (clsBody (top i)).getD j (.Pass ⟨0, 0, 0, 0⟩)
variable {P : Program} {w : World} {K : PySem.W.Frag} {mg : Str → Option Value} {base : Heap}
def ps_InvalidText_init : List Str := ["self", "line"]
abbrev st_InvalidText_init : Stmt := mth 4 0
theorem sc_InvalidText_init : FnScope ps_InvalidText_init ps_InvalidText_init (defScope st_InvalidText_init) := ⟨rfl, rfl, rfl, by decide +kernel, rfl, by decide +kernel, by decide +kernel⟩
theorem okx_InvalidText {C D : Addr} {f : Addr} {fd : FuncData} {kws : List (Str × V)} (F : FunD K "__init__" "InvalidText.__init__" (defArgs st_InvalidText_init) (defBody st_InvalidText_init) (defScope st_InvalidText_init) [] kws f fd) (c : XG.OexG K C XG.mVE "ValueError.__new__") (n1 : PySem.W.findIn K (.ref C) "line" = some none) (m_P : mg "ProgressError" = some (.ref D)) (rd : PySem.W.readsIn K D (.type "type") = true) (spc : PySem.W.specialIn K (.ref D) "__getattribute__" = some (some (.builtin "type.__getattribute__"))) (vV : PySem.W.findCls K (.ref D) (.type "type") "__init__" = some (.val (.builtin "ValueError.__init__"))) :
    FnOk P w K mg base (L2.CX P w) 1 f fd ps_InvalidText_init (XG.spX C ["line"] [.int]) :=
  F.ok sc_InvalidText_init (fun vs H Q E h => by
    obtain ⟨a, ws, rfl, hk, _⟩ := h
    rw [List.length_cons, hk.len]
    rfl) (fun cdv A outer s H vs Q E hr h => ⟨_, pss_cons (ps_expr (XG.pe_initP XG.base_VE (by rfl) m_P (by decide) rd spc vV (by decide +kernel) (pa_cons (pv 0) (pa_cons (XG.pe_msg (ps := [.inl "invalid text at line ", .inr 1]) (.cons pe_str (.cons (pe_fmt (pv 1)) .nil))) pa_nil)))) (pss_one (XG.ps_fldG XG.base_VE (pv 0) (pv 1))), XG.body_one c n1 (fun a v H Q h1 q => XG.msg_ok (ps := [.inl "invalid text at line ", .inr 1]) (by
    intro p hp
    simp only [List.mem_cons, List.not_mem_nil, or_false] at hp
    rcases hp with rfl | rfl
    · show Str.length _ ≤ 1000; decide +kernel
    · exact ⟨_, rfl, .inr h1⟩) (by decide) q) h⟩)
abbrev st_is_name : Stmt := top 13
theorem sc_is_name : FnScope N_is_name ps_is_name (defScope st_is_name) := ⟨rfl, rfl, rfl, by decide +kernel, rfl, by decide +kernel, by decide +kernel⟩
theorem ok_is_name {Cs : List Addr} {tk_MAX_NAME_LENGTH : Tok} {tk_LETTERS : Tok} {f : Addr} {fd : FuncData} {dvs : List V} {kws : List (Str × V)} (F : FunD K "is_name" "is_name" (defArgs st_is_name) (defBody st_is_name) (defScope st_is_name) dvs kws f fd) (n_str : mg "str" = none) (n_isinstance : mg "isinstance" = none) (hCs : ∀ C ∈ Cs, ClsI K C) (n_len : mg "len" = none) (m_MAX_NAME_LENGTH : mg "MAX_NAME_LENGTH" = some (.int 8 tk_MAX_NAME_LENGTH)) (m_LETTERS : mg "LETTERS" = some (.str "abcdefghijklmnopqrstuvwxyz" tk_LETTERS)) (n_all : mg "all" = none) :
    FnG P w K mg base lv_is_name f fd ps_is_name (sp0_is_name Cs K) :=
  have sc := sc_is_name
  okG F sc (fun _ _ _ _ h => h.1) (fun cdv A outer s H E hr cn =>
    (qss_cons (qs_if (QW.qt (qw_or (qt_not (qt_val (qe_isi (qa_cons (qe_var (pv 0)) (qa_cons (qe_tyN (by rfl) n_str (by rfl)) qa_nil)) (by rfl) (by rfl) hCs (by rfl) n_isinstance))) (qw_or1 (qt_not (qt_chain sim_cmp sim_cmp op_leV op_leV qe_int (qe_len (qa_cons (qe_var (pv 0)) qa_nil) (by rfl) (by rfl) (by rfl) n_len) (qe_globI (by rfl) m_MAX_NAME_LENGTH)))))) (qss_one (qs_ret qe_bl)) qss_nil)
    (qss_one (qs_ret (qe_all (qa_cons (qe_lc rfl sc.nd (qi_seq (qe_var (pv 0))) (blkOk_by (own := [("letter", 1)]) (by rfl)) (by simp [TgN.ins, TgL.ins]) (fun _ _ _ _ _ => (qg_nm (i := 1) sc.nd rfl (by first | exact Or.inl rfl | exact Or.inr rfl))) (fun _ _ _ _ _ => qts_nil) (fun _ _ _ _ _ => (qe_in (hu66 hr) (qe_var (pv 1)) (qe_globS (by rfl) m_LETTERS)))) qa_nil) (by rfl) (by rfl) rfl (by rfl) n_all))))) fun _ _ _ _ h => h.2
theorem cal_is_name {Cs : List Addr} {tk_MAX_NAME_LENGTH : Tok} {tk_LETTERS : Tok} {f : Addr} {fd : FuncData} {kws : List (Str × V)} (F : FunD K "is_name" "is_name" (defArgs st_is_name) (defBody st_is_name) (defScope st_is_name) [] kws f fd) (m : mg "is_name" = some (.ref f)) (n_str : mg "str" = none) (n_isinstance : mg "isinstance" = none) (hCs : ∀ C ∈ Cs, ClsI K C) (n_len : mg "len" = none) (m_MAX_NAME_LENGTH : mg "MAX_NAME_LENGTH" = some (.int 8 tk_MAX_NAME_LENGTH)) (m_LETTERS : mg "LETTERS" = some (.str "abcdefghijklmnopqrstuvwxyz" tk_LETTERS)) (n_all : mg "all" = none) :
    Cal P w K mg base "is_name" lv_is_name ps_is_name (sp0_is_name Cs K) :=
  ⟨f, fd, m, F.kp, F.bindsN fun _ _ _ _ _ _ us hl => match us, hl with | [_], _ => rfl, ok_is_name F n_str n_isinstance hCs n_len m_MAX_NAME_LENGTH m_LETTERS n_all⟩
abbrev st_require_nodes : Stmt := top 14
theorem sc_require_nodes : FnScope N_require_nodes ps_require_nodes (defScope st_require_nodes) := ⟨rfl, rfl, rfl, by decide +kernel, rfl, by decide +kernel, by decide +kernel⟩
theorem ok_require_nodes {Cs : List Addr} {tk_MAX_NODES : Tok} {sp_is_name : SpT} {f : Addr} {fd : FuncData} {dvs : List V} {kws : List (Str × V)} (F : FunD K "require_nodes" "require_nodes" (defArgs st_require_nodes) (defBody st_require_nodes) (defScope st_require_nodes) dvs kws f fd) (n_list : mg "list" = none) (n_isinstance : mg "isinstance" = none) (hCs : ∀ C ∈ Cs, ClsI K C) (n_len : mg "len" = none) (m_MAX_NODES : mg "MAX_NODES" = some (.int 16 tk_MAX_NODES)) (n_enumerate : mg "enumerate" = none) (k_is_name : Cal P w K mg base "is_name" lv_is_name ps_is_name sp_is_name) :
    FnG P w K mg base lv_require_nodes f fd ps_require_nodes (sp0_require_nodes Cs K sp_is_name) :=
  have sc := sc_require_nodes
  okG F sc (fun _ _ _ _ h => h.1) (fun cdv A outer s H E hr cn =>
    (qss_cons (qs_if (QW.qt (qw_or (qt_not (qt_val (qe_isi (qa_cons (qe_var (pv 0)) (qa_cons (qe_tyN (by rfl) n_list (by rfl)) qa_nil)) (by rfl) (by rfl) hCs (by rfl) n_isinstance))) (qw_or1 (qt_not (qt_chain sim_cmp sim_cmp op_leV op_leV qe_int (qe_len (qa_cons (qe_var (pv 0)) qa_nil) (by rfl) (by rfl) (by rfl) n_len) (qe_globI (by rfl) m_MAX_NODES)))))) (qss_one qs_never) qss_nil)
    (qss_one (qs_for (passes_of rfl) rfl (qi_enum (by rfl) n_enumerate (qa_cons (qe_var (pv 0)) qa_nil)) (qg_tp rfl (qgs_cons (qg_nm (i := 1) sc.nd rfl (by first | exact Or.inl rfl | exact Or.inr rfl)) (qgs_cons (qg_nm (i := 2) sc.nd rfl (by first | exact Or.inl rfl | exact Or.inr rfl)) qgs_nil))) (qss_cons (qs_if (qt_not (qt_val (qc_call k_is_name cn (hr.mono (by decide)) (by rfl) (qa_cons (qe_var (pv 2)) qa_nil)))) (qss_one qs_never) qss_nil)
    (qss_one (qs_if (qt_in (hu66 hr) (qe_var (pv 2)) (qe_sl (qe_var (pv 0)) qo_none (qo_some (qe_var (pv 1))))) (qss_one qs_never) qss_nil))))))) fun _ _ _ _ h => h.2
theorem cal_require_nodes {Cs : List Addr} {tk_MAX_NODES : Tok} {sp_is_name : SpT} {f : Addr} {fd : FuncData} {kws : List (Str × V)} (F : FunD K "require_nodes" "require_nodes" (defArgs st_require_nodes) (defBody st_require_nodes) (defScope st_require_nodes) [] kws f fd) (m : mg "require_nodes" = some (.ref f)) (n_list : mg "list" = none) (n_isinstance : mg "isinstance" = none) (hCs : ∀ C ∈ Cs, ClsI K C) (n_len : mg "len" = none) (m_MAX_NODES : mg "MAX_NODES" = some (.int 16 tk_MAX_NODES)) (n_enumerate : mg "enumerate" = none) (k_is_name : Cal P w K mg base "is_name" lv_is_name ps_is_name sp_is_name) :
    Cal P w K mg base "require_nodes" lv_require_nodes ps_require_nodes (sp0_require_nodes Cs K sp_is_name) :=
  ⟨f, fd, m, F.kp, F.bindsN fun _ _ _ _ _ _ us hl => match us, hl with | [_], _ => rfl, ok_require_nodes F n_list n_isinstance hCs n_len m_MAX_NODES n_enumerate k_is_name⟩
abbrev st_reachable : Stmt := top 15
theorem sc_reachable : FnScope N_reachable ps_reachable (defScope st_reachable) := ⟨rfl, rfl, rfl, by decide +kernel, rfl, by decide +kernel, by decide +kernel⟩
theorem ok_reachable {f : Addr} {fd : FuncData} {dvs : List V} {kws : List (Str × V)} (F : FunD K "reachable" "reachable" (defArgs st_reachable) (defBody st_reachable) (defScope st_reachable) dvs kws f fd) (n_len : mg "len" = none) :
    FnG P w K mg base lv_reachable f fd ps_reachable (sp0_reachable ) :=
  have sc := sc_reachable
  okG F sc (fun _ _ _ _ h => h.1) (fun cdv A outer s H E hr cn =>
    (qss_cons (qs_set (i := 2) sc.nd rfl (by first | exact Or.inl rfl | exact Or.inr rfl) (qe_lstC (qa_cons (qe_var (pv 1)) qa_nil)))
    (qss_cons (qs_set (i := 3) sc.nd rfl (by first | exact Or.inl rfl | exact Or.inr rfl) qe_int)
    (qss_cons (qs_while (passes_of rfl) (qt_lt (qe_var (pv 3)) (qe_len (qa_cons (qe_var (pv 2)) qa_nil) (by rfl) (by rfl) (by rfl) n_len)) (qss_cons (qs_setLc (i := 4) rfl sc.nd rfl rfl (sw_true rfl rfl rfl rfl) (qi_seq (qe_var (pv 0))) (blkOk_by (own := [("source", 5), ("target", 6)]) (by rfl)) (by simp [TgN.ins, TgL.ins]) (fun _ _ _ _ _ => (qg_tp rfl (qgs_cons (qg_nm (i := 5) sc.nd rfl (by first | exact Or.inl rfl | exact Or.inr rfl)) (qgs_cons (qg_nm (i := 6) sc.nd rfl (by first | exact Or.inl rfl | exact Or.inr rfl)) qgs_nil)))) (fun _ _ _ _ _ => (qts_one (QW.qt (qw_and (qt_eq (hu66 hr) (qe_var (pv 5)) (qe_ix (hu66 hr) (qe_var (pv 2)) (qe_var (pv 3)))) (qw_and1 (qt_notIn (hu66 hr) (qe_var (pv 6)) (qe_var (pv 2)))))))) (fun _ _ _ _ _ => (qe_var (pv 6))))
    (qss_cons (qs_expr (qe_lm sl_extend PySem.F.slot_list_extend PySem.F.type_list_extend mt_extend (qe_var (pv 2)) (qa_cons (qe_var (pv 4)) qa_nil)))
    (qss_one (qs_aug (i := 3) sc.nd rfl (by first | exact Or.inl rfl | exact Or.inr rfl) qe_int ip_add)))))
    (qss_frz (i := 2) (qss_one (qs_ret (qe_var (pv 2))))))))) fun _ _ _ _ h => h.2
theorem cal_reachable {f : Addr} {fd : FuncData} {kws : List (Str × V)} (F : FunD K "reachable" "reachable" (defArgs st_reachable) (defBody st_reachable) (defScope st_reachable) [] kws f fd) (m : mg "reachable" = some (.ref f)) (n_len : mg "len" = none) :
    Cal P w K mg base "reachable" lv_reachable ps_reachable (sp0_reachable ) :=
  ⟨f, fd, m, F.kp, F.bindsN fun _ _ _ _ _ _ us hl => match us, hl with | [_, _], _ => rfl, ok_reachable F n_len⟩
abbrev st_edge_problem : Stmt := top 16
theorem sc_edge_problem : FnScope N_edge_problem ps_edge_problem (defScope st_edge_problem) := ⟨rfl, rfl, rfl, by decide +kernel, rfl, by decide +kernel, by decide +kernel⟩
theorem ok_edge_problem {Cs : List Addr} {sp_reachable : SpT} {f : Addr} {fd : FuncData} {dvs : List V} {kws : List (Str × V)} (F : FunD K "edge_problem" "edge_problem" (defArgs st_edge_problem) (defBody st_edge_problem) (defScope st_edge_problem) dvs kws f fd) (n_tuple : mg "tuple" = none) (n_isinstance : mg "isinstance" = none) (hCs : ∀ C ∈ Cs, ClsI K C) (n_len : mg "len" = none) (n_str : mg "str" = none) (n_all : mg "all" = none) (k_reachable : Cal P w K mg base "reachable" lv_reachable ps_reachable sp_reachable) :
    FnG P w K mg base lv_edge_problem f fd ps_edge_problem (sp0_edge_problem Cs K sp_reachable) :=
  have sc := sc_edge_problem
  okG F sc (fun _ _ _ _ h => h.1) (fun cdv A outer s H E hr cn =>
    (qss_cons (qs_if (QW.qt (qw_or (qt_not (qt_val (qe_isi (qa_cons (qe_var (pv 0)) (qa_cons (qe_tyN (by rfl) n_tuple (by rfl)) qa_nil)) (by rfl) (by rfl) hCs (by rfl) n_isinstance))) (qw_or1 (qt_ne (hu66 hr) (qe_len (qa_cons (qe_var (pv 0)) qa_nil) (by rfl) (by rfl) (by rfl) n_len) qe_int)))) (qss_one (qs_ret qe_str)) qss_nil)
    (qss_cons (qs_asg (qe_var (pv 0)) (qg_tp rfl (qgs_cons (qg_nm (i := 3) sc.nd rfl (by first | exact Or.inl rfl | exact Or.inr rfl)) (qgs_cons (qg_nm (i := 4) sc.nd rfl (by first | exact Or.inl rfl | exact Or.inr rfl)) qgs_nil))))
    (qss_cons (qs_if (QW.qt (qw_or (qt_not (qt_val (qe_all (qa_cons (qe_lc rfl sc.nd (qi_seq (qe_var (pv 0))) (blkOk_by (own := [("end", 5)]) (by rfl)) (by simp [TgN.ins, TgL.ins]) (fun _ _ _ _ _ => (qg_nm (i := 5) sc.nd rfl (by first | exact Or.inl rfl | exact Or.inr rfl))) (fun _ _ _ _ _ => qts_nil) (fun _ _ _ _ _ => (qe_and (qe_isi (qa_cons (qe_var (pv 5)) (qa_cons (qe_tyN (by rfl) n_str (by rfl)) qa_nil)) (by rfl) (by rfl) hCs (by rfl) n_isinstance) (qe_one (qe_in (hu66 hr) (qe_var (pv 5)) (qe_var (pv 1))))))) qa_nil) (by rfl) (by rfl) rfl (by rfl) n_all))) (qw_or1 (qt_eq (hu66 hr) (qe_var (pv 3)) (qe_var (pv 4)))))) (qss_one (qs_ret qe_str)) qss_nil)
    (qss_cons (qs_if (qt_in (hu66 hr) (qe_var (pv 0)) (qe_var (pv 2))) (qss_one (qs_ret qe_str)) qss_nil)
    (qss_one (qs_ret (qe_if (qt_in (hu66 hr) (qe_var (pv 3)) (qc_call k_reachable cn (hr.mono (by decide)) (by rfl) (qa_cons (qe_var (pv 2)) (qa_cons (qe_var (pv 4)) qa_nil)))) qe_str qe_non)))))))) fun _ _ _ _ h => h.2
theorem cal_edge_problem {Cs : List Addr} {sp_reachable : SpT} {f : Addr} {fd : FuncData} {kws : List (Str × V)} (F : FunD K "edge_problem" "edge_problem" (defArgs st_edge_problem) (defBody st_edge_problem) (defScope st_edge_problem) [] kws f fd) (m : mg "edge_problem" = some (.ref f)) (n_tuple : mg "tuple" = none) (n_isinstance : mg "isinstance" = none) (hCs : ∀ C ∈ Cs, ClsI K C) (n_len : mg "len" = none) (n_str : mg "str" = none) (n_all : mg "all" = none) (k_reachable : Cal P w K mg base "reachable" lv_reachable ps_reachable sp_reachable) :
    Cal P w K mg base "edge_problem" lv_edge_problem ps_edge_problem (sp0_edge_problem Cs K sp_reachable) :=
  ⟨f, fd, m, F.kp, F.bindsN fun _ _ _ _ _ _ us hl => match us, hl with | [_, _, _], _ => rfl, ok_edge_problem F n_tuple n_isinstance hCs n_len n_str n_all k_reachable⟩
abbrev st_require_edges : Stmt := top 17
theorem sc_require_edges : FnScope N_require_edges ps_require_edges (defScope st_require_edges) := ⟨rfl, rfl, rfl, by decide +kernel, rfl, by decide +kernel, by decide +kernel⟩
theorem ok_require_edges {Cs : List Addr} {sp_edge_problem : SpT} {f : Addr} {fd : FuncData} {dvs : List V} {kws : List (Str × V)} (F : FunD K "require_edges" "require_edges" (defArgs st_require_edges) (defBody st_require_edges) (defScope st_require_edges) dvs kws f fd) (n_list : mg "list" = none) (n_isinstance : mg "isinstance" = none) (hCs : ∀ C ∈ Cs, ClsI K C) (n_enumerate : mg "enumerate" = none) (k_edge_problem : Cal P w K mg base "edge_problem" lv_edge_problem ps_edge_problem sp_edge_problem) :
    FnG P w K mg base lv_require_edges f fd ps_require_edges (sp0_require_edges Cs K sp_edge_problem) :=
  have sc := sc_require_edges
  okG F sc (fun _ _ _ _ h => h.1) (fun cdv A outer s H E hr cn =>
    (qss_cons (qs_if (QW.qt (qw_and (qt_not (qt_val (qe_isi (qa_cons (qe_var (pv 0)) (qa_cons (qe_tyN (by rfl) n_list (by rfl)) qa_nil)) (by rfl) (by rfl) hCs (by rfl) n_isinstance))) (qw_and1 (qt_ne (hu66 hr) (qe_var (pv 0)) (qe_tup qa_nil))))) (qss_one qs_never) qss_nil)
    (qss_one (qs_for (passes_of rfl) rfl (qi_enum (by rfl) n_enumerate (qa_cons (qe_var (pv 0)) qa_nil)) (qg_tp rfl (qgs_cons (qg_nm (i := 2) sc.nd rfl (by first | exact Or.inl rfl | exact Or.inr rfl)) (qgs_cons (qg_nm (i := 3) sc.nd rfl (by first | exact Or.inl rfl | exact Or.inr rfl)) qgs_nil))) (qss_cons (qs_set (i := 4) sc.nd rfl (by first | exact Or.inl rfl | exact Or.inr rfl) (qc_call k_edge_problem cn (hr.mono (by decide)) (by rfl) (qa_cons (qe_var (pv 3)) (qa_cons (qe_var (pv 1)) (qa_cons (qe_sl (qe_var (pv 0)) qo_none (qo_some (qe_var (pv 2)))) qa_nil)))))
    (qss_one (qs_if (qt_isNot (qe_var (pv 4)) qe_non) (qss_one qs_never) qss_nil))))))) fun _ _ _ _ h => h.2
theorem cal_require_edges {Cs : List Addr} {sp_edge_problem : SpT} {f : Addr} {fd : FuncData} {kws : List (Str × V)} (F : FunD K "require_edges" "require_edges" (defArgs st_require_edges) (defBody st_require_edges) (defScope st_require_edges) [] kws f fd) (m : mg "require_edges" = some (.ref f)) (n_list : mg "list" = none) (n_isinstance : mg "isinstance" = none) (hCs : ∀ C ∈ Cs, ClsI K C) (n_enumerate : mg "enumerate" = none) (k_edge_problem : Cal P w K mg base "edge_problem" lv_edge_problem ps_edge_problem sp_edge_problem) :
    Cal P w K mg base "require_edges" lv_require_edges ps_require_edges (sp0_require_edges Cs K sp_edge_problem) :=
  ⟨f, fd, m, F.kp, F.bindsN fun _ _ _ _ _ _ us hl => match us, hl with | [_, _], _ => rfl, ok_require_edges F n_list n_isinstance hCs n_enumerate k_edge_problem⟩
abbrev st_Graph_init : Stmt := mth 18 0
theorem sc_Graph_init : FnScope N_Graph_init ps_Graph_init (defScope st_Graph_init) := ⟨rfl, rfl, rfl, by decide +kernel, rfl, by decide +kernel, by decide +kernel⟩
theorem ok_Graph_init {C_Graph : Addr} {sp_require_nodes sp_require_edges sp_reachable : SpT} {f : Addr} {fd : FuncData} {dvs : List V} {kws : List (Str × V)} (F : FunD K "__init__" "Graph.__init__" (defArgs st_Graph_init) (defBody st_Graph_init) (defScope st_Graph_init) dvs kws f fd) (k_require_nodes : Cal P w K mg base "require_nodes" lv_require_nodes ps_require_nodes sp_require_nodes) (k_require_edges : Cal P w K mg base "require_edges" lv_require_edges ps_require_edges sp_require_edges) (c_Graph : Cls K C_Graph) (a_Graph_own_nodes : NoAttr K C_Graph "own_nodes") (n_tuple : mg "tuple" = none) (a_Graph_own_edges : NoAttr K C_Graph "own_edges") (a_Graph_own_after : NoAttr K C_Graph "own_after") (k_reachable : Cal P w K mg base "reachable" lv_reachable ps_reachable sp_reachable) :
    FnG P w K mg base lv_Graph_init f fd ps_Graph_init (sp0_Graph_init C_Graph sp_require_nodes sp_require_edges sp_reachable) :=
  have sc := sc_Graph_init
  okG F sc (fun _ _ _ _ h => h.1) (fun cdv A outer s H E hr cn =>
    (qss_cons (qs_expr (qc_call k_require_nodes cn (hr.mono (by decide)) (by rfl) (qa_cons (qe_var (pv 1)) qa_nil)))
    (qss_cons (qs_expr (qc_call k_require_edges cn (hr.mono (by decide)) (by rfl) (qa_cons (qe_var (pv 2)) (qa_cons (qe_var (pv 1)) qa_nil))))
    (qss_cons (qs_fld c_Graph a_Graph_own_nodes (qe_var (pv 0)) (qe_tuple (qa_cons (qe_var (pv 1)) qa_nil) (by rfl) (by rfl) (by rfl) n_tuple))
    (qss_cons (qs_fld c_Graph a_Graph_own_edges (qe_var (pv 0)) (qe_tuple (qa_cons (qe_var (pv 2)) qa_nil) (by rfl) (by rfl) (by rfl) n_tuple))
    (qss_one (qs_fld c_Graph a_Graph_own_after (qe_var (pv 0)) (qe_frz (qe_dcC rfl sc.nd (qi_seq (qe_var (pv 1))) (blkOk_by (own := [("node", 3)]) (by rfl)) (by simp [TgN.ins, TgL.ins]) (fun _ _ _ _ _ => (qg_nm (i := 3) sc.nd rfl (by first | exact Or.inl rfl | exact Or.inr rfl))) (fun _ _ _ _ _ => qts_nil) (fun _ _ _ _ _ => (qe_var (pv 3))) (fun _ _ _ _ _ => (qc_call k_reachable cn.blk (hr.mono (by decide)) (by rfl) (qa_cons (qe_var (pv 2)) (qa_cons (qe_var (pv 3)) qa_nil))))))))))))) fun _ _ _ _ h => h.2
abbrev st_Graph_nodes : Stmt := mth 18 5
theorem sc_Graph_nodes : FnScope N_Graph_nodes ps_Graph_nodes (defScope st_Graph_nodes) := ⟨rfl, rfl, rfl, by decide +kernel, rfl, by decide +kernel, by decide +kernel⟩
theorem ok_Graph_nodes {C_Graph : Addr} {f : Addr} {fd : FuncData} {dvs : List V} {kws : List (Str × V)} (F : FunD K "nodes" "Graph.nodes" (defArgs st_Graph_nodes) (defBody st_Graph_nodes) (defScope st_Graph_nodes) dvs kws f fd) (c_Graph : Cls K C_Graph) (a_Graph_own_nodes : NoAttr K C_Graph "own_nodes") (n_list : mg "list" = none) :
    FnG P w K mg base lv_Graph_nodes f fd ps_Graph_nodes (sp0_Graph_nodes C_Graph) :=
  have sc := sc_Graph_nodes
  okG F sc (fun _ _ _ _ h => h.1) (fun cdv A outer s H E hr cn =>
    (qss_one (qs_ret (qe_list (qa_cons (qe_fld c_Graph a_Graph_own_nodes (qe_var (pv 0))) qa_nil) (by rfl) (by rfl) (by rfl) n_list)))) fun _ _ _ _ h => h.2
abbrev st_Graph_edges : Stmt := mth 18 6
theorem sc_Graph_edges : FnScope N_Graph_edges ps_Graph_edges (defScope st_Graph_edges) := ⟨rfl, rfl, rfl, by decide +kernel, rfl, by decide +kernel, by decide +kernel⟩
theorem ok_Graph_edges {C_Graph : Addr} {f : Addr} {fd : FuncData} {dvs : List V} {kws : List (Str × V)} (F : FunD K "edges" "Graph.edges" (defArgs st_Graph_edges) (defBody st_Graph_edges) (defScope st_Graph_edges) dvs kws f fd) (c_Graph : Cls K C_Graph) (a_Graph_own_edges : NoAttr K C_Graph "own_edges") (n_list : mg "list" = none) :
    FnG P w K mg base lv_Graph_edges f fd ps_Graph_edges (sp0_Graph_edges C_Graph) :=
  have sc := sc_Graph_edges
  okG F sc (fun _ _ _ _ h => h.1) (fun cdv A outer s H E hr cn =>
    (qss_one (qs_ret (qe_list (qa_cons (qe_fld c_Graph a_Graph_own_edges (qe_var (pv 0))) qa_nil) (by rfl) (by rfl) (by rfl) n_list)))) fun _ _ _ _ h => h.2
abbrev st_dump_graph : Stmt := top 20
theorem sc_dump_graph : FnScope N_dump_graph ps_dump_graph (defScope st_dump_graph) := ⟨rfl, rfl, rfl, by decide +kernel, rfl, by decide +kernel, by decide +kernel⟩
theorem ok_dump_graph {C_Graph : Addr} {sp_Graph_nodes sp_Graph_edges : SpT} {f : Addr} {fd : FuncData} {dvs : List V} {kws : List (Str × V)} (F : FunD K "dump_graph" "dump_graph" (defArgs st_dump_graph) (defBody st_dump_graph) (defScope st_dump_graph) dvs kws f fd) (c_Graph : Cls K C_Graph) (k_Graph_nodes : CalM P w K mg base C_Graph "nodes" lv_Graph_nodes ps_Graph_nodes sp_Graph_nodes) (k_Graph_edges : CalM P w K mg base C_Graph "edges" lv_Graph_edges ps_Graph_edges sp_Graph_edges) :
    FnG P w K mg base lv_dump_graph f fd ps_dump_graph (sp0_dump_graph C_Graph sp_Graph_nodes sp_Graph_edges) :=
  have sc := sc_dump_graph
  okG F sc (fun _ _ _ _ h => h.1) (fun cdv A outer s H E hr cn =>
    (qss_cons (qs_setLcC (i := 1) rfl sc.nd rfl rfl (sw_true rfl rfl rfl rfl) (qi_seq (qc_meth0 (qe_var (pv 0)) c_Graph k_Graph_nodes cn (hr.mono (by decide)))) (blkOk_by (own := [("node", 2)]) (by rfl)) (by simp [TgN.ins, TgL.ins]) (fun _ _ _ _ _ => (qg_nm (i := 2) sc.nd rfl (by first | exact Or.inl rfl | exact Or.inr rfl))) (fun _ _ _ _ _ => qts_nil) (fun _ _ _ _ _ => (qe_js (.cons qe_str (.cons (qe_fmt (qe_var (pv 2))) .nil)))))
    (qss_cons (qs_expr (qe_lm sl_extend PySem.F.slot_list_extend PySem.F.type_list_extend mt_extend (qe_var (pv 1)) (qa_cons (qe_lc rfl sc.nd (qi_seq (qc_meth0 (qe_var (pv 0)) c_Graph k_Graph_edges cn (hr.mono (by decide)))) (blkOk_by (own := [("source", 3), ("target", 4)]) (by rfl)) (by simp [TgN.ins, TgL.ins]) (fun _ _ _ _ _ => (qg_tp rfl (qgs_cons (qg_nm (i := 3) sc.nd rfl (by first | exact Or.inl rfl | exact Or.inr rfl)) (qgs_cons (qg_nm (i := 4) sc.nd rfl (by first | exact Or.inl rfl | exact Or.inr rfl)) qgs_nil)))) (fun _ _ _ _ _ => qts_nil) (fun _ _ _ _ _ => (qe_js (.cons qe_str (.cons (qe_fmt (qe_var (pv 3))) (.cons qe_str (.cons (qe_fmt (qe_var (pv 4))) .nil))))))) qa_nil)))
    (qss_frz (i := 1) (qss_one (qs_ret (qe_join qe_str (qe_lc rfl sc.nd (qi_seq (qe_var (pv 1))) (blkOk_by (own := [("line", 5)]) (by rfl)) (by simp [TgN.ins, TgL.ins]) (fun _ _ _ _ _ => (qg_nm (i := 5) sc.nd rfl (by first | exact Or.inl rfl | exact Or.inr rfl))) (fun _ _ _ _ _ => qts_nil) (fun _ _ _ _ _ => (qe_add (qe_var (pv 5)) qe_str)))))))))) fun _ _ _ _ h => h.2
theorem cal_dump_graph {C_Graph : Addr} {sp_Graph_nodes sp_Graph_edges : SpT} {f : Addr} {fd : FuncData} {kws : List (Str × V)} (F : FunD K "dump_graph" "dump_graph" (defArgs st_dump_graph) (defBody st_dump_graph) (defScope st_dump_graph) [] kws f fd) (m : mg "dump_graph" = some (.ref f)) (c_Graph : Cls K C_Graph) (k_Graph_nodes : CalM P w K mg base C_Graph "nodes" lv_Graph_nodes ps_Graph_nodes sp_Graph_nodes) (k_Graph_edges : CalM P w K mg base C_Graph "edges" lv_Graph_edges ps_Graph_edges sp_Graph_edges) :
    Cal P w K mg base "dump_graph" lv_dump_graph ps_dump_graph (sp0_dump_graph C_Graph sp_Graph_nodes sp_Graph_edges) :=
  ⟨f, fd, m, F.kp, F.bindsN fun _ _ _ _ _ _ us hl => match us, hl with | [_], _ => rfl, ok_dump_graph F c_Graph k_Graph_nodes k_Graph_edges⟩
abbrev st_read_line : Stmt := top 21
theorem sc_read_line : FnScope N_read_line ps_read_line (defScope st_read_line) := ⟨rfl, rfl, rfl, by decide +kernel, rfl, by decide +kernel, by decide +kernel⟩
theorem ok_read_line {tk_MAX_NODES : Tok} {sp_is_name sp_edge_problem : SpT} {f : Addr} {fd : FuncData} {dvs : List V} {kws : List (Str × V)} (F : FunD K "read_line" "read_line" (defArgs st_read_line) (defBody st_read_line) (defScope st_read_line) dvs kws f fd) (n_len : mg "len" = none) (m_MAX_NODES : mg "MAX_NODES" = some (.int 16 tk_MAX_NODES)) (k_is_name : Cal P w K mg base "is_name" lv_is_name ps_is_name sp_is_name) (k_edge_problem : Cal P w K mg base "edge_problem" lv_edge_problem ps_edge_problem sp_edge_problem) (n_tuple : mg "tuple" = none) :
    FnG P w K mg base lv_read_line f fd ps_read_line (sp0_read_line sp_is_name sp_edge_problem) :=
  have sc := sc_read_line
  okG F sc (fun _ _ _ _ h => h.1) (fun cdv A outer s H E hr cn =>
    (qss_cons (qs_star (qe_split (qe_var (pv 0)) qe_str) (pg_star (i := 1) rfl (qgs_cons (qg_nm (i := 3) sc.nd rfl (by first | exact Or.inl rfl | exact Or.inr rfl)) (qgs_star (qg_nm (i := 4) sc.nd rfl (by first | exact Or.inl rfl | exact Or.inr rfl)) qgs_nil))))
    (qss_cons (qs_if (QW.qt (qw_and (qt_eq (hu66 hr) (qe_var (pv 3)) qe_str) (qw_and (qt_eq (hu66 hr) (qe_len (qa_cons (qe_var (pv 4)) qa_nil) (by rfl) (by rfl) (by rfl) n_len) qe_int) (qw_and (qt_eq (hu66 hr) (qe_var (pv 2)) (qe_lst qa_nil)) (qw_and1 (qt_lt (qe_len (qa_cons (qe_var (pv 1)) qa_nil) (by rfl) (by rfl) (by rfl) n_len) (qe_globI (by rfl) m_MAX_NODES))))))) (qss_one (qs_if (QW.qt (qw_and (qt_val (qc_call k_is_name cn (hr.mono (by decide)) (by rfl) (qa_cons (qe_ix (hu66 hr) (qe_var (pv 4)) qe_int) qa_nil))) (qw_and1 (qt_notIn (hu66 hr) (qe_ix (hu66 hr) (qe_var (pv 4)) qe_int) (qe_var (pv 1)))))) (qss_cons (qs_expr (qe_lm sl_append PySem.F.slot_list_append PySem.F.type_list_append mt_append (qe_var (pv 1)) (qa_cons (qe_ix (hu66 hr) (qe_var (pv 4)) qe_int) qa_nil)))
    (qss_one (qs_ret qe_bl))) qss_nil)) qss_nil)
    (qss_cons (qs_if (QW.qt (qw_and (qt_eq (hu66 hr) (qe_var (pv 3)) qe_str) (qw_and1 (qt_is (qc_call k_edge_problem cn (hr.mono (by decide)) (by rfl) (qa_cons (qe_tuple (qa_cons (qe_var (pv 4)) qa_nil) (by rfl) (by rfl) (by rfl) n_tuple) (qa_cons (qe_var (pv 1)) (qa_cons (qe_var (pv 2)) qa_nil)))) qe_non)))) (qss_cons (qs_expr (qe_lm sl_append PySem.F.slot_list_append PySem.F.type_list_append mt_append (qe_var (pv 2)) (qa_cons (qe_tuple (qa_cons (qe_var (pv 4)) qa_nil) (by rfl) (by rfl) (by rfl) n_tuple) qa_nil)))
    (qss_one (qs_ret qe_bl))) qss_nil)
    (qss_one (qs_ret qe_bl)))))) fun _ _ _ _ h => h.2
theorem cal_read_line {tk_MAX_NODES : Tok} {sp_is_name sp_edge_problem : SpT} {f : Addr} {fd : FuncData} {kws : List (Str × V)} (F : FunD K "read_line" "read_line" (defArgs st_read_line) (defBody st_read_line) (defScope st_read_line) [] kws f fd) (m : mg "read_line" = some (.ref f)) (n_len : mg "len" = none) (m_MAX_NODES : mg "MAX_NODES" = some (.int 16 tk_MAX_NODES)) (k_is_name : Cal P w K mg base "is_name" lv_is_name ps_is_name sp_is_name) (k_edge_problem : Cal P w K mg base "edge_problem" lv_edge_problem ps_edge_problem sp_edge_problem) (n_tuple : mg "tuple" = none) :
    Cal P w K mg base "read_line" lv_read_line ps_read_line (sp0_read_line sp_is_name sp_edge_problem) :=
  ⟨f, fd, m, F.kp, F.bindsN fun _ _ _ _ _ _ us hl => match us, hl with | [_, _, _], _ => rfl, ok_read_line F n_len m_MAX_NODES k_is_name k_edge_problem n_tuple⟩
abbrev st_load_graph : Stmt := top 22
theorem sc_load_graph : FnScope N_load_graph ps_load_graph (defScope st_load_graph) := ⟨rfl, rfl, rfl, by decide +kernel, rfl, by decide +kernel, by decide +kernel⟩
theorem ok_load_graph {Cs : List Addr} {C_InvalidText : Addr} {C_Graph : Addr} {sp_read_line sp_Graph : SpT} {f : Addr} {fd : FuncData} {dvs : List V} {kws : List (Str × V)} (F : FunD K "load_graph" "load_graph" (defArgs st_load_graph) (defBody st_load_graph) (defScope st_load_graph) dvs kws f fd) (n_str : mg "str" = none) (n_isinstance : mg "isinstance" = none) (hCs : ∀ C ∈ Cs, ClsI K C) (x_InvalidText : CalX P w K mg base "InvalidText" C_InvalidText 1 ["line"] [.int]) (n_enumerate : mg "enumerate" = none) (k_read_line : Cal P w K mg base "read_line" lv_read_line ps_read_line sp_read_line) (n_len : mg "len" = none) (k_Graph : CalC P w K mg base "Graph" C_Graph lv_Graph_init ps_Graph_init sp_Graph []) :
    FnG P w K mg base lv_load_graph f fd ps_load_graph (sp0_load_graph Cs K C_InvalidText C_Graph sp_read_line sp_Graph) :=
  have sc := sc_load_graph
  okG F sc (fun _ _ _ _ h => h.1) (fun cdv A outer s H E hr cn =>
    (qss_cons (qs_if (qt_not (qt_val (qe_isi (qa_cons (qe_var (pv 0)) (qa_cons (qe_tyN (by rfl) n_str (by rfl)) qa_nil)) (by rfl) (by rfl) hCs (by rfl) n_isinstance))) (qss_one (qs_raiseX x_InvalidText cn rfl (hr.mono (by decide)) (by rfl) (qa_cons qe_int qa_nil))) qss_nil)
    (qss_cons (qs_star (qe_split (qe_var (pv 0)) qe_str) (pg_star (i := 0) rfl (qgs_star (qg_nm (i := 1) sc.nd rfl (by first | exact Or.inl rfl | exact Or.inr rfl)) (qgs_cons (qg_nm (i := 2) sc.nd rfl (by first | exact Or.inl rfl | exact Or.inr rfl)) qgs_nil))))
    (qss_cons (qs_set (i := 3) sc.nd rfl (by first | exact Or.inl rfl | exact Or.inr rfl) (qe_lstC qa_nil))
    (qss_cons (qs_set (i := 4) sc.nd rfl (by first | exact Or.inl rfl | exact Or.inr rfl) (qe_lstC qa_nil))
    (qss_cons (qs_for (passes_of rfl) rfl (qi_enumK (by rfl) n_enumerate (qa_cons (qe_var (pv 1)) qa_nil) (qk_cons qe_int qk_nil)) (qg_tp rfl (qgs_cons (qg_nm (i := 5) sc.nd rfl (by first | exact Or.inl rfl | exact Or.inr rfl)) (qgs_cons (qg_nm (i := 6) sc.nd rfl (by first | exact Or.inl rfl | exact Or.inr rfl)) qgs_nil))) (qss_one (qs_if (qt_not (qt_val (qc_call k_read_line cn (hr.mono (by decide)) (by rfl) (qa_cons (qe_var (pv 6)) (qa_cons (qe_var (pv 3)) (qa_cons (qe_var (pv 4)) qa_nil)))))) (qss_one (qs_raiseX x_InvalidText cn rfl (hr.mono (by decide)) (by rfl) (qa_cons (qe_var (pv 5)) qa_nil))) qss_nil)))
    (qss_cons (qs_if (QW.qt (qw_or (qt_ne (hu66 hr) (qe_var (pv 2)) qe_str) (qw_or1 (qt_eq (hu66 hr) (qe_var (pv 3)) (qe_lst qa_nil))))) (qss_one (qs_raiseX x_InvalidText cn rfl (hr.mono (by decide)) (by rfl) (qa_cons (qe_add (qe_len (qa_cons (qe_var (pv 1)) qa_nil) (by rfl) (by rfl) (by rfl) n_len) qe_int) qa_nil))) qss_nil)
    (qss_frz (i := 4) (qss_frz (i := 3) (qss_one (qs_ret (qe_frz (qc_make k_Graph cn (hr.mono (by decide)) (by rfl) (qa_cons (qe_var (pv 3)) (qa_cons (qe_var (pv 4)) qa_nil))))))))))))))) fun _ _ _ _ h => h.2
theorem cal_load_graph {Cs : List Addr} {C_InvalidText : Addr} {C_Graph : Addr} {sp_read_line sp_Graph : SpT} {f : Addr} {fd : FuncData} {kws : List (Str × V)} (F : FunD K "load_graph" "load_graph" (defArgs st_load_graph) (defBody st_load_graph) (defScope st_load_graph) [] kws f fd) (m : mg "load_graph" = some (.ref f)) (n_str : mg "str" = none) (n_isinstance : mg "isinstance" = none) (hCs : ∀ C ∈ Cs, ClsI K C) (x_InvalidText : CalX P w K mg base "InvalidText" C_InvalidText 1 ["line"] [.int]) (n_enumerate : mg "enumerate" = none) (k_read_line : Cal P w K mg base "read_line" lv_read_line ps_read_line sp_read_line) (n_len : mg "len" = none) (k_Graph : CalC P w K mg base "Graph" C_Graph lv_Graph_init ps_Graph_init sp_Graph []) :
    Cal P w K mg base "load_graph" lv_load_graph ps_load_graph (sp0_load_graph Cs K C_InvalidText C_Graph sp_read_line sp_Graph) :=
  ⟨f, fd, m, F.kp, F.bindsN fun _ _ _ _ _ _ us hl => match us, hl with | [_], _ => rfl, ok_load_graph F n_str n_isinstance hCs x_InvalidText n_enumerate k_read_line n_len k_Graph⟩
abbrev st_law_pot : Stmt := top 24
theorem sc_law_pot : FnScope N_law_pot ps_law_pot (defScope st_law_pot) := ⟨rfl, rfl, rfl, by decide +kernel, rfl, by decide +kernel, by decide +kernel⟩
theorem ok_law_pot {f : Addr} {fd : FuncData} {dvs : List V} {kws : List (Str × V)} (F : FunD K "_law_pot" "_law_pot" (defArgs st_law_pot) (defBody st_law_pot) (defScope st_law_pot) dvs kws f fd) (n_len : mg "len" = none) (n_abs : mg "abs" = none) (n_max : mg "max" = none) :
    FnG P w K mg base lv_law_pot f fd ps_law_pot (sp0_law_pot ) :=
  have sc := sc_law_pot
  okG F sc (fun _ _ _ _ h => h.1) (fun cdv A outer s H E hr cn =>
    (qss_cons (qs_set (i := 2) sc.nd rfl (by first | exact Or.inl rfl | exact Or.inr rfl) qe_int)
    (qss_cons (qs_if (qt_lt (qe_var (pv 1)) (qe_len (qa_cons (qe_var (pv 0)) qa_nil) (by rfl) (by rfl) (by rfl) n_len)) (qss_one (qs_set (i := 2) sc.nd rfl (by first | exact Or.inl rfl | exact Or.inr rfl) (qe_abs (qa_cons (qe_ix (hu66 hr) (qe_var (pv 0)) (qe_var (pv 1))) qa_nil) (by rfl) (by rfl) (by rfl) n_abs))) qss_nil)
    (qss_one (qs_ret (qe_lstC (qa_cons (qe_max2 (qa_cons qe_int (qa_cons (qe_sub (qe_var (pv 2)) (qe_pow qe_int qe_int)) qa_nil)) (by rfl) (by rfl) rfl (by rfl) n_max) (qa_cons (qe_add (qe_mod (qe_pow (qe_add (qe_add (qe_mod (qe_var (pv 2)) qe_int) (qe_mul qe_int (qe_var (pv 1)))) qe_int) qe_int) qe_int) qe_int) qa_nil)))))))) fun _ _ _ _ h => h.2
theorem cal_law_pot {f : Addr} {fd : FuncData} {kws : List (Str × V)} (F : FunD K "_law_pot" "_law_pot" (defArgs st_law_pot) (defBody st_law_pot) (defScope st_law_pot) [] kws f fd) (m : mg "_law_pot" = some (.ref f)) (n_len : mg "len" = none) (n_abs : mg "abs" = none) (n_max : mg "max" = none) :
    Cal P w K mg base "_law_pot" lv_law_pot ps_law_pot (sp0_law_pot ) :=
  ⟨f, fd, m, F.kp, F.bindsN fun _ _ _ _ _ _ us hl => match us, hl with | [_, _], _ => rfl, ok_law_pot F n_len n_abs n_max⟩
abbrev st_law_draw : Stmt := top 25
theorem sc_law_draw : FnScope N_law_draw ps_law_draw (defScope st_law_draw) := ⟨rfl, rfl, rfl, by decide +kernel, rfl, by decide +kernel, by decide +kernel⟩
theorem ok_law_draw {f : Addr} {fd : FuncData} {dvs : List V} {kws : List (Str × V)} (F : FunD K "_law_draw" "_law_draw" (defArgs st_law_draw) (defBody st_law_draw) (defScope st_law_draw) dvs kws f fd) (n_divmod : mg "divmod" = none) :
    FnG P w K mg base lv_law_draw f fd ps_law_draw (sp0_law_draw ) :=
  have sc := sc_law_draw
  okG F sc (fun _ _ _ _ h => h.1) (fun cdv A outer s H E hr cn =>
    (qss_cons (qs_if (qt_gt (qe_ix (hu66 hr) (qe_var (pv 0)) qe_int) qe_int) (qss_cons (qs_putNm (j := 2) (hu_of hr) rfl sc.nd rfl (by first | exact Or.inl rfl | exact Or.inr rfl) (qe_var (pv 0)) qe_int (qe_dvm (qa_cons (qe_ix (hu66 hr) (qe_var (pv 0)) qe_int) (qa_cons (qe_var (pv 1)) qa_nil)) (by rfl) (by rfl) (by rfl) n_divmod))
    (qss_one (qs_ret (qe_var (pv 2))))) qss_nil)
    (qss_cons (qs_put (hu_of hr) (qe_var (pv 0)) qe_int (qe_mod (qe_add (qe_mul (qe_ix (hu66 hr) (qe_var (pv 0)) qe_int) qe_int) qe_int) qe_int))
    (qss_one (qs_ret (qe_mod (qe_div (qe_mod (qe_mul (qe_ix (hu66 hr) (qe_var (pv 0)) qe_int) (qe_ix (hu66 hr) (qe_var (pv 0)) qe_int)) qe_int) qe_int) (qe_var (pv 1)))))))) fun _ _ _ _ h => h.2
theorem cal_law_draw {f : Addr} {fd : FuncData} {kws : List (Str × V)} (F : FunD K "_law_draw" "_law_draw" (defArgs st_law_draw) (defBody st_law_draw) (defScope st_law_draw) [] kws f fd) (m : mg "_law_draw" = some (.ref f)) (n_divmod : mg "divmod" = none) :
    Cal P w K mg base "_law_draw" lv_law_draw ps_law_draw (sp0_law_draw ) :=
  ⟨f, fd, m, F.kp, F.bindsN fun _ _ _ _ _ _ us hl => match us, hl with | [_, _], _ => rfl, ok_law_draw F n_divmod⟩
abbrev st_law_choice : Stmt := top 26
theorem sc_law_choice : FnScope N_law_choice ps_law_choice (defScope st_law_choice) := ⟨rfl, rfl, rfl, by decide +kernel, rfl, by decide +kernel, by decide +kernel⟩
theorem ok_law_choice {sp__law_draw : SpT} {f : Addr} {fd : FuncData} {dvs : List V} {kws : List (Str × V)} (F : FunD K "_law_choice" "_law_choice" (defArgs st_law_choice) (defBody st_law_choice) (defScope st_law_choice) dvs kws f fd) (k__law_draw : Cal P w K mg base "_law_draw" lv_law_draw ps_law_draw sp__law_draw) (n_len : mg "len" = none) :
    FnG P w K mg base lv_law_choice f fd ps_law_choice (sp0_law_choice sp__law_draw) :=
  have sc := sc_law_choice
  okG F sc (fun _ _ _ _ h => h.1) (fun cdv A outer s H E hr cn =>
    (qss_one (qs_ret (qe_ix (hu66 hr) (qe_var (pv 1)) (qc_call k__law_draw cn (hr.mono (by decide)) (by rfl) (qa_cons (qe_var (pv 0)) (qa_cons (qe_len (qa_cons (qe_var (pv 1)) qa_nil) (by rfl) (by rfl) (by rfl) n_len) qa_nil))))))) fun _ _ _ _ h => h.2
theorem cal_law_choice {sp__law_draw : SpT} {f : Addr} {fd : FuncData} {kws : List (Str × V)} (F : FunD K "_law_choice" "_law_choice" (defArgs st_law_choice) (defBody st_law_choice) (defScope st_law_choice) [] kws f fd) (m : mg "_law_choice" = some (.ref f)) (k__law_draw : Cal P w K mg base "_law_draw" lv_law_draw ps_law_draw sp__law_draw) (n_len : mg "len" = none) :
    Cal P w K mg base "_law_choice" lv_law_choice ps_law_choice (sp0_law_choice sp__law_draw) :=
  ⟨f, fd, m, F.kp, F.bindsN fun _ _ _ _ _ _ us hl => match us, hl with | [_, _], _ => rfl, ok_law_choice F k__law_draw n_len⟩
abbrev st_law_name : Stmt := top 27
theorem sc_law_name : FnScope N_law_name ps_law_name (defScope st_law_name) := ⟨rfl, rfl, rfl, by decide +kernel, rfl, by decide +kernel, by decide +kernel⟩
theorem ok_law_name {sp__law_draw : SpT} {f : Addr} {fd : FuncData} {dvs : List V} {kws : List (Str × V)} (F : FunD K "_law_name" "_law_name" (defArgs st_law_name) (defBody st_law_name) (defScope st_law_name) dvs kws f fd) (k__law_draw : Cal P w K mg base "_law_draw" lv_law_draw ps_law_draw sp__law_draw) (n_range : mg "range" = none) (n_zip : mg "zip" = none) :
    FnG P w K mg base lv_law_name f fd ps_law_name (sp0_law_name sp__law_draw) :=
  have sc := sc_law_name
  okG F sc (fun _ _ _ _ h => h.1) (fun cdv A outer s H E hr cn =>
    (qss_cons (qs_set (i := 2) sc.nd rfl (by first | exact Or.inl rfl | exact Or.inr rfl) qe_str)
    (qss_cons (qs_set (i := 3) sc.nd rfl (by first | exact Or.inl rfl | exact Or.inr rfl) (qe_ix (hu66 hr) (qe_lst (qa_cons qe_int (qa_cons qe_int (qa_cons qe_int (qa_cons qe_int (qa_cons (qe_add qe_int (qc_call k__law_draw cn (hr.mono (by decide)) (by rfl) (qa_cons (qe_var (pv 0)) (qa_cons qe_int qa_nil)))) qa_nil)))))) (qc_call k__law_draw cn (hr.mono (by decide)) (by rfl) (qa_cons (qe_var (pv 0)) (qa_cons qe_int qa_nil)))))
    (qss_cons (qs_set (i := 4) sc.nd rfl (by first | exact Or.inl rfl | exact Or.inr rfl) (qe_join qe_str (qe_lc rfl sc.nd (qi_rng (by rfl) n_range (qa_cons (qe_var (pv 3)) qa_nil)) (blkOk_by (own := [("turn", 5)]) (by rfl)) (by simp [TgN.ins, TgL.ins]) (fun _ _ _ _ _ => (qg_nm (i := 5) sc.nd rfl (by first | exact Or.inl rfl | exact Or.inr rfl))) (fun _ _ _ _ _ => qts_nil) (fun _ _ _ _ _ => (qe_ix (hu66 hr) (qe_var (pv 2)) (qc_call k__law_draw cn.blk (hr.mono (by decide)) (by rfl) (qa_cons (qe_var (pv 0)) (qa_cons qe_int qa_nil))))))))
    (qss_cons (qs_if (qt_eq (hu66 hr) (qc_call k__law_draw cn (hr.mono (by decide)) (by rfl) (qa_cons (qe_var (pv 0)) (qa_cons qe_int qa_nil))) qe_int) (qss_one (qs_set (i := 4) sc.nd rfl (by first | exact Or.inl rfl | exact Or.inr rfl) (qe_ix (hu66 hr) (qe_lst (qa_cons qe_str (qa_cons qe_str (qa_cons qe_str (qa_cons qe_str (qa_cons qe_str (qa_cons qe_str (qa_cons qe_str (qa_cons qe_str qa_nil))))))))) (qc_call k__law_draw cn (hr.mono (by decide)) (by rfl) (qa_cons (qe_var (pv 0)) (qa_cons qe_int qa_nil)))))) qss_nil)
    (qss_cons (qs_if (qt_in (hu66 hr) (qe_var (pv 4)) (qe_var (pv 1))) (qss_one (qs_ret (qe_ix (hu66 hr) (qe_lc rfl sc.nd (qi_zip (by rfl) n_zip (qa_cons (qe_var (pv 2)) (qa_cons (qe_revS (qe_var (pv 2))) qa_nil))) (blkOk_by (own := [("one", 6), ("other", 7)]) (by rfl)) (by simp [TgN.ins, TgL.ins]) (fun _ _ _ _ _ => (qg_tp rfl (qgs_cons (qg_nm (i := 6) sc.nd rfl (by first | exact Or.inl rfl | exact Or.inr rfl)) (qgs_cons (qg_nm (i := 7) sc.nd rfl (by first | exact Or.inl rfl | exact Or.inr rfl)) qgs_nil)))) (fun _ _ _ _ _ => (qts_one (qt_notIn (hu66 hr) (qe_add (qe_add (qe_var (pv 6)) (qe_var (pv 7))) qe_str) (qe_var (pv 1))))) (fun _ _ _ _ _ => (qe_add (qe_add (qe_var (pv 6)) (qe_var (pv 7))) qe_str))) qe_int))) qss_nil)
    (qss_one (qs_ret (qe_var (pv 4)))))))))) fun _ _ _ _ h => h.2
theorem cal_law_name {sp__law_draw : SpT} {f : Addr} {fd : FuncData} {kws : List (Str × V)} (F : FunD K "_law_name" "_law_name" (defArgs st_law_name) (defBody st_law_name) (defScope st_law_name) [] kws f fd) (m : mg "_law_name" = some (.ref f)) (k__law_draw : Cal P w K mg base "_law_draw" lv_law_draw ps_law_draw sp__law_draw) (n_range : mg "range" = none) (n_zip : mg "zip" = none) :
    Cal P w K mg base "_law_name" lv_law_name ps_law_name (sp0_law_name sp__law_draw) :=
  ⟨f, fd, m, F.kp, F.bindsN fun _ _ _ _ _ _ us hl => match us, hl with | [_, _], _ => rfl, ok_law_name F k__law_draw n_range n_zip⟩
abbrev st_law_names : Stmt := top 28
theorem sc_law_names : FnScope N_law_names ps_law_names (defScope st_law_names) := ⟨rfl, rfl, rfl, by decide +kernel, rfl, by decide +kernel, by decide +kernel⟩
theorem ok_law_names {sp__law_name : SpT} {f : Addr} {fd : FuncData} {dvs : List V} {kws : List (Str × V)} (F : FunD K "_law_names" "_law_names" (defArgs st_law_names) (defBody st_law_names) (defScope st_law_names) dvs kws f fd) (n_range : mg "range" = none) (k__law_name : Cal P w K mg base "_law_name" lv_law_name ps_law_name sp__law_name) :
    FnG P w K mg base lv_law_names f fd ps_law_names (sp0_law_names sp__law_name) :=
  have sc := sc_law_names
  okG F sc (fun _ _ _ _ h => h.1) (fun cdv A outer s H E hr cn =>
    (qss_cons (qs_set (i := 2) sc.nd rfl (by first | exact Or.inl rfl | exact Or.inr rfl) (qe_lstC qa_nil))
    (qss_cons (qs_for (passes_of rfl) rfl (qi_rng (by rfl) n_range (qa_cons (qe_var (pv 1)) qa_nil)) (qg_nm (i := 3) sc.nd rfl (by first | exact Or.inl rfl | exact Or.inr rfl)) (qss_one (qs_expr (qe_lm sl_append PySem.F.slot_list_append PySem.F.type_list_append mt_append (qe_var (pv 2)) (qa_cons (qc_call k__law_name cn (hr.mono (by decide)) (by rfl) (qa_cons (qe_var (pv 0)) (qa_cons (qe_var (pv 2)) qa_nil))) qa_nil)))))
    (qss_frz (i := 2) (qss_one (qs_ret (qe_var (pv 2)))))))) fun _ _ _ _ h => h.2
theorem cal_law_names {sp__law_name : SpT} {f : Addr} {fd : FuncData} {kws : List (Str × V)} (F : FunD K "_law_names" "_law_names" (defArgs st_law_names) (defBody st_law_names) (defScope st_law_names) [] kws f fd) (m : mg "_law_names" = some (.ref f)) (n_range : mg "range" = none) (k__law_name : Cal P w K mg base "_law_name" lv_law_name ps_law_name sp__law_name) :
    Cal P w K mg base "_law_names" lv_law_names ps_law_names (sp0_law_names sp__law_name) :=
  ⟨f, fd, m, F.kp, F.bindsN fun _ _ _ _ _ _ us hl => match us, hl with | [_, _], _ => rfl, ok_law_names F n_range k__law_name⟩
abbrev st_law_mixed : Stmt := top 29
theorem sc_law_mixed : FnScope N_law_mixed ps_law_mixed (defScope st_law_mixed) := ⟨rfl, rfl, rfl, by decide +kernel, rfl, by decide +kernel, by decide +kernel⟩
theorem ok_law_mixed {sp__law_draw : SpT} {f : Addr} {fd : FuncData} {dvs : List V} {kws : List (Str × V)} (F : FunD K "_law_mixed" "_law_mixed" (defArgs st_law_mixed) (defBody st_law_mixed) (defScope st_law_mixed) dvs kws f fd) (n_list : mg "list" = none) (k__law_draw : Cal P w K mg base "_law_draw" lv_law_draw ps_law_draw sp__law_draw) (n_len : mg "len" = none) :
    FnG P w K mg base lv_law_mixed f fd ps_law_mixed (sp0_law_mixed sp__law_draw) :=
  have sc := sc_law_mixed
  okG F sc (fun _ _ _ _ h => h.1) (fun cdv A outer s H E hr cn =>
    (qss_cons (qs_par (i := 2) (j := 3) rfl sc.nd rfl rfl (by decide) rfl rfl (qa_cons (qe_listC (qa_cons (qe_var (pv 1)) qa_nil) (by rfl) (by rfl) (by rfl) n_list) (qa_cons (qe_lstC qa_nil) qa_nil)) (by rfl))
    (qss_cons (qs_while (passes_of rfl) (qt_ne (hu66 hr) (qe_var (pv 2)) (qe_lst qa_nil)) (qss_one (qs_expr (qe_lm sl_append PySem.F.slot_list_append PySem.F.type_list_append mt_append (qe_var (pv 3)) (qa_cons (qe_lm sl_popAt PySem.F.slot_list_pop PySem.F.type_list_pop mt_popAt (qe_var (pv 2)) (qa_cons (qc_call k__law_draw cn (hr.mono (by decide)) (by rfl) (qa_cons (qe_var (pv 0)) (qa_cons (qe_len (qa_cons (qe_var (pv 2)) qa_nil) (by rfl) (by rfl) (by rfl) n_len) qa_nil))) qa_nil)) qa_nil)))))
    (qss_frz (i := 3) (qss_frz (i := 2) (qss_one (qs_ret (qe_var (pv 3))))))))) fun _ _ _ _ h => h.2
theorem cal_law_mixed {sp__law_draw : SpT} {f : Addr} {fd : FuncData} {kws : List (Str × V)} (F : FunD K "_law_mixed" "_law_mixed" (defArgs st_law_mixed) (defBody st_law_mixed) (defScope st_law_mixed) [] kws f fd) (m : mg "_law_mixed" = some (.ref f)) (n_list : mg "list" = none) (k__law_draw : Cal P w K mg base "_law_draw" lv_law_draw ps_law_draw sp__law_draw) (n_len : mg "len" = none) :
    Cal P w K mg base "_law_mixed" lv_law_mixed ps_law_mixed (sp0_law_mixed sp__law_draw) :=
  ⟨f, fd, m, F.kp, F.bindsN fun _ _ _ _ _ _ us hl => match us, hl with | [_, _], _ => rfl, ok_law_mixed F n_list k__law_draw n_len⟩
abbrev st_law_graph : Stmt := top 30
theorem sc_law_graph : FnScope N_law_graph ps_law_graph (defScope st_law_graph) := ⟨rfl, rfl, rfl, by decide +kernel, rfl, by decide +kernel, by decide +kernel⟩
theorem ok_law_graph {sp__law_names sp__law_draw sp__law_mixed : SpT} {f : Addr} {fd : FuncData} {dvs : List V} {kws : List (Str × V)} (F : FunD K "_law_graph" "_law_graph" (defArgs st_law_graph) (defBody st_law_graph) (defScope st_law_graph) dvs kws f fd) (k__law_names : Cal P w K mg base "_law_names" lv_law_names ps_law_names sp__law_names) (k__law_draw : Cal P w K mg base "_law_draw" lv_law_draw ps_law_draw sp__law_draw) (n_min : mg "min" = none) (k__law_mixed : Cal P w K mg base "_law_mixed" lv_law_mixed ps_law_mixed sp__law_mixed) (n_len : mg "len" = none) (n_range : mg "range" = none) :
    FnG P w K mg base lv_law_graph f fd ps_law_graph (sp0_law_graph sp__law_names sp__law_draw sp__law_mixed) :=
  have sc := sc_law_graph
  okG F sc (fun _ _ _ _ h => h.1) (fun cdv A outer s H E hr cn =>
    (qss_cons (qs_set (i := 2) sc.nd rfl (by first | exact Or.inl rfl | exact Or.inr rfl) (qc_call k__law_names cn (hr.mono (by decide)) (by rfl) (qa_cons (qe_var (pv 0)) (qa_cons (qe_ix (hu66 hr) (qe_lst (qa_cons (qe_var (pv 1)) (qa_cons (qe_add qe_int (qc_call k__law_draw cn (hr.mono (by decide)) (by rfl) (qa_cons (qe_var (pv 0)) (qa_cons (qe_var (pv 1)) qa_nil)))) (qa_cons (qe_add qe_int (qc_call k__law_draw cn (hr.mono (by decide)) (by rfl) (qa_cons (qe_var (pv 0)) (qa_cons (qe_min2 (qa_cons qe_int (qa_cons (qe_var (pv 1)) qa_nil)) (by rfl) (by rfl) rfl (by rfl) n_min) qa_nil)))) qa_nil)))) (qc_call k__law_draw cn (hr.mono (by decide)) (by rfl) (qa_cons (qe_var (pv 0)) (qa_cons qe_int qa_nil)))) qa_nil))))
    (qss_cons (qs_asg (qe_tup (qa_cons (qc_call k__law_mixed cn (hr.mono (by decide)) (by rfl) (qa_cons (qe_var (pv 0)) (qa_cons (qe_var (pv 2)) qa_nil))) (qa_cons (qc_call k__law_draw cn (hr.mono (by decide)) (by rfl) (qa_cons (qe_var (pv 0)) (qa_cons qe_int qa_nil))) (qa_cons (qe_lst qa_nil) qa_nil)))) (qg_tp rfl (qgs_cons (qg_nm (i := 3) sc.nd rfl (by first | exact Or.inl rfl | exact Or.inr rfl)) (qgs_cons (qg_nm (i := 4) sc.nd rfl (by first | exact Or.inl rfl | exact Or.inr rfl)) (qgs_cons (qg_nm (i := 5) sc.nd rfl (by first | exact Or.inl rfl | exact Or.inr rfl)) qgs_nil)))))
    (qss_cons (qs_for (passes_of rfl) rfl (qi_rng2 (by rfl) n_range (qa_cons qe_int (qa_cons (qe_len (qa_cons (qe_var (pv 3)) qa_nil) (by rfl) (by rfl) (by rfl) n_len) qa_nil))) (qg_nm (i := 6) sc.nd rfl (by first | exact Or.inl rfl | exact Or.inr rfl)) (qss_cons (qs_setLc (i := 7) rfl sc.nd rfl rfl (sw_true rfl rfl rfl rfl) (qi_rng (by rfl) n_range (qa_cons (qe_var (pv 6)) qa_nil)) (blkOk_by (own := [("low", 8)]) (by rfl)) (by simp [TgN.ins, TgL.ins]) (fun _ _ _ _ _ => (qg_nm (i := 8) sc.nd rfl (by first | exact Or.inl rfl | exact Or.inr rfl))) (fun _ _ _ _ _ => (qts_one (qt_eq (hu66 hr) (qc_call k__law_draw cn.blk (hr.mono (by decide)) (by rfl) (qa_cons (qe_var (pv 0)) (qa_cons qe_int qa_nil))) qe_int))) (fun _ _ _ _ _ => (qe_var (pv 8))))
    (qss_cons (qs_set (i := 7) sc.nd rfl (by first | exact Or.inl rfl | exact Or.inr rfl) (qe_ix (hu66 hr) (qe_lst (qa_cons (qe_var (pv 7)) (qa_cons (qe_lst (qa_cons (qe_sub (qe_var (pv 6)) qe_int) qa_nil)) (qa_cons (qe_lst qa_nil) (qa_cons (qe_lst (qa_cons (qe_div (qe_sub (qe_var (pv 6)) qe_int) qe_int) qa_nil)) qa_nil))))) (qe_var (pv 4))))
    (qss_one (qs_set (i := 5) sc.nd rfl (by first | exact Or.inl rfl | exact Or.inr rfl) (qe_add (qe_var (pv 5)) (qe_lc rfl sc.nd (qi_seq (qe_var (pv 7))) (blkOk_by (own := [("low", 8)]) (by rfl)) (by simp [TgN.ins, TgL.ins]) (fun _ _ _ _ _ => (qg_nm (i := 8) sc.nd rfl (by first | exact Or.inl rfl | exact Or.inr rfl))) (fun _ _ _ _ _ => qts_nil) (fun _ _ _ _ _ => (qe_tup (qa_cons (qe_ix (hu66 hr) (qe_var (pv 3)) (qe_var (pv 8))) (qa_cons (qe_ix (hu66 hr) (qe_var (pv 3)) (qe_var (pv 6))) qa_nil)))))))))))
    (qss_one (qs_ret (qe_tup (qa_cons (qe_var (pv 2)) (qa_cons (qc_call k__law_mixed cn (hr.mono (by decide)) (by rfl) (qa_cons (qe_var (pv 0)) (qa_cons (qe_var (pv 5)) qa_nil))) qa_nil))))))))) fun _ _ _ _ h => h.2
theorem cal_law_graph {sp__law_names sp__law_draw sp__law_mixed : SpT} {f : Addr} {fd : FuncData} {kws : List (Str × V)} (F : FunD K "_law_graph" "_law_graph" (defArgs st_law_graph) (defBody st_law_graph) (defScope st_law_graph) [] kws f fd) (m : mg "_law_graph" = some (.ref f)) (k__law_names : Cal P w K mg base "_law_names" lv_law_names ps_law_names sp__law_names) (k__law_draw : Cal P w K mg base "_law_draw" lv_law_draw ps_law_draw sp__law_draw) (n_min : mg "min" = none) (k__law_mixed : Cal P w K mg base "_law_mixed" lv_law_mixed ps_law_mixed sp__law_mixed) (n_len : mg "len" = none) (n_range : mg "range" = none) :
    Cal P w K mg base "_law_graph" lv_law_graph ps_law_graph (sp0_law_graph sp__law_names sp__law_draw sp__law_mixed) :=
  ⟨f, fd, m, F.kp, F.bindsN fun _ _ _ _ _ _ us hl => match us, hl with | [_, _], _ => rfl, ok_law_graph F k__law_names k__law_draw n_min k__law_mixed n_len n_range⟩
abbrev st_law_is_name : Stmt := top 32
theorem sc_law_is_name : FnScope N_law_is_name ps_law_is_name (defScope st_law_is_name) := ⟨rfl, rfl, rfl, by decide +kernel, rfl, by decide +kernel, by decide +kernel⟩
theorem ok_law_is_name {f : Addr} {fd : FuncData} {dvs : List V} {kws : List (Str × V)} (F : FunD K "_law_is_name" "_law_is_name" (defArgs st_law_is_name) (defBody st_law_is_name) (defScope st_law_is_name) dvs kws f fd) (n_len : mg "len" = none) :
    FnG P w K mg base lv_law_is_name f fd ps_law_is_name (sp0_law_is_name ) :=
  have sc := sc_law_is_name
  okG F sc (fun _ _ _ _ h => h.1) (fun cdv A outer s H E hr cn =>
    (qss_one (qs_ret (qe_and (qe_chain sim_cmp sim_cmp op_leV op_leV qe_int (qe_len (qa_cons (qe_var (pv 0)) qa_nil) (by rfl) (by rfl) (by rfl) n_len) qe_int) (qe_one (qe_eq (hu66 hr) (qe_lc rfl sc.nd (qi_seq (qe_var (pv 0))) (blkOk_by (own := [("sign", 1)]) (by rfl)) (by simp [TgN.ins, TgL.ins]) (fun _ _ _ _ _ => (qg_nm (i := 1) sc.nd rfl (by first | exact Or.inl rfl | exact Or.inr rfl))) (fun _ _ _ _ _ => (qts_one (qt_notIn (hu66 hr) (qe_var (pv 1)) qe_str))) (fun _ _ _ _ _ => (qe_var (pv 1)))) (qe_lst qa_nil))))))) fun _ _ _ _ h => h.2
theorem cal_law_is_name {f : Addr} {fd : FuncData} {kws : List (Str × V)} (F : FunD K "_law_is_name" "_law_is_name" (defArgs st_law_is_name) (defBody st_law_is_name) (defScope st_law_is_name) [] kws f fd) (m : mg "_law_is_name" = some (.ref f)) (n_len : mg "len" = none) :
    Cal P w K mg base "_law_is_name" lv_law_is_name ps_law_is_name (sp0_law_is_name ) :=
  ⟨f, fd, m, F.kp, F.bindsN fun _ _ _ _ _ _ us hl => match us, hl with | [_], _ => rfl, ok_law_is_name F n_len⟩
abbrev st_law_leads : Stmt := top 33
theorem sc_law_leads : FnScope N_law_leads ps_law_leads (defScope st_law_leads) := ⟨rfl, rfl, rfl, by decide +kernel, rfl, by decide +kernel, by decide +kernel⟩
theorem ok_law_leads {f : Addr} {fd : FuncData} {dvs : List V} {kws : List (Str × V)} (F : FunD K "_law_leads" "_law_leads" (defArgs st_law_leads) (defBody st_law_leads) (defScope st_law_leads) dvs kws f fd) (n_len : mg "len" = none) :
    FnG P w K mg base lv_law_leads f fd ps_law_leads (sp0_law_leads ) :=
  have sc := sc_law_leads
  okG F sc (fun _ _ _ _ h => h.1) (fun cdv A outer s H E hr cn =>
    (qss_cons (qs_asg (qe_tup (qa_cons (qe_lst (qa_cons (qe_var (pv 1)) qa_nil)) (qa_cons qe_int qa_nil))) (qg_tp rfl (qgs_cons (qg_nm (i := 3) sc.nd rfl (by first | exact Or.inl rfl | exact Or.inr rfl)) (qgs_cons (qg_nm (i := 4) sc.nd rfl (by first | exact Or.inl rfl | exact Or.inr rfl)) qgs_nil))))
    (qss_cons (qs_while (passes_of rfl) (qt_lt (qe_var (pv 4)) (qe_len (qa_cons (qe_var (pv 3)) qa_nil) (by rfl) (by rfl) (by rfl) n_len)) (qss_cons (qs_set (i := 3) sc.nd rfl (by first | exact Or.inl rfl | exact Or.inr rfl) (qe_add (qe_var (pv 3)) (qe_lc rfl sc.nd (qi_seq (qe_var (pv 0))) (blkOk_by (own := [("low", 5), ("high", 6)]) (by rfl)) (by simp [TgN.ins, TgL.ins]) (fun _ _ _ _ _ => (qg_tp rfl (qgs_cons (qg_nm (i := 5) sc.nd rfl (by first | exact Or.inl rfl | exact Or.inr rfl)) (qgs_cons (qg_nm (i := 6) sc.nd rfl (by first | exact Or.inl rfl | exact Or.inr rfl)) qgs_nil)))) (fun _ _ _ _ _ => (qts_one (QW.qt (qw_and (qt_eq (hu66 hr) (qe_var (pv 5)) (qe_ix (hu66 hr) (qe_var (pv 3)) (qe_var (pv 4)))) (qw_and1 (qt_notIn (hu66 hr) (qe_var (pv 6)) (qe_var (pv 3)))))))) (fun _ _ _ _ _ => (qe_var (pv 6))))))
    (qss_one (qs_set (i := 4) sc.nd rfl (by first | exact Or.inl rfl | exact Or.inr rfl) (qe_add (qe_var (pv 4)) qe_int)))))
    (qss_one (qs_ret (qe_in (hu66 hr) (qe_var (pv 2)) (qe_var (pv 3)))))))) fun _ _ _ _ h => h.2
theorem cal_law_leads {f : Addr} {fd : FuncData} {kws : List (Str × V)} (F : FunD K "_law_leads" "_law_leads" (defArgs st_law_leads) (defBody st_law_leads) (defScope st_law_leads) [] kws f fd) (m : mg "_law_leads" = some (.ref f)) (n_len : mg "len" = none) :
    Cal P w K mg base "_law_leads" lv_law_leads ps_law_leads (sp0_law_leads ) :=
  ⟨f, fd, m, F.kp, F.bindsN fun _ _ _ _ _ _ us hl => match us, hl with | [_, _, _], _ => rfl, ok_law_leads F n_len⟩
abbrev st_law_line_fits : Stmt := top 34
theorem sc_law_line_fits : FnScope N_law_line_fits ps_law_line_fits (defScope st_law_line_fits) := ⟨rfl, rfl, rfl, by decide +kernel, rfl, by decide +kernel, by decide +kernel⟩
theorem ok_law_line_fits {sp__law_is_name sp__law_leads : SpT} {f : Addr} {fd : FuncData} {dvs : List V} {kws : List (Str × V)} (F : FunD K "_law_line_fits" "_law_line_fits" (defArgs st_law_line_fits) (defBody st_law_line_fits) (defScope st_law_line_fits) dvs kws f fd) (n_len : mg "len" = none) (k__law_is_name : Cal P w K mg base "_law_is_name" lv_law_is_name ps_law_is_name sp__law_is_name) (n_tuple : mg "tuple" = none) (k__law_leads : Cal P w K mg base "_law_leads" lv_law_leads ps_law_leads sp__law_leads) :
    FnG P w K mg base lv_law_line_fits f fd ps_law_line_fits (sp0_law_line_fits sp__law_is_name sp__law_leads) :=
  have sc := sc_law_line_fits
  okG F sc (fun _ _ _ _ h => h.1) (fun cdv A outer s H E hr cn =>
    (qss_cons (qs_set (i := 3) sc.nd rfl (by first | exact Or.inl rfl | exact Or.inr rfl) (qe_split (qe_var (pv 0)) qe_str))
    (qss_cons (qs_if (qt_eq (hu66 hr) (qe_ix (hu66 hr) (qe_var (pv 3)) qe_int) qe_str) (qss_cons (qs_if (QW.qt (qw_or (qt_ne (hu66 hr) (qe_len (qa_cons (qe_var (pv 3)) qa_nil) (by rfl) (by rfl) (by rfl) n_len) qe_int) (qw_or (qt_ne (hu66 hr) (qe_var (pv 2)) (qe_lst qa_nil)) (qw_or1 (qt_eq (hu66 hr) (qe_len (qa_cons (qe_var (pv 1)) qa_nil) (by rfl) (by rfl) (by rfl) n_len) qe_int))))) (qss_one (qs_ret qe_bl)) qss_nil)
    (qss_cons (qs_if (QW.qt (qw_or (qt_not (qt_val (qc_call k__law_is_name cn (hr.mono (by decide)) (by rfl) (qa_cons (qe_ix (hu66 hr) (qe_var (pv 3)) qe_int) qa_nil)))) (qw_or1 (qt_in (hu66 hr) (qe_ix (hu66 hr) (qe_var (pv 3)) qe_int) (qe_var (pv 1)))))) (qss_one (qs_ret qe_bl)) qss_nil)
    (qss_cons (qs_expr (qe_lm sl_append PySem.F.slot_list_append PySem.F.type_list_append mt_append (qe_var (pv 1)) (qa_cons (qe_ix (hu66 hr) (qe_var (pv 3)) qe_int) qa_nil)))
    (qss_one (qs_ret qe_bl))))) qss_nil)
    (qss_cons (qs_if (QW.qt (qw_or (qt_ne (hu66 hr) (qe_ix (hu66 hr) (qe_var (pv 3)) qe_int) qe_str) (qw_or (qt_ne (hu66 hr) (qe_len (qa_cons (qe_var (pv 3)) qa_nil) (by rfl) (by rfl) (by rfl) n_len) qe_int) (qw_or (qt_notIn (hu66 hr) (qe_ix (hu66 hr) (qe_var (pv 3)) qe_int) (qe_var (pv 1))) (qw_or1 (qt_notIn (hu66 hr) (qe_ix (hu66 hr) (qe_var (pv 3)) qe_int) (qe_var (pv 1)))))))) (qss_one (qs_ret qe_bl)) qss_nil)
    (qss_cons (qs_if (QW.qt (qw_or (qt_in (hu66 hr) (qe_tuple (qa_cons (qe_sl (qe_var (pv 3)) (qo_some qe_int) qo_none) qa_nil) (by rfl) (by rfl) (by rfl) n_tuple) (qe_var (pv 2))) (qw_or1 (qt_val (qc_call k__law_leads cn (hr.mono (by decide)) (by rfl) (qa_cons (qe_var (pv 2)) (qa_cons (qe_ix (hu66 hr) (qe_var (pv 3)) qe_int) (qa_cons (qe_ix (hu66 hr) (qe_var (pv 3)) qe_int) qa_nil)))))))) (qss_one (qs_ret qe_bl)) qss_nil)
    (qss_cons (qs_expr (qe_lm sl_append PySem.F.slot_list_append PySem.F.type_list_append mt_append (qe_var (pv 2)) (qa_cons (qe_tuple (qa_cons (qe_sl (qe_var (pv 3)) (qo_some qe_int) qo_none) qa_nil) (by rfl) (by rfl) (by rfl) n_tuple) qa_nil)))
    (qss_one (qs_ret qe_bl)))))))) fun _ _ _ _ h => h.2
theorem cal_law_line_fits {sp__law_is_name sp__law_leads : SpT} {f : Addr} {fd : FuncData} {kws : List (Str × V)} (F : FunD K "_law_line_fits" "_law_line_fits" (defArgs st_law_line_fits) (defBody st_law_line_fits) (defScope st_law_line_fits) [] kws f fd) (m : mg "_law_line_fits" = some (.ref f)) (n_len : mg "len" = none) (k__law_is_name : Cal P w K mg base "_law_is_name" lv_law_is_name ps_law_is_name sp__law_is_name) (n_tuple : mg "tuple" = none) (k__law_leads : Cal P w K mg base "_law_leads" lv_law_leads ps_law_leads sp__law_leads) :
    Cal P w K mg base "_law_line_fits" lv_law_line_fits ps_law_line_fits (sp0_law_line_fits sp__law_is_name sp__law_leads) :=
  ⟨f, fd, m, F.kp, F.bindsN fun _ _ _ _ _ _ us hl => match us, hl with | [_, _, _], _ => rfl, ok_law_line_fits F n_len k__law_is_name n_tuple k__law_leads⟩
abbrev st_law_expected : Stmt := top 35
theorem sc_law_expected : FnScope N_law_expected ps_law_expected (defScope st_law_expected) := ⟨rfl, rfl, rfl, by decide +kernel, rfl, by decide +kernel, by decide +kernel⟩
theorem ok_law_expected {sp__law_line_fits : SpT} {f : Addr} {fd : FuncData} {dvs : List V} {kws : List (Str × V)} (F : FunD K "_law_expected" "_law_expected" (defArgs st_law_expected) (defBody st_law_expected) (defScope st_law_expected) dvs kws f fd) (n_len : mg "len" = none) (n_range : mg "range" = none) (k__law_line_fits : Cal P w K mg base "_law_line_fits" lv_law_line_fits ps_law_line_fits sp__law_line_fits) :
    FnG P w K mg base lv_law_expected f fd ps_law_expected (sp0_law_expected sp__law_line_fits) :=
  have sc := sc_law_expected
  okG F sc (fun _ _ _ _ h => h.1) (fun cdv A outer s H E hr cn =>
    (qss_cons (qs_par3 (i := 1) (j := 2) (l := 3) rfl sc.nd rfl rfl rfl (by decide) (by decide) (by decide) rfl rfl rfl (qa_cons (qe_split (qe_var (pv 0)) qe_str) (qa_cons (qe_lstC qa_nil) (qa_cons (qe_lstC qa_nil) qa_nil))) (by rfl))
    (qss_cons (qs_for (passes_of rfl) rfl (qi_rng (by rfl) n_range (qa_cons (qe_sub (qe_len (qa_cons (qe_var (pv 1)) qa_nil) (by rfl) (by rfl) (by rfl) n_len) qe_int) qa_nil)) (qg_nm (i := 4) sc.nd rfl (by first | exact Or.inl rfl | exact Or.inr rfl)) (qss_one (qs_if (qt_not (qt_val (qc_call k__law_line_fits cn (hr.mono (by decide)) (by rfl) (qa_cons (qe_ix (hu66 hr) (qe_var (pv 1)) (qe_var (pv 4))) (qa_cons (qe_var (pv 2)) (qa_cons (qe_var (pv 3)) qa_nil)))))) (qss_one (qs_ret (qe_add (qe_var (pv 4)) qe_int))) qss_nil)))
    (qss_one (qs_ret (qe_if (QW.qt (qw_and (qt_eq (hu66 hr) (qe_ix (hu66 hr) (qe_var (pv 1)) (qe_neg qe_int)) qe_str) (qw_and1 (qt_ne (hu66 hr) (qe_var (pv 2)) (qe_lst qa_nil))))) qe_non (qe_len (qa_cons (qe_var (pv 1)) qa_nil) (by rfl) (by rfl) (by rfl) n_len))))))) fun _ _ _ _ h => h.2
theorem cal_law_expected {sp__law_line_fits : SpT} {f : Addr} {fd : FuncData} {kws : List (Str × V)} (F : FunD K "_law_expected" "_law_expected" (defArgs st_law_expected) (defBody st_law_expected) (defScope st_law_expected) [] kws f fd) (m : mg "_law_expected" = some (.ref f)) (n_len : mg "len" = none) (n_range : mg "range" = none) (k__law_line_fits : Cal P w K mg base "_law_line_fits" lv_law_line_fits ps_law_line_fits sp__law_line_fits) :
    Cal P w K mg base "_law_expected" lv_law_expected ps_law_expected (sp0_law_expected sp__law_line_fits) :=
  ⟨f, fd, m, F.kp, F.bindsN fun _ _ _ _ _ _ us hl => match us, hl with | [_], _ => rfl, ok_law_expected F n_len n_range k__law_line_fits⟩
abbrev st_law_odd_line : Stmt := top 36
theorem sc_law_odd_line : FnScope N_law_odd_line ps_law_odd_line (defScope st_law_odd_line) := ⟨rfl, rfl, rfl, by decide +kernel, rfl, by decide +kernel, by decide +kernel⟩
theorem ok_law_odd_line {sp__law_choice sp__law_draw : SpT} {f : Addr} {fd : FuncData} {dvs : List V} {kws : List (Str × V)} (F : FunD K "_law_odd_line" "_law_odd_line" (defArgs st_law_odd_line) (defBody st_law_odd_line) (defScope st_law_odd_line) dvs kws f fd) (k__law_choice : Cal P w K mg base "_law_choice" lv_law_choice ps_law_choice sp__law_choice) (k__law_draw : Cal P w K mg base "_law_draw" lv_law_draw ps_law_draw sp__law_draw) (n_len : mg "len" = none) :
    FnG P w K mg base lv_law_odd_line f fd ps_law_odd_line (sp0_law_odd_line sp__law_choice sp__law_draw) :=
  have sc := sc_law_odd_line
  okG F sc (fun _ _ _ _ h => h.1) (fun cdv A outer s H E hr cn =>
    (qss_cons (qs_set (i := 2) sc.nd rfl (by first | exact Or.inl rfl | exact Or.inr rfl) (qe_lst (qa_cons qe_str (qa_cons qe_str (qa_cons qe_str (qa_cons qe_str (qa_cons qe_str (qa_cons qe_str (qa_cons qe_str (qa_cons qe_str (qa_cons qe_str (qa_cons qe_str qa_nil))))))))))))
    (qss_cons (qs_set (i := 2) sc.nd rfl (by first | exact Or.inl rfl | exact Or.inr rfl) (qe_add (qe_var (pv 2)) (qe_lst (qa_cons qe_str qa_nil))))
    (qss_cons (qs_set (i := 2) sc.nd rfl (by first | exact Or.inl rfl | exact Or.inr rfl) (qe_add (qe_var (pv 2)) (qe_lst (qa_cons qe_str (qa_cons qe_str (qa_cons qe_str (qa_cons qe_str (qa_cons qe_str (qa_cons qe_str (qa_cons qe_str (qa_cons qe_str qa_nil)))))))))))
    (qss_cons (qs_set (i := 3) sc.nd rfl (by first | exact Or.inl rfl | exact Or.inr rfl) (qe_split (qc_call k__law_choice cn (hr.mono (by decide)) (by rfl) (qa_cons (qe_var (pv 0)) (qa_cons (qe_var (pv 1)) qa_nil))) qe_str))
    (qss_cons (qs_set (i := 4) sc.nd rfl (by first | exact Or.inl rfl | exact Or.inr rfl) (qc_call k__law_draw cn (hr.mono (by decide)) (by rfl) (qa_cons (qe_var (pv 0)) (qa_cons (qe_len (qa_cons (qe_var (pv 3)) qa_nil) (by rfl) (by rfl) (by rfl) n_len) qa_nil))))
    (qss_cons (qs_set (i := 5) sc.nd rfl (by first | exact Or.inl rfl | exact Or.inr rfl) (qc_call k__law_choice cn (hr.mono (by decide)) (by rfl) (qa_cons (qe_var (pv 0)) (qa_cons (qe_lst (qa_cons qe_str (qa_cons qe_str (qa_cons qe_str (qa_cons qe_str (qa_cons qe_str (qa_cons qe_str (qa_cons qe_str (qa_cons qe_str qa_nil))))))))) qa_nil))))
    (qss_cons (qs_par (i := 6) (j := 7) rfl sc.nd rfl rfl (by decide) rfl rfl (qa_cons (qe_sl (qe_var (pv 3)) qo_none (qo_some (qe_var (pv 4)))) (qa_cons (qe_sl (qe_var (pv 3)) (qo_some (qe_add (qe_var (pv 4)) qe_int)) qo_none) qa_nil)) (by rfl))
    (qss_cons (qs_set (i := 8) sc.nd rfl (by first | exact Or.inl rfl | exact Or.inr rfl) (qe_lst (qa_cons (qe_add (qe_add (qe_var (pv 6)) (qe_lst (qa_cons (qe_var (pv 5)) qa_nil))) (qe_var (pv 7))) (qa_cons (qe_add (qe_add (qe_var (pv 6)) (qe_lst (qa_cons (qe_var (pv 5)) qa_nil))) (qe_sl (qe_var (pv 3)) (qo_some (qe_var (pv 4))) qo_none)) (qa_cons (qe_add (qe_var (pv 6)) (qe_var (pv 7))) (qa_cons (qe_rev (qe_var (pv 3))) (qa_cons (qe_add (qe_sl (qe_var (pv 3)) qo_none (qo_some qe_int)) (qe_rev (qe_sl (qe_var (pv 3)) (qo_some qe_int) qo_none))) qa_nil)))))))
    (qss_one (qs_ret (qc_call k__law_choice cn (hr.mono (by decide)) (by rfl) (qa_cons (qe_var (pv 0)) (qa_cons (qe_add (qe_var (pv 2)) (qe_mul (qe_lc rfl sc.nd (qi_seq (qe_var (pv 8))) (blkOk_by (own := [("one", 9)]) (by rfl)) (by simp [TgN.ins, TgL.ins]) (fun _ _ _ _ _ => (qg_nm (i := 9) sc.nd rfl (by first | exact Or.inl rfl | exact Or.inr rfl))) (fun _ _ _ _ _ => qts_nil) (fun _ _ _ _ _ => (qe_join qe_str (qe_var (pv 9))))) qe_int)) qa_nil)))))))))))))) fun _ _ _ _ h => h.2
theorem cal_law_odd_line {sp__law_choice sp__law_draw : SpT} {f : Addr} {fd : FuncData} {kws : List (Str × V)} (F : FunD K "_law_odd_line" "_law_odd_line" (defArgs st_law_odd_line) (defBody st_law_odd_line) (defScope st_law_odd_line) [] kws f fd) (m : mg "_law_odd_line" = some (.ref f)) (k__law_choice : Cal P w K mg base "_law_choice" lv_law_choice ps_law_choice sp__law_choice) (k__law_draw : Cal P w K mg base "_law_draw" lv_law_draw ps_law_draw sp__law_draw) (n_len : mg "len" = none) :
    Cal P w K mg base "_law_odd_line" lv_law_odd_line ps_law_odd_line (sp0_law_odd_line sp__law_choice sp__law_draw) :=
  ⟨f, fd, m, F.kp, F.bindsN fun _ _ _ _ _ _ us hl => match us, hl with | [_, _], _ => rfl, ok_law_odd_line F k__law_choice k__law_draw n_len⟩
abbrev st_law_spoilt : Stmt := top 37
theorem sc_law_spoilt : FnScope N_law_spoilt ps_law_spoilt (defScope st_law_spoilt) := ⟨rfl, rfl, rfl, by decide +kernel, rfl, by decide +kernel, by decide +kernel⟩
theorem ok_law_spoilt {sp__law_draw sp__law_choice sp__law_odd_line : SpT} {f : Addr} {fd : FuncData} {dvs : List V} {kws : List (Str × V)} (F : FunD K "_law_spoilt" "_law_spoilt" (defArgs st_law_spoilt) (defBody st_law_spoilt) (defScope st_law_spoilt) dvs kws f fd) (k__law_draw : Cal P w K mg base "_law_draw" lv_law_draw ps_law_draw sp__law_draw) (k__law_choice : Cal P w K mg base "_law_choice" lv_law_choice ps_law_choice sp__law_choice) (n_len : mg "len" = none) (k__law_odd_line : Cal P w K mg base "_law_odd_line" lv_law_odd_line ps_law_odd_line sp__law_odd_line) :
    FnG P w K mg base lv_law_spoilt f fd ps_law_spoilt (sp0_law_spoilt sp__law_draw sp__law_choice sp__law_odd_line) :=
  have sc := sc_law_spoilt
  okG F sc (fun _ _ _ _ h => h.1) (fun cdv A outer s H E hr cn =>
    (qss_cons (qs_par (i := 2) (j := 3) rfl sc.nd rfl rfl (by decide) rfl rfl (qa_cons (qc_call k__law_draw cn (hr.mono (by decide)) (by rfl) (qa_cons (qe_var (pv 0)) (qa_cons qe_int qa_nil))) (qa_cons (qc_call k__law_choice cn (hr.mono (by decide)) (by rfl) (qa_cons (qe_var (pv 0)) (qa_cons qe_str qa_nil))) qa_nil)) (by rfl))
    (qss_cons (qs_par (i := 4) (j := 5) rfl sc.nd rfl rfl (by decide) rfl rfl (qa_cons (qe_splitC (qe_var (pv 1)) qe_str) (qa_cons (qc_call k__law_draw cn (hr.mono (by decide)) (by rfl) (qa_cons (qe_var (pv 0)) (qa_cons (qe_add (qe_len (qa_cons (qe_var (pv 1)) qa_nil) (by rfl) (by rfl) (by rfl) n_len) qe_int) qa_nil))) qa_nil)) (by rfl))
    (qss_cons (qs_set (i := 6) sc.nd rfl (by first | exact Or.inl rfl | exact Or.inr rfl) (qc_call k__law_draw cn (hr.mono (by decide)) (by rfl) (qa_cons (qe_var (pv 0)) (qa_cons (qe_len (qa_cons (qe_var (pv 4)) qa_nil) (by rfl) (by rfl) (by rfl) n_len) qa_nil))))
    (qss_cons (qs_if (qt_lt (qe_var (pv 2)) qe_int) (qss_one (qs_ret (qe_add (qe_add (qe_sl (qe_var (pv 1)) qo_none (qo_some (qe_var (pv 5)))) (qe_var (pv 3))) (qe_sl (qe_var (pv 1)) (qo_some (qe_add (qe_var (pv 5)) (qe_var (pv 2)))) qo_none)))) qss_nil)
    (qss_cons (qs_if (qt_eq (hu66 hr) (qe_var (pv 2)) qe_int) (qss_one (qs_ret (qe_add (qe_sl (qe_var (pv 1)) qo_none (qo_some (qe_var (pv 5)))) (qe_sl (qe_var (pv 1)) (qo_some (qe_add (qe_var (pv 5)) qe_int)) qo_none)))) qss_nil)
    (qss_cons (qs_if (qt_lt (qe_var (pv 2)) qe_int) (qss_one (qs_ret (qe_join qe_str (qe_add (qe_add (qe_sl (qe_var (pv 4)) qo_none (qo_some (qe_var (pv 6)))) (qe_lst (qa_cons (qc_call k__law_odd_line cn (hr.mono (by decide)) (by rfl) (qa_cons (qe_var (pv 0)) (qa_cons (qe_var (pv 4)) qa_nil))) qa_nil))) (qe_sl (qe_var (pv 4)) (qo_some (qe_sub (qe_add (qe_var (pv 6)) (qe_var (pv 2))) qe_int)) qo_none))))) qss_nil)
    (qss_cons (qs_if (qt_eq (hu66 hr) (qe_var (pv 2)) qe_int) (qss_cons (qs_set (i := 7) sc.nd rfl (by first | exact Or.inl rfl | exact Or.inr rfl) (qc_call k__law_draw cn (hr.mono (by decide)) (by rfl) (qa_cons (qe_var (pv 0)) (qa_cons (qe_len (qa_cons (qe_var (pv 4)) qa_nil) (by rfl) (by rfl) (by rfl) n_len) qa_nil))))
    (qss_cons (qs_put2 (hu_of hr) rfl (qe_var (pv 4)) (qe_var (pv 6)) (qe_var (pv 4)) (qe_var (pv 7)) (qe_tup (qa_cons (qe_ix (hu66 hr) (qe_var (pv 4)) (qe_var (pv 7))) (qa_cons (qe_ix (hu66 hr) (qe_var (pv 4)) (qe_var (pv 6))) qa_nil))))
    (qss_one (qs_ret (qe_join qe_str (qe_var (pv 4))))))) qss_nil)
    (qss_cons (qs_if (qt_eq (hu66 hr) (qe_var (pv 2)) qe_int) (qss_one (qs_ret (qe_join qe_str (qe_add (qe_sl (qe_var (pv 4)) qo_none (qo_some (qe_var (pv 6)))) (qe_sl (qe_var (pv 4)) (qo_some (qe_add (qe_var (pv 6)) qe_int)) qo_none))))) qss_nil)
    (qss_one (qs_ret (qe_if (qt_eq (hu66 hr) (qe_var (pv 2)) qe_int) (qe_join qe_str (qe_add (qe_add (qe_sl (qe_var (pv 4)) qo_none (qo_some (qe_var (pv 6)))) (qe_lst (qa_cons (qe_ix (hu66 hr) (qe_var (pv 4)) (qe_var (pv 6))) qa_nil))) (qe_sl (qe_var (pv 4)) (qo_some (qe_var (pv 6))) qo_none))) (qe_sl (qe_var (pv 1)) qo_none (qo_some (qe_neg qe_int))))))))))))))) fun _ _ _ _ h => h.2
theorem cal_law_spoilt {sp__law_draw sp__law_choice sp__law_odd_line : SpT} {f : Addr} {fd : FuncData} {kws : List (Str × V)} (F : FunD K "_law_spoilt" "_law_spoilt" (defArgs st_law_spoilt) (defBody st_law_spoilt) (defScope st_law_spoilt) [] kws f fd) (m : mg "_law_spoilt" = some (.ref f)) (k__law_draw : Cal P w K mg base "_law_draw" lv_law_draw ps_law_draw sp__law_draw) (k__law_choice : Cal P w K mg base "_law_choice" lv_law_choice ps_law_choice sp__law_choice) (n_len : mg "len" = none) (k__law_odd_line : Cal P w K mg base "_law_odd_line" lv_law_odd_line ps_law_odd_line sp__law_odd_line) :
    Cal P w K mg base "_law_spoilt" lv_law_spoilt ps_law_spoilt (sp0_law_spoilt sp__law_draw sp__law_choice sp__law_odd_line) :=
  ⟨f, fd, m, F.kp, F.bindsN fun _ _ _ _ _ _ us hl => match us, hl with | [_, _], _ => rfl, ok_law_spoilt F k__law_draw k__law_choice n_len k__law_odd_line⟩
abbrev st_law_outcome : Stmt := top 38
theorem sc_law_outcome : FnScope N_law_outcome ps_law_outcome (defScope st_law_outcome) := ⟨rfl, rfl, rfl, by decide +kernel, rfl, by decide +kernel, by decide +kernel⟩
theorem ok_law_outcome {Cs : List Addr} {C_Graph : Addr} {C_ProgressError : Addr} {C_InvalidGraph : Addr} {C_InvalidNodes : Addr} {C_InvalidCommand : Addr} {C_InvalidText : Addr} {sp_load_graph sp_dump_graph : SpT} {f : Addr} {fd : FuncData} {dvs : List V} {kws : List (Str × V)} (F : FunD K "_law_outcome" "_law_outcome" (defArgs st_law_outcome) (defBody st_law_outcome) (defScope st_law_outcome) dvs kws f fd) (k_load_graph : Cal P w K mg base "load_graph" lv_load_graph ps_load_graph sp_load_graph) (m_Graph : mg "Graph" = some (.ref C_Graph)) (n_isinstance : mg "isinstance" = none) (hCs : ∀ C ∈ Cs, ClsI K C) (k_dump_graph : Cal P w K mg base "dump_graph" lv_dump_graph ps_dump_graph sp_dump_graph) (m_ProgressError : mg "ProgressError" = some (.ref C_ProgressError)) (m_InvalidGraph : mg "InvalidGraph" = some (.ref C_InvalidGraph)) (m_InvalidNodes : mg "InvalidNodes" = some (.ref C_InvalidNodes)) (m_InvalidCommand : mg "InvalidCommand" = some (.ref C_InvalidCommand)) (m_InvalidText : mg "InvalidText" = some (.ref C_InvalidText)) (n_ValueError : mg "ValueError" = none) :
    FnG P w K mg base lv_law_outcome f fd ps_law_outcome (sp0_law_outcome Cs K C_Graph C_ProgressError C_InvalidGraph C_InvalidNodes C_InvalidCommand C_InvalidText sp_load_graph sp_dump_graph) :=
  have sc := sc_law_outcome
  okG F sc (fun _ _ _ _ h => h.1) (fun cdv A outer s H E hr cn =>
    (qss_cons (qs_set (i := 1) sc.nd rfl (by first | exact Or.inl rfl | exact Or.inr rfl) qe_non)
    (qss_cons (qs_try cn rfl rfl (fun W2 pn xe tk => (qss_cons (qs_set (i := 2) sc.nd rfl (by first | exact Or.inl rfl | exact Or.inr rfl) (qc_call k_load_graph (cn.tr tk) (hr.mono (by decide)) (by rfl) (qa_cons (qe_var (pv 0)) qa_nil)))
    (qss_one (qs_set (i := 1) sc.nd rfl (by first | exact Or.inl rfl | exact Or.inr rfl) (qe_if (QW.qt (qw_and (qt_val (qe_isi (qa_cons (qe_var (pv 2)) (qa_cons (qe_glob (by rfl) m_Graph) qa_nil)) (by rfl) (by rfl) hCs (by rfl) n_isinstance)) (qw_and1 (qt_eq (hu66 hr) (qc_call k_dump_graph (cn.tr tk) (hr.mono (by decide)) (by rfl) (qa_cons (qe_var (pv 2)) qa_nil)) (qe_var (pv 0)))))) qe_non qe_str))))) (.named 3 (names_own (by rfl) m_ProgressError) sc.nd rfl rfl (fun a oe cls d pn hz hf => (qss_cons (qs_set (i := 4) sc.nd rfl (by first | exact Or.inl rfl | exact Or.inr rfl) (qe_isX hz hf (qa_cons (qe_var (pv 3)) (qa_cons (qe_tup (qa_cons (qe_glob (by rfl) m_InvalidGraph) (qa_cons (qe_glob (by rfl) m_InvalidNodes) (qa_cons (qe_glob (by rfl) m_InvalidCommand) qa_nil)))) qa_nil)) (by rfl) (by rfl) (by rfl) n_isinstance))
    (qss_one (qs_set (i := 1) sc.nd rfl (by first | exact Or.inl rfl | exact Or.inr rfl) (qe_if (QW.qt (qw_and (qt_val (qe_isX hz hf (qa_cons (qe_var (pv 3)) (qa_cons (qe_glob (by rfl) m_InvalidText) qa_nil)) (by rfl) (by rfl) (by rfl) n_isinstance)) (qw_and (qt_val (qe_isX hz hf (qa_cons (qe_var (pv 3)) (qa_cons (qe_tyN (by rfl) n_ValueError (by rfl)) qa_nil)) (by rfl) (by rfl) (by rfl) n_isinstance)) (qw_and1 (qt_not (qt_val (qe_var (pv 4)))))))) (qe_xf hz hf (qe_var (pv 3))) qe_str))))) .nil))
    (qss_one (qs_ret (qe_var (pv 1))))))) fun _ _ _ _ h => h.2
theorem cal_law_outcome {Cs : List Addr} {C_Graph : Addr} {C_ProgressError : Addr} {C_InvalidGraph : Addr} {C_InvalidNodes : Addr} {C_InvalidCommand : Addr} {C_InvalidText : Addr} {sp_load_graph sp_dump_graph : SpT} {f : Addr} {fd : FuncData} {kws : List (Str × V)} (F : FunD K "_law_outcome" "_law_outcome" (defArgs st_law_outcome) (defBody st_law_outcome) (defScope st_law_outcome) [] kws f fd) (m : mg "_law_outcome" = some (.ref f)) (k_load_graph : Cal P w K mg base "load_graph" lv_load_graph ps_load_graph sp_load_graph) (m_Graph : mg "Graph" = some (.ref C_Graph)) (n_isinstance : mg "isinstance" = none) (hCs : ∀ C ∈ Cs, ClsI K C) (k_dump_graph : Cal P w K mg base "dump_graph" lv_dump_graph ps_dump_graph sp_dump_graph) (m_ProgressError : mg "ProgressError" = some (.ref C_ProgressError)) (m_InvalidGraph : mg "InvalidGraph" = some (.ref C_InvalidGraph)) (m_InvalidNodes : mg "InvalidNodes" = some (.ref C_InvalidNodes)) (m_InvalidCommand : mg "InvalidCommand" = some (.ref C_InvalidCommand)) (m_InvalidText : mg "InvalidText" = some (.ref C_InvalidText)) (n_ValueError : mg "ValueError" = none) :
    Cal P w K mg base "_law_outcome" lv_law_outcome ps_law_outcome (sp0_law_outcome Cs K C_Graph C_ProgressError C_InvalidGraph C_InvalidNodes C_InvalidCommand C_InvalidText sp_load_graph sp_dump_graph) :=
  ⟨f, fd, m, F.kp, F.bindsN fun _ _ _ _ _ _ us hl => match us, hl with | [_], _ => rfl, ok_law_outcome F k_load_graph m_Graph n_isinstance hCs k_dump_graph m_ProgressError m_InvalidGraph m_InvalidNodes m_InvalidCommand m_InvalidText n_ValueError⟩
abbrev st_law : Stmt := top 39
theorem sc_law : FnScope N_law ps_law (defScope st_law) := ⟨rfl, rfl, rfl, by decide +kernel, rfl, by decide +kernel, by decide +kernel⟩
theorem ok_law {sp__law_pot sp__law_graph sp__law_outcome sp__law_expected sp__law_draw sp__law_spoilt : SpT} {f : Addr} {fd : FuncData} {dvs : List V} {kws : List (Str × V)} (F : FunD K "law" "law" (defArgs st_law) (defBody st_law) (defScope st_law) dvs kws f fd) (n_len : mg "len" = none) (n_min : mg "min" = none) (n_max : mg "max" = none) (n_range : mg "range" = none) (k__law_pot : Cal P w K mg base "_law_pot" lv_law_pot ps_law_pot sp__law_pot) (k__law_graph : Cal P w K mg base "_law_graph" lv_law_graph ps_law_graph sp__law_graph) (k__law_outcome : Cal P w K mg base "_law_outcome" lv_law_outcome ps_law_outcome sp__law_outcome) (k__law_expected : Cal P w K mg base "_law_expected" lv_law_expected ps_law_expected sp__law_expected) (k__law_draw : Cal P w K mg base "_law_draw" lv_law_draw ps_law_draw sp__law_draw) (k__law_spoilt : Cal P w K mg base "_law_spoilt" lv_law_spoilt ps_law_spoilt sp__law_spoilt) (n_repr : mg "repr" = none) :
    FnG P w K mg base lv_law f fd ps_law (sp0_law sp__law_pot sp__law_graph sp__law_outcome sp__law_expected sp__law_draw sp__law_spoilt) :=
  have sc := sc_law
  okG F sc (fun _ _ _ _ h => h.1) (fun cdv A outer s H E hr cn =>
    (qss_cons (qs_for (passes_of rfl) rfl (qi_rng (by rfl) n_range (qa_cons (qe_max2 (qa_cons qe_int (qa_cons (qe_min2 (qa_cons (qe_len (qa_cons (qe_var (pv 0)) qa_nil) (by rfl) (by rfl) (by rfl) n_len) (qa_cons qe_int qa_nil)) (by rfl) (by rfl) rfl (by rfl) n_min) qa_nil)) (by rfl) (by rfl) rfl (by rfl) n_max) qa_nil)) (qg_nm (i := 1) sc.nd rfl (by first | exact Or.inl rfl | exact Or.inr rfl)) (qss_cons (qs_set (i := 2) sc.nd rfl (by first | exact Or.inl rfl | exact Or.inr rfl) (qc_call k__law_pot cn (hr.mono (by decide)) (by rfl) (qa_cons (qe_var (pv 0)) (qa_cons (qe_var (pv 1)) qa_nil))))
    (qss_cons (qs_asg (qc_call k__law_graph cn (hr.mono (by decide)) (by rfl) (qa_cons (qe_var (pv 2)) (qa_cons qe_int qa_nil))) (qg_tp rfl (qgs_cons (qg_nm (i := 3) sc.nd rfl (by first | exact Or.inl rfl | exact Or.inr rfl)) (qgs_cons (qg_nm (i := 4) sc.nd rfl (by first | exact Or.inl rfl | exact Or.inr rfl)) qgs_nil))))
    (qss_cons (qs_set (i := 5) sc.nd rfl (by first | exact Or.inl rfl | exact Or.inr rfl) (qe_add (qe_lc rfl sc.nd (qi_seq (qe_var (pv 3))) (blkOk_by (own := [("point", 6)]) (by rfl)) (by simp [TgN.ins, TgL.ins]) (fun _ _ _ _ _ => (qg_nm (i := 6) sc.nd rfl (by first | exact Or.inl rfl | exact Or.inr rfl))) (fun _ _ _ _ _ => qts_nil) (fun _ _ _ _ _ => (qe_add qe_str (qe_var (pv 6))))) (qe_lc rfl sc.nd (qi_seq (qe_var (pv 4))) (blkOk_by (own := [("low", 7), ("high", 8)]) (by rfl)) (by simp [TgN.ins, TgL.ins]) (fun _ _ _ _ _ => (qg_tp rfl (qgs_cons (qg_nm (i := 7) sc.nd rfl (by first | exact Or.inl rfl | exact Or.inr rfl)) (qgs_cons (qg_nm (i := 8) sc.nd rfl (by first | exact Or.inl rfl | exact Or.inr rfl)) qgs_nil)))) (fun _ _ _ _ _ => qts_nil) (fun _ _ _ _ _ => (qe_add (qe_add (qe_add qe_str (qe_var (pv 7))) qe_str) (qe_var (pv 8)))))))
    (qss_cons (qs_set (i := 9) sc.nd rfl (by first | exact Or.inl rfl | exact Or.inr rfl) (qe_join qe_str (qe_lc rfl sc.nd (qi_seq (qe_var (pv 5))) (blkOk_by (own := [("line", 10)]) (by rfl)) (by simp [TgN.ins, TgL.ins]) (fun _ _ _ _ _ => (qg_nm (i := 10) sc.nd rfl (by first | exact Or.inl rfl | exact Or.inr rfl))) (fun _ _ _ _ _ => qts_nil) (fun _ _ _ _ _ => (qe_add (qe_var (pv 10)) qe_str)))))
    (qss_cons (qs_if (QW.qt (qw_or (qt_isNot (qc_call k__law_outcome cn (hr.mono (by decide)) (by rfl) (qa_cons (qe_var (pv 9)) qa_nil)) qe_non) (qw_or1 (qt_isNot (qc_call k__law_expected cn (hr.mono (by decide)) (by rfl) (qa_cons (qe_var (pv 9)) qa_nil)) qe_non)))) (qss_one (qs_ret qe_bl)) qss_nil)
    (qss_cons (qs_for (passes_of rfl) rfl (qi_rng (by rfl) n_range (qa_cons qe_int qa_nil)) (qg_nm (i := 11) sc.nd rfl (by first | exact Or.inl rfl | exact Or.inr rfl)) (qss_cons (qs_set (i := 12) sc.nd rfl (by first | exact Or.inl rfl | exact Or.inr rfl) (qe_var (pv 9)))
    (qss_cons (qs_for (passes_of rfl) rfl (qi_rng (by rfl) n_range (qa_cons (qe_add qe_int (qc_call k__law_draw cn (hr.mono (by decide)) (by rfl) (qa_cons (qe_var (pv 2)) (qa_cons qe_int qa_nil)))) qa_nil)) (qg_nm (i := 13) sc.nd rfl (by first | exact Or.inl rfl | exact Or.inr rfl)) (qss_one (qs_set (i := 12) sc.nd rfl (by first | exact Or.inl rfl | exact Or.inr rfl) (qc_call k__law_spoilt cn (hr.mono (by decide)) (by rfl) (qa_cons (qe_var (pv 2)) (qa_cons (qe_var (pv 12)) qa_nil))))))
    (qss_one (qs_if (qt_ne (hu66 hr) (qe_repr cn (hu66 hr) (qa_cons (qc_call k__law_outcome cn (hr.mono (by decide)) (by rfl) (qa_cons (qe_var (pv 12)) qa_nil)) qa_nil) (by rfl) (by rfl) (by rfl) n_repr) (qe_repr cn (hu66 hr) (qa_cons (qc_call k__law_expected cn (hr.mono (by decide)) (by rfl) (qa_cons (qe_var (pv 12)) qa_nil)) qa_nil) (by rfl) (by rfl) (by rfl) n_repr)) (qss_one (qs_ret qe_bl)) qss_nil)))))
    (qss_one (qs_for (passes_of rfl) rfl (qi_seq (qe_lst (qa_cons qe_non (qa_cons qe_int (qa_cons qe_bl (qa_cons (qe_lst qa_nil) (qa_cons (qe_tup qa_nil) (qa_cons (qe_frz qe_dnewC) (qa_cons (qe_lst (qa_cons (qe_var (pv 9)) qa_nil)) (qa_cons (qe_tup (qa_cons (qe_var (pv 9)) qa_nil)) (qa_cons qe_int (qa_cons (qe_frz (qe_disp (qps_cons qe_str qe_int qps_nil))) qa_nil)))))))))))) (qg_nm (i := 14) sc.nd rfl (by first | exact Or.inl rfl | exact Or.inr rfl)) (qss_one (qs_if (qt_ne (hu66 hr) (qe_repr cn (hu66 hr) (qa_cons (qc_call k__law_outcome cn (hr.mono (by decide)) (by rfl) (qa_cons (qe_var (pv 14)) qa_nil)) qa_nil) (by rfl) (by rfl) (by rfl) n_repr) qe_str) (qss_one (qs_ret qe_bl)) qss_nil)))))))))))
    (qss_cons (qs_set (i := 15) sc.nd rfl (by first | exact Or.inl rfl | exact Or.inr rfl) (qe_join qe_str (qe_lc rfl sc.nd (qi_seq qe_str) (blkOk_by (own := [("sign", 16)]) (by rfl)) (by simp [TgN.ins, TgL.ins]) (fun _ _ _ _ _ => (qg_nm (i := 16) sc.nd rfl (by first | exact Or.inl rfl | exact Or.inr rfl))) (fun _ _ _ _ _ => qts_nil) (fun _ _ _ _ _ => (qe_add (qe_add qe_str (qe_var (pv 16))) qe_str)))))
    (qss_cons (qs_set (i := 17) sc.nd rfl (by first | exact Or.inl rfl | exact Or.inr rfl) (qe_lst (qa_cons qe_str (qa_cons qe_str (qa_cons qe_str (qa_cons qe_str (qa_cons (qe_var (pv 15)) (qa_cons qe_str qa_nil))))))))
    (qss_one (qs_ret (qe_eq (hu66 hr) (qe_lc rfl sc.nd (qi_seq (qe_var (pv 17))) (blkOk_by (own := [("written", 9)]) (by rfl)) (by simp [TgN.ins, TgL.ins]) (fun _ _ _ _ _ => (qg_nm (i := 9) sc.nd rfl (by first | exact Or.inl rfl | exact Or.inr rfl))) (fun _ _ _ _ _ => qts_nil) (fun _ _ _ _ _ => (qc_call k__law_outcome cn.blk (hr.mono (by decide)) (by rfl) (qa_cons (qe_var (pv 9)) qa_nil)))) (qe_lst (qa_cons qe_int (qa_cons qe_int (qa_cons qe_int (qa_cons qe_int (qa_cons qe_int (qa_cons qe_int qa_nil)))))))))))))) fun _ _ _ _ h => h.2
theorem cal_law {sp__law_pot sp__law_graph sp__law_outcome sp__law_expected sp__law_draw sp__law_spoilt : SpT} {f : Addr} {fd : FuncData} {kws : List (Str × V)} (F : FunD K "law" "law" (defArgs st_law) (defBody st_law) (defScope st_law) [] kws f fd) (m : mg "law" = some (.ref f)) (n_len : mg "len" = none) (n_min : mg "min" = none) (n_max : mg "max" = none) (n_range : mg "range" = none) (k__law_pot : Cal P w K mg base "_law_pot" lv_law_pot ps_law_pot sp__law_pot) (k__law_graph : Cal P w K mg base "_law_graph" lv_law_graph ps_law_graph sp__law_graph) (k__law_outcome : Cal P w K mg base "_law_outcome" lv_law_outcome ps_law_outcome sp__law_outcome) (k__law_expected : Cal P w K mg base "_law_expected" lv_law_expected ps_law_expected sp__law_expected) (k__law_draw : Cal P w K mg base "_law_draw" lv_law_draw ps_law_draw sp__law_draw) (k__law_spoilt : Cal P w K mg base "_law_spoilt" lv_law_spoilt ps_law_spoilt sp__law_spoilt) (n_repr : mg "repr" = none) :
    Cal P w K mg base "law" lv_law ps_law (sp0_law sp__law_pot sp__law_graph sp__law_outcome sp__law_expected sp__law_draw sp__law_spoilt) :=
  ⟨f, fd, m, F.kp, F.bindsN fun _ _ _ _ _ _ us hl => match us, hl with | [_], _ => rfl, ok_law F n_len n_min n_max n_range k__law_pot k__law_graph k__law_outcome k__law_expected k__law_draw k__law_spoilt n_repr⟩
end WK
end
namespace EN
open PySem PySem.Spec PyProof.Rows L2 TL WK
def dd_is_name : He.DefD := ⟨("is_name", none), "is_name", "is_name", defArgs st_is_name, defBody st_is_name, defScope st_is_name, [], []⟩
def dd_require_nodes : He.DefD := ⟨("require_nodes", none), "require_nodes", "require_nodes", defArgs st_require_nodes, defBody st_require_nodes, defScope st_require_nodes, [], []⟩
def dd_reachable : He.DefD := ⟨("reachable", none), "reachable", "reachable", defArgs st_reachable, defBody st_reachable, defScope st_reachable, [], []⟩
def dd_edge_problem : He.DefD := ⟨("edge_problem", none), "edge_problem", "edge_problem", defArgs st_edge_problem, defBody st_edge_problem, defScope st_edge_problem, [], []⟩
def dd_require_edges : He.DefD := ⟨("require_edges", none), "require_edges", "require_edges", defArgs st_require_edges, defBody st_require_edges, defScope st_require_edges, [], []⟩
def dd_Graph_init : He.DefD := ⟨("Graph", some "__init__"), "__init__", "Graph.__init__", defArgs st_Graph_init, defBody st_Graph_init, defScope st_Graph_init, [.adr (He.dflAt ("Graph", some "__init__") 0)], []⟩
def dd_Graph_nodes : He.DefD := ⟨("Graph", some "nodes"), "nodes", "Graph.nodes", defArgs st_Graph_nodes, defBody st_Graph_nodes, defScope st_Graph_nodes, [], []⟩
def dd_Graph_edges : He.DefD := ⟨("Graph", some "edges"), "edges", "Graph.edges", defArgs st_Graph_edges, defBody st_Graph_edges, defScope st_Graph_edges, [], []⟩
def dd_dump_graph : He.DefD := ⟨("dump_graph", none), "dump_graph", "dump_graph", defArgs st_dump_graph, defBody st_dump_graph, defScope st_dump_graph, [], []⟩
def dd_read_line : He.DefD := ⟨("read_line", none), "read_line", "read_line", defArgs st_read_line, defBody st_read_line, defScope st_read_line, [], []⟩
def dd_load_graph : He.DefD := ⟨("load_graph", none), "load_graph", "load_graph", defArgs st_load_graph, defBody st_load_graph, defScope st_load_graph, [], []⟩
def dd_law_pot : He.DefD := ⟨("_law_pot", none), "_law_pot", "_law_pot", defArgs st_law_pot, defBody st_law_pot, defScope st_law_pot, [], []⟩
def dd_law_draw : He.DefD := ⟨("_law_draw", none), "_law_draw", "_law_draw", defArgs st_law_draw, defBody st_law_draw, defScope st_law_draw, [], []⟩
def dd_law_choice : He.DefD := ⟨("_law_choice", none), "_law_choice", "_law_choice", defArgs st_law_choice, defBody st_law_choice, defScope st_law_choice, [], []⟩
def dd_law_name : He.DefD := ⟨("_law_name", none), "_law_name", "_law_name", defArgs st_law_name, defBody st_law_name, defScope st_law_name, [], []⟩
def dd_law_names : He.DefD := ⟨("_law_names", none), "_law_names", "_law_names", defArgs st_law_names, defBody st_law_names, defScope st_law_names, [], []⟩
def dd_law_mixed : He.DefD := ⟨("_law_mixed", none), "_law_mixed", "_law_mixed", defArgs st_law_mixed, defBody st_law_mixed, defScope st_law_mixed, [], []⟩
def dd_law_graph : He.DefD := ⟨("_law_graph", none), "_law_graph", "_law_graph", defArgs st_law_graph, defBody st_law_graph, defScope st_law_graph, [], []⟩
def dd_law_is_name : He.DefD := ⟨("_law_is_name", none), "_law_is_name", "_law_is_name", defArgs st_law_is_name, defBody st_law_is_name, defScope st_law_is_name, [], []⟩
def dd_law_leads : He.DefD := ⟨("_law_leads", none), "_law_leads", "_law_leads", defArgs st_law_leads, defBody st_law_leads, defScope st_law_leads, [], []⟩
def dd_law_line_fits : He.DefD := ⟨("_law_line_fits", none), "_law_line_fits", "_law_line_fits", defArgs st_law_line_fits, defBody st_law_line_fits, defScope st_law_line_fits, [], []⟩
def dd_law_expected : He.DefD := ⟨("_law_expected", none), "_law_expected", "_law_expected", defArgs st_law_expected, defBody st_law_expected, defScope st_law_expected, [], []⟩
def dd_law_odd_line : He.DefD := ⟨("_law_odd_line", none), "_law_odd_line", "_law_odd_line", defArgs st_law_odd_line, defBody st_law_odd_line, defScope st_law_odd_line, [], []⟩
def dd_law_spoilt : He.DefD := ⟨("_law_spoilt", none), "_law_spoilt", "_law_spoilt", defArgs st_law_spoilt, defBody st_law_spoilt, defScope st_law_spoilt, [], []⟩
def dd_law_outcome : He.DefD := ⟨("_law_outcome", none), "_law_outcome", "_law_outcome", defArgs st_law_outcome, defBody st_law_outcome, defScope st_law_outcome, [], []⟩
def dd_law : He.DefD := ⟨("law", none), "law", "law", defArgs st_law, defBody st_law, defScope st_law, [], []⟩
def dd_InvalidText_init : He.DefD := ⟨("InvalidText", some "__init__"), "__init__", "InvalidText.__init__", defArgs st_InvalidText_init, defBody st_InvalidText_init, defScope st_InvalidText_init, [], []⟩
def fn : List He.DefD := ([dd_is_name, dd_require_nodes, dd_reachable, dd_edge_problem, dd_require_edges, dd_Graph_init, dd_Graph_nodes, dd_Graph_edges, dd_dump_graph, dd_read_line, dd_load_graph, dd_law_pot, dd_law_draw, dd_law_choice, dd_law_name, dd_law_names] : List He.DefD) ++ ([dd_law_mixed, dd_law_graph, dd_law_is_name, dd_law_leads, dd_law_line_fits, dd_law_expected, dd_law_odd_line, dd_law_spoilt, dd_law_outcome, dd_law, dd_InvalidText_init] : List He.DefD)
def fa : List He.Fa := ([.noat "InvalidText" "line", .free "str", .free "isinstance", .cls "Graph", .free "len", .int "MAX_NAME_LENGTH" (8), .str "LETTERS" "abcdefghijklmnopqrstuvwxyz", .free "all", .glo "is_name", .free "list", .int "MAX_NODES" (16), .free "enumerate", .glo "require_nodes", .glo "reachable", .free "tuple", .glo "edge_problem"] : List He.Fa) ++ ([.glo "require_edges", .noat "Graph" "own_nodes", .noat "Graph" "own_edges", .noat "Graph" "own_after", .meth "Graph" "nodes", .meth "Graph" "edges", .glo "dump_graph", .glo "read_line", .glo "InvalidText", .meth "InvalidText" "__init__", .glo "ProgressError", .glo "Graph", .mkr "Graph", .glo "load_graph", .free "abs", .free "max"] : List He.Fa) ++ ([.glo "_law_pot", .free "divmod", .glo "_law_draw", .glo "_law_choice", .free "range", .free "zip", .glo "_law_name", .glo "_law_names", .glo "_law_mixed", .free "min", .glo "_law_graph", .glo "_law_is_name", .glo "_law_leads", .glo "_law_line_fits", .glo "_law_expected", .glo "_law_odd_line"] : List He.Fa) ++ ([.glo "_law_spoilt", .glo "InvalidGraph", .glo "InvalidNodes", .glo "InvalidCommand", .free "ValueError", .glo "_law_outcome", .free "repr", .glo "law"] : List He.Fa)
def ck : List TLH.Ck := [TLH.ckXf "InvalidText", TLH.ckExK "InvalidText", TLH.ckExm "InvalidText" (.own "ProgressError") true, TLH.ckKit "InvalidText" (.own "InvalidGraph") false, TLH.ckKit "InvalidText" (.own "InvalidNodes") false, TLH.ckKit "InvalidText" (.own "InvalidCommand") false, TLH.ckKit "InvalidText" (.blt "ValueError") true, TLH.ckI "Graph", TLH.ckOex "InvalidText" XG.mVE "ValueError.__new__", TLH.ckRd "ProgressError" "ValueError.__init__"]
abbrev R : PySem.W.OpenRow := PySem.W.OpenLaw.row PySem.Challenge.rw_progressbounds_k17_whole_graph_texts_spo
abbrev hk : PySem.W.Hook := TLH.hookX 5 fa fn ck
def ob (s : PySem.W.SharedT) : TLH.AlX := TLH.obsX 5 fa fn ck (HandSHeadRun.getT s)
theorem ob_eq (s : PySem.W.SharedT) : ob s = hk.obs s.abs := TLH.obsX_eq (HandSHeadRun.getT_eq s)
def names : List PySem.Str := (([PySem.Str.ofString "_wall", PySem.Str.ofString "ProgressError", PySem.Str.ofString "InvalidGraph", PySem.Str.ofString "InvalidText", PySem.Str.ofString "InvalidNodes", PySem.Str.ofString "InvalidCommand", PySem.Str.ofString "NotFound", PySem.Str.ofString "MAX_NODES", PySem.Str.ofString "MAX_DOWN_SETS", PySem.Str.ofString "MAX_NAME_LENGTH", PySem.Str.ofString "LETTERS", PySem.Str.ofString "is_name", PySem.Str.ofString "require_nodes", PySem.Str.ofString "reachable", PySem.Str.ofString "edge_problem", PySem.Str.ofString "require_edges", PySem.Str.ofString "Graph", PySem.Str.ofString "dump_graph"] : List PySem.Str) ++ ([PySem.Str.ofString "read_line", PySem.Str.ofString "load_graph", PySem.Str.ofString "_law_pot", PySem.Str.ofString "_law_draw", PySem.Str.ofString "_law_choice", PySem.Str.ofString "_law_name", PySem.Str.ofString "_law_names", PySem.Str.ofString "_law_mixed", PySem.Str.ofString "_law_graph", PySem.Str.ofString "_law_below", PySem.Str.ofString "_law_is_name", PySem.Str.ofString "_law_leads", PySem.Str.ofString "_law_line_fits", PySem.Str.ofString "_law_expected", PySem.Str.ofString "_law_odd_line", PySem.Str.ofString "_law_spoilt", PySem.Str.ofString "_law_outcome"] : List PySem.Str))
set_option maxHeartbeats 0 in
theorem run (w : World) : HandSHeadRun.RunEq R (PySem.W.view R.prog [39]) hk ob 14000 names w := by
  intro os
  kernel_rfl
set_option maxHeartbeats 4000000 in
theorem chain {P : Program} {w : World} {K : PySem.W.Frag} {h : Heap} {mg : Str → Option Value} {base : Heap} (X : K.In h) (G : h.Ns mainGlobals mg) (c : TLH.SaysX fa fn ck K) :
    ∃ fd : FuncData, (∀ (s : Shared) (v : Value), BindsTo s fd ⟨[v], []⟩ [("script", v)]) ∧ mg "law" = some (.ref (He.ga K "law")) ∧ ∀ base : Heap, FnG P w K mg base lv_law (He.ga K "law") fd ["script"] PL.spLaw := by
  have m_law : mg "law" = some (.ref (He.ga K "law")) := He.glo_ok X G (c.1.fact 55 (f := .glo "law") rfl)
  obtain ⟨fd_law, F_law⟩ := c.1.def_ 25 (d := dd_law) rfl
  have b := FunD.bindsA (ps := ["script"]) F_law fun _ _ _ _ _ _ us hl => match us, hl with | [_], _ => rfl
  refine ⟨fd_law, fun s v => b s [v] rfl, m_law, fun base => ?_⟩
  obtain ⟨fd_is_name, F_is_name⟩ := c.1.def_ 0 (d := dd_is_name) rfl
  obtain ⟨fd_require_nodes, F_require_nodes⟩ := c.1.def_ 1 (d := dd_require_nodes) rfl
  obtain ⟨fd_reachable, F_reachable⟩ := c.1.def_ 2 (d := dd_reachable) rfl
  obtain ⟨fd_edge_problem, F_edge_problem⟩ := c.1.def_ 3 (d := dd_edge_problem) rfl
  obtain ⟨fd_require_edges, F_require_edges⟩ := c.1.def_ 4 (d := dd_require_edges) rfl
  obtain ⟨fd_Graph_init, F_Graph_init⟩ := c.1.def_ 5 (d := dd_Graph_init) rfl
  obtain ⟨fd_Graph_nodes, F_Graph_nodes⟩ := c.1.def_ 6 (d := dd_Graph_nodes) rfl
  obtain ⟨fd_Graph_edges, F_Graph_edges⟩ := c.1.def_ 7 (d := dd_Graph_edges) rfl
  obtain ⟨fd_dump_graph, F_dump_graph⟩ := c.1.def_ 8 (d := dd_dump_graph) rfl
  obtain ⟨fd_read_line, F_read_line⟩ := c.1.def_ 9 (d := dd_read_line) rfl
  obtain ⟨fd_load_graph, F_load_graph⟩ := c.1.def_ 10 (d := dd_load_graph) rfl
  obtain ⟨fd_law_pot, F_law_pot⟩ := c.1.def_ 11 (d := dd_law_pot) rfl
  obtain ⟨fd_law_draw, F_law_draw⟩ := c.1.def_ 12 (d := dd_law_draw) rfl
  obtain ⟨fd_law_choice, F_law_choice⟩ := c.1.def_ 13 (d := dd_law_choice) rfl
  obtain ⟨fd_law_name, F_law_name⟩ := c.1.def_ 14 (d := dd_law_name) rfl
  obtain ⟨fd_law_names, F_law_names⟩ := c.1.def_ 15 (d := dd_law_names) rfl
  obtain ⟨fd_law_mixed, F_law_mixed⟩ := c.1.def_ 16 (d := dd_law_mixed) rfl
  obtain ⟨fd_law_graph, F_law_graph⟩ := c.1.def_ 17 (d := dd_law_graph) rfl
  obtain ⟨fd_law_is_name, F_law_is_name⟩ := c.1.def_ 18 (d := dd_law_is_name) rfl
  obtain ⟨fd_law_leads, F_law_leads⟩ := c.1.def_ 19 (d := dd_law_leads) rfl
  obtain ⟨fd_law_line_fits, F_law_line_fits⟩ := c.1.def_ 20 (d := dd_law_line_fits) rfl
  obtain ⟨fd_law_expected, F_law_expected⟩ := c.1.def_ 21 (d := dd_law_expected) rfl
  obtain ⟨fd_law_odd_line, F_law_odd_line⟩ := c.1.def_ 22 (d := dd_law_odd_line) rfl
  obtain ⟨fd_law_spoilt, F_law_spoilt⟩ := c.1.def_ 23 (d := dd_law_spoilt) rfl
  obtain ⟨fd_law_outcome, F_law_outcome⟩ := c.1.def_ 24 (d := dd_law_outcome) rfl
  have xf_InvalidText := TLH.xf_of (c.ck 0 (f := TLH.ckXf "InvalidText") rfl)
  have exk_InvalidText := TLH.exK_of (c.ck 1 (f := TLH.ckExK "InvalidText") rfl)
  have a_InvalidText_line : NoAttr K (He.ga K "InvalidText") "line" := He.noat_ok (c.1.fact 0 (f := .noat "InvalidText" "line") rfl)
  have exm_InvalidText_ProgressError : PySem.W.exmOne K (.ref (He.ga K "InvalidText")) (.ref (He.ga K "ProgressError")) = some true := TLH.exm_of' (c.ck 2 (f := TLH.ckExm "InvalidText" (.own "ProgressError") true) rfl)
  have kit_InvalidText_InvalidGraph : PySem.W.kitOne K (.ref (He.ga K "InvalidText")) (.ref (He.ga K "InvalidGraph")) = some false := TLH.kit_of' (c.ck 3 (f := TLH.ckKit "InvalidText" (.own "InvalidGraph") false) rfl)
  have kit_InvalidText_InvalidNodes : PySem.W.kitOne K (.ref (He.ga K "InvalidText")) (.ref (He.ga K "InvalidNodes")) = some false := TLH.kit_of' (c.ck 4 (f := TLH.ckKit "InvalidText" (.own "InvalidNodes") false) rfl)
  have kit_InvalidText_InvalidCommand : PySem.W.kitOne K (.ref (He.ga K "InvalidText")) (.ref (He.ga K "InvalidCommand")) = some false := TLH.kit_of' (c.ck 5 (f := TLH.ckKit "InvalidText" (.own "InvalidCommand") false) rfl)
  have kit_InvalidText_ValueError : PySem.W.kitOne K (.ref (He.ga K "InvalidText")) (.type "ValueError") = some true := TLH.kit_of' (c.ck 6 (f := TLH.ckKit "InvalidText" (.blt "ValueError") true) rfl)
  have n_str := He.free_ok X G (c.1.fact 1 (f := .free "str") rfl)
  have n_isinstance := He.free_ok X G (c.1.fact 2 (f := .free "isinstance") rfl)
  have c_Graph : Cls K (He.ga K "Graph") := He.cls_ok (c.1.fact 3 (f := .cls "Graph") rfl)
  have hCs : ∀ C ∈ ([He.ga K "Graph"] : List Addr), ClsI K C := fun C hC => by
    simp only [List.mem_cons, List.not_mem_nil, or_false] at hC
    subst hC
    exact TLH.clsI_of (c.ck 7 (f := TLH.ckI "Graph") rfl) c_Graph
  have n_len := He.free_ok X G (c.1.fact 4 (f := .free "len") rfl)
  obtain ⟨tk_MAX_NAME_LENGTH, m_MAX_NAME_LENGTH⟩ := He.int_ok X G (c.1.fact 5 (f := .int "MAX_NAME_LENGTH" (8)) rfl)
  obtain ⟨tk_LETTERS, m_LETTERS⟩ := He.str_ok X G (c.1.fact 6 (f := .str "LETTERS" "abcdefghijklmnopqrstuvwxyz") rfl)
  have n_all := He.free_ok X G (c.1.fact 7 (f := .free "all") rfl)
  have m_is_name : mg "is_name" = some (.ref (He.ga K "is_name")) := He.glo_ok X G (c.1.fact 8 (f := .glo "is_name") rfl)
  have kf_is_name : FnG P w K mg base lv_is_name (He.fAd K dd_is_name.at_) fd_is_name ps_is_name PL.spIsName := (ok_is_name F_is_name n_str n_isinstance hCs n_len m_MAX_NAME_LENGTH m_LETTERS n_all).imp PL.isName_ok
  have k_is_name : Cal P w K mg base "is_name" lv_is_name ps_is_name PL.spIsName := ⟨_, fd_is_name, m_is_name, F_is_name.kp, F_is_name.bindsN fun _ _ _ _ _ _ us hl => match us, hl with | [_], _ => rfl, kf_is_name⟩
  have n_list := He.free_ok X G (c.1.fact 9 (f := .free "list") rfl)
  obtain ⟨tk_MAX_NODES, m_MAX_NODES⟩ := He.int_ok X G (c.1.fact 10 (f := .int "MAX_NODES" (16)) rfl)
  have n_enumerate := He.free_ok X G (c.1.fact 11 (f := .free "enumerate") rfl)
  have m_require_nodes : mg "require_nodes" = some (.ref (He.ga K "require_nodes")) := He.glo_ok X G (c.1.fact 12 (f := .glo "require_nodes") rfl)
  have kf_require_nodes : FnG P w K mg base lv_require_nodes (He.fAd K dd_require_nodes.at_) fd_require_nodes ps_require_nodes PL.spReqNodes := (ok_require_nodes F_require_nodes n_list n_isinstance hCs n_len m_MAX_NODES n_enumerate k_is_name).imp PL.reqNodes_ok
  have k_require_nodes : Cal P w K mg base "require_nodes" lv_require_nodes ps_require_nodes PL.spReqNodes := ⟨_, fd_require_nodes, m_require_nodes, F_require_nodes.kp, F_require_nodes.bindsN fun _ _ _ _ _ _ us hl => match us, hl with | [_], _ => rfl, kf_require_nodes⟩
  have m_reachable : mg "reachable" = some (.ref (He.ga K "reachable")) := He.glo_ok X G (c.1.fact 13 (f := .glo "reachable") rfl)
  have kf_reachable : FnG P w K mg base lv_reachable (He.fAd K dd_reachable.at_) fd_reachable ps_reachable PL.spReach := (ok_reachable F_reachable n_len).imp PL.reach_ok
  have k_reachable : Cal P w K mg base "reachable" lv_reachable ps_reachable PL.spReach := ⟨_, fd_reachable, m_reachable, F_reachable.kp, F_reachable.bindsN fun _ _ _ _ _ _ us hl => match us, hl with | [_, _], _ => rfl, kf_reachable⟩
  have n_tuple := He.free_ok X G (c.1.fact 14 (f := .free "tuple") rfl)
  have m_edge_problem : mg "edge_problem" = some (.ref (He.ga K "edge_problem")) := He.glo_ok X G (c.1.fact 15 (f := .glo "edge_problem") rfl)
  have kf_edge_problem : FnG P w K mg base lv_edge_problem (He.fAd K dd_edge_problem.at_) fd_edge_problem ps_edge_problem PL.spEdgeS := (ok_edge_problem F_edge_problem n_tuple n_isinstance hCs n_len n_str n_all k_reachable).imp PL.edgeS_ok
  have k_edge_problem : Cal P w K mg base "edge_problem" lv_edge_problem ps_edge_problem PL.spEdgeS := ⟨_, fd_edge_problem, m_edge_problem, F_edge_problem.kp, F_edge_problem.bindsN fun _ _ _ _ _ _ us hl => match us, hl with | [_, _, _], _ => rfl, kf_edge_problem⟩
  have m_require_edges : mg "require_edges" = some (.ref (He.ga K "require_edges")) := He.glo_ok X G (c.1.fact 16 (f := .glo "require_edges") rfl)
  have kf_require_edges : FnG P w K mg base lv_require_edges (He.fAd K dd_require_edges.at_) fd_require_edges ps_require_edges PL.spReqEdges := (ok_require_edges F_require_edges n_list n_isinstance hCs n_enumerate k_edge_problem).imp PL.reqEdges_S
  have k_require_edges : Cal P w K mg base "require_edges" lv_require_edges ps_require_edges PL.spReqEdges := ⟨_, fd_require_edges, m_require_edges, F_require_edges.kp, F_require_edges.bindsN fun _ _ _ _ _ _ us hl => match us, hl with | [_, _], _ => rfl, kf_require_edges⟩
  have a_Graph_own_nodes : NoAttr K (He.ga K "Graph") "own_nodes" := He.noat_ok (c.1.fact 17 (f := .noat "Graph" "own_nodes") rfl)
  have a_Graph_own_edges : NoAttr K (He.ga K "Graph") "own_edges" := He.noat_ok (c.1.fact 18 (f := .noat "Graph" "own_edges") rfl)
  have a_Graph_own_after : NoAttr K (He.ga K "Graph") "own_after" := He.noat_ok (c.1.fact 19 (f := .noat "Graph" "own_after") rfl)
  have kf_Graph_init : FnG P w K mg base lv_Graph_init (He.fAd K dd_Graph_init.at_) fd_Graph_init ps_Graph_init (PL.spInit (He.ga K "Graph")) := (ok_Graph_init F_Graph_init k_require_nodes k_require_edges c_Graph a_Graph_own_nodes n_tuple a_Graph_own_edges a_Graph_own_after k_reachable).imp PL.init_ok
  have kf_Graph_nodes : FnG P w K mg base lv_Graph_nodes (He.fAd K dd_Graph_nodes.at_) fd_Graph_nodes ps_Graph_nodes (PL.spNodes (He.ga K "Graph")) := (ok_Graph_nodes F_Graph_nodes c_Graph a_Graph_own_nodes n_list).imp PL.nodes_ok
  have kf_Graph_edges : FnG P w K mg base lv_Graph_edges (He.fAd K dd_Graph_edges.at_) fd_Graph_edges ps_Graph_edges (PL.spEdges (He.ga K "Graph")) := (ok_Graph_edges F_Graph_edges c_Graph a_Graph_own_edges n_list).imp PL.edges_ok
  have k_Graph_nodes : CalM P w K mg base (He.ga K "Graph") "nodes" lv_Graph_nodes ps_Graph_nodes (PL.spNodes (He.ga K "Graph")) := ⟨_, fd_Graph_nodes, He.meth_ok (c.1.fact 20 (f := .meth "Graph" "nodes") rfl), F_Graph_nodes.bindsN fun _ _ _ _ _ _ us hl => match us, hl with | [_], _ => rfl, kf_Graph_nodes⟩
  have k_Graph_edges : CalM P w K mg base (He.ga K "Graph") "edges" lv_Graph_edges ps_Graph_edges (PL.spEdges (He.ga K "Graph")) := ⟨_, fd_Graph_edges, He.meth_ok (c.1.fact 21 (f := .meth "Graph" "edges") rfl), F_Graph_edges.bindsN fun _ _ _ _ _ _ us hl => match us, hl with | [_], _ => rfl, kf_Graph_edges⟩
  have m_dump_graph : mg "dump_graph" = some (.ref (He.ga K "dump_graph")) := He.glo_ok X G (c.1.fact 22 (f := .glo "dump_graph") rfl)
  have kf_dump_graph : FnG P w K mg base lv_dump_graph (He.fAd K dd_dump_graph.at_) fd_dump_graph ps_dump_graph (PL.spDump (He.ga K "Graph")) := (ok_dump_graph F_dump_graph c_Graph k_Graph_nodes k_Graph_edges).imp PL.dump_ok
  have k_dump_graph : Cal P w K mg base "dump_graph" lv_dump_graph ps_dump_graph (PL.spDump (He.ga K "Graph")) := ⟨_, fd_dump_graph, m_dump_graph, F_dump_graph.kp, F_dump_graph.bindsN fun _ _ _ _ _ _ us hl => match us, hl with | [_], _ => rfl, kf_dump_graph⟩
  have m_read_line : mg "read_line" = some (.ref (He.ga K "read_line")) := He.glo_ok X G (c.1.fact 23 (f := .glo "read_line") rfl)
  have kf_read_line : FnG P w K mg base lv_read_line (He.fAd K dd_read_line.at_) fd_read_line ps_read_line PL.spReadS := (ok_read_line F_read_line n_len m_MAX_NODES k_is_name k_edge_problem n_tuple).imp PL.read_ok
  have k_read_line : Cal P w K mg base "read_line" lv_read_line ps_read_line PL.spReadS := ⟨_, fd_read_line, m_read_line, F_read_line.kp, F_read_line.bindsN fun _ _ _ _ _ _ us hl => match us, hl with | [_, _, _], _ => rfl, kf_read_line⟩
  have m_InvalidText : mg "InvalidText" = some (.ref (He.ga K "InvalidText")) := He.glo_ok X G (c.1.fact 24 (f := .glo "InvalidText") rfl)
  obtain ⟨fd_InvalidText_init, F_InvalidText_init⟩ := c.1.def_ 26 (d := dd_InvalidText_init) rfl
  have hm_InvalidText_init := He.meth_ok (c.1.fact 25 (f := .meth "InvalidText" "__init__") rfl)
  have ox_InvalidText := TLH.oex_of (c.ck 8 (f := TLH.ckOex "InvalidText" XG.mVE "ValueError.__new__") rfl)
  have m_ProgressError : mg "ProgressError" = some (.ref (He.ga K "ProgressError")) := He.glo_ok X G (c.1.fact 26 (f := .glo "ProgressError") rfl)
  obtain ⟨rd_InvalidText, sp_InvalidText, vV_InvalidText⟩ := TLH.rd_of (c.ck 9 (f := TLH.ckRd "ProgressError" "ValueError.__init__") rfl)
  have x_InvalidText : CalX P w K mg base "InvalidText" (He.ga K "InvalidText") 1 ["line"] [.int] := ⟨_, _, _, _, _, fd_InvalidText_init, _, XG.base_VE, ox_InvalidText, hm_InvalidText_init.at_, beq_iff_eq.mp hm_InvalidText_init.fn, okx_InvalidText F_InvalidText_init ox_InvalidText a_InvalidText_line m_ProgressError rd_InvalidText sp_InvalidText vV_InvalidText, F_InvalidText_init.bindsN fun _ _ _ _ _ _ us hl => match us, hl with | [_, _], _ => rfl, m_InvalidText⟩
  have m_Graph : mg "Graph" = some (.ref (He.ga K "Graph")) := He.glo_ok X G (c.1.fact 27 (f := .glo "Graph") rfl)
  obtain ⟨dsx_Graph_init, dv_Graph_init, b_Graph_init⟩ := F_Graph_init.binds1 (ps := ps_Graph_init) 3 1 (by simp [He.DefD.dvs, dd_Graph_init]) rfl fun _ _ _ _ _ _ _ us its h1 h2 => match us, h1, its, h2 with | [_, _, _], _, [_], _ => ⟨_, rfl, rfl⟩
  have k_Graph : CalC P w K mg base "Graph" (He.ga K "Graph") lv_Graph_init ps_Graph_init (PL.spInit (He.ga K "Graph")) [] := ⟨_, fd_Graph_init, _, dsx_Graph_init, m_Graph, He.mkr_ok (c.1.fact 28 (f := .mkr "Graph") rfl), b_Graph_init, dv_Graph_init, Dfl.nil, kf_Graph_init⟩
  have m_load_graph : mg "load_graph" = some (.ref (He.ga K "load_graph")) := He.glo_ok X G (c.1.fact 29 (f := .glo "load_graph") rfl)
  have kf_load_graph : FnG P w K mg base lv_load_graph (He.fAd K dd_load_graph.at_) fd_load_graph ps_load_graph (PL.spLoad (He.ga K "Graph") (He.ga K "InvalidText")) := (ok_load_graph F_load_graph n_str n_isinstance hCs x_InvalidText n_enumerate k_read_line n_len k_Graph).imp PL.load_ok
  have k_load_graph : Cal P w K mg base "load_graph" lv_load_graph ps_load_graph (PL.spLoad (He.ga K "Graph") (He.ga K "InvalidText")) := ⟨_, fd_load_graph, m_load_graph, F_load_graph.kp, F_load_graph.bindsN fun _ _ _ _ _ _ us hl => match us, hl with | [_], _ => rfl, kf_load_graph⟩
  have n_abs := He.free_ok X G (c.1.fact 30 (f := .free "abs") rfl)
  have n_max := He.free_ok X G (c.1.fact 31 (f := .free "max") rfl)
  have m__law_pot : mg "_law_pot" = some (.ref (He.ga K "_law_pot")) := He.glo_ok X G (c.1.fact 32 (f := .glo "_law_pot") rfl)
  have kf_law_pot : FnG P w K mg base lv_law_pot (He.fAd K dd_law_pot.at_) fd_law_pot ps_law_pot PL.spPot := (ok_law_pot F_law_pot n_len n_abs n_max).imp PL.pot_ok
  have k__law_pot : Cal P w K mg base "_law_pot" lv_law_pot ps_law_pot PL.spPot := ⟨_, fd_law_pot, m__law_pot, F_law_pot.kp, F_law_pot.bindsN fun _ _ _ _ _ _ us hl => match us, hl with | [_, _], _ => rfl, kf_law_pot⟩
  have n_divmod := He.free_ok X G (c.1.fact 33 (f := .free "divmod") rfl)
  have m__law_draw : mg "_law_draw" = some (.ref (He.ga K "_law_draw")) := He.glo_ok X G (c.1.fact 34 (f := .glo "_law_draw") rfl)
  have kf_law_draw : FnG P w K mg base lv_law_draw (He.fAd K dd_law_draw.at_) fd_law_draw ps_law_draw PL.spDraw := (ok_law_draw F_law_draw n_divmod).imp PL.draw_ok
  have k__law_draw : Cal P w K mg base "_law_draw" lv_law_draw ps_law_draw PL.spDraw := ⟨_, fd_law_draw, m__law_draw, F_law_draw.kp, F_law_draw.bindsN fun _ _ _ _ _ _ us hl => match us, hl with | [_, _], _ => rfl, kf_law_draw⟩
  have m__law_choice : mg "_law_choice" = some (.ref (He.ga K "_law_choice")) := He.glo_ok X G (c.1.fact 35 (f := .glo "_law_choice") rfl)
  have kf_law_choice : FnG P w K mg base lv_law_choice (He.fAd K dd_law_choice.at_) fd_law_choice ps_law_choice PL.spCh2 := (ok_law_choice F_law_choice k__law_draw n_len).imp PL.choice2_ok
  have k__law_choice : Cal P w K mg base "_law_choice" lv_law_choice ps_law_choice PL.spCh2 := ⟨_, fd_law_choice, m__law_choice, F_law_choice.kp, F_law_choice.bindsN fun _ _ _ _ _ _ us hl => match us, hl with | [_, _], _ => rfl, kf_law_choice⟩
  have n_range := He.free_ok X G (c.1.fact 36 (f := .free "range") rfl)
  have n_zip := He.free_ok X G (c.1.fact 37 (f := .free "zip") rfl)
  have m__law_name : mg "_law_name" = some (.ref (He.ga K "_law_name")) := He.glo_ok X G (c.1.fact 38 (f := .glo "_law_name") rfl)
  have kf_law_name : FnG P w K mg base lv_law_name (He.fAd K dd_law_name.at_) fd_law_name ps_law_name PL.spName := (ok_law_name F_law_name k__law_draw n_range n_zip).imp PL.name_ok
  have k__law_name : Cal P w K mg base "_law_name" lv_law_name ps_law_name PL.spName := ⟨_, fd_law_name, m__law_name, F_law_name.kp, F_law_name.bindsN fun _ _ _ _ _ _ us hl => match us, hl with | [_, _], _ => rfl, kf_law_name⟩
  have m__law_names : mg "_law_names" = some (.ref (He.ga K "_law_names")) := He.glo_ok X G (c.1.fact 39 (f := .glo "_law_names") rfl)
  have kf_law_names : FnG P w K mg base lv_law_names (He.fAd K dd_law_names.at_) fd_law_names ps_law_names PL.spNames := (ok_law_names F_law_names n_range k__law_name).imp PL.names_ok
  have k__law_names : Cal P w K mg base "_law_names" lv_law_names ps_law_names PL.spNames := ⟨_, fd_law_names, m__law_names, F_law_names.kp, F_law_names.bindsN fun _ _ _ _ _ _ us hl => match us, hl with | [_, _], _ => rfl, kf_law_names⟩
  have m__law_mixed : mg "_law_mixed" = some (.ref (He.ga K "_law_mixed")) := He.glo_ok X G (c.1.fact 40 (f := .glo "_law_mixed") rfl)
  have kf_law_mixed : FnG P w K mg base lv_law_mixed (He.fAd K dd_law_mixed.at_) fd_law_mixed ps_law_mixed PL.spMixed := (ok_law_mixed F_law_mixed n_list k__law_draw n_len).imp PL.mixed_ok
  have k__law_mixed : Cal P w K mg base "_law_mixed" lv_law_mixed ps_law_mixed PL.spMixed := ⟨_, fd_law_mixed, m__law_mixed, F_law_mixed.kp, F_law_mixed.bindsN fun _ _ _ _ _ _ us hl => match us, hl with | [_, _], _ => rfl, kf_law_mixed⟩
  have n_min := He.free_ok X G (c.1.fact 41 (f := .free "min") rfl)
  have m__law_graph : mg "_law_graph" = some (.ref (He.ga K "_law_graph")) := He.glo_ok X G (c.1.fact 42 (f := .glo "_law_graph") rfl)
  have kf_law_graph : FnG P w K mg base lv_law_graph (He.fAd K dd_law_graph.at_) fd_law_graph ps_law_graph PL.spGraph := (ok_law_graph F_law_graph k__law_names k__law_draw n_min k__law_mixed n_len n_range).imp PL.graph_ok
  have k__law_graph : Cal P w K mg base "_law_graph" lv_law_graph ps_law_graph PL.spGraph := ⟨_, fd_law_graph, m__law_graph, F_law_graph.kp, F_law_graph.bindsN fun _ _ _ _ _ _ us hl => match us, hl with | [_, _], _ => rfl, kf_law_graph⟩
  have m__law_is_name : mg "_law_is_name" = some (.ref (He.ga K "_law_is_name")) := He.glo_ok X G (c.1.fact 43 (f := .glo "_law_is_name") rfl)
  have kf_law_is_name : FnG P w K mg base lv_law_is_name (He.fAd K dd_law_is_name.at_) fd_law_is_name ps_law_is_name PL.spLName := (ok_law_is_name F_law_is_name n_len).imp PL.lname_ok
  have k__law_is_name : Cal P w K mg base "_law_is_name" lv_law_is_name ps_law_is_name PL.spLName := ⟨_, fd_law_is_name, m__law_is_name, F_law_is_name.kp, F_law_is_name.bindsN fun _ _ _ _ _ _ us hl => match us, hl with | [_], _ => rfl, kf_law_is_name⟩
  have m__law_leads : mg "_law_leads" = some (.ref (He.ga K "_law_leads")) := He.glo_ok X G (c.1.fact 44 (f := .glo "_law_leads") rfl)
  have kf_law_leads : FnG P w K mg base lv_law_leads (He.fAd K dd_law_leads.at_) fd_law_leads ps_law_leads PL.spLeads := (ok_law_leads F_law_leads n_len).imp PL.leads_ok
  have k__law_leads : Cal P w K mg base "_law_leads" lv_law_leads ps_law_leads PL.spLeads := ⟨_, fd_law_leads, m__law_leads, F_law_leads.kp, F_law_leads.bindsN fun _ _ _ _ _ _ us hl => match us, hl with | [_, _, _], _ => rfl, kf_law_leads⟩
  have m__law_line_fits : mg "_law_line_fits" = some (.ref (He.ga K "_law_line_fits")) := He.glo_ok X G (c.1.fact 45 (f := .glo "_law_line_fits") rfl)
  have kf_law_line_fits : FnG P w K mg base lv_law_line_fits (He.fAd K dd_law_line_fits.at_) fd_law_line_fits ps_law_line_fits PL.spFits := (ok_law_line_fits F_law_line_fits n_len k__law_is_name n_tuple k__law_leads).imp PL.fits_ok
  have k__law_line_fits : Cal P w K mg base "_law_line_fits" lv_law_line_fits ps_law_line_fits PL.spFits := ⟨_, fd_law_line_fits, m__law_line_fits, F_law_line_fits.kp, F_law_line_fits.bindsN fun _ _ _ _ _ _ us hl => match us, hl with | [_, _, _], _ => rfl, kf_law_line_fits⟩
  have m__law_expected : mg "_law_expected" = some (.ref (He.ga K "_law_expected")) := He.glo_ok X G (c.1.fact 46 (f := .glo "_law_expected") rfl)
  have kf_law_expected : FnG P w K mg base lv_law_expected (He.fAd K dd_law_expected.at_) fd_law_expected ps_law_expected PL.spExp := (ok_law_expected F_law_expected n_len n_range k__law_line_fits).imp PL.exp_ok
  have k__law_expected : Cal P w K mg base "_law_expected" lv_law_expected ps_law_expected PL.spExp := ⟨_, fd_law_expected, m__law_expected, F_law_expected.kp, F_law_expected.bindsN fun _ _ _ _ _ _ us hl => match us, hl with | [_], _ => rfl, kf_law_expected⟩
  have m__law_odd_line : mg "_law_odd_line" = some (.ref (He.ga K "_law_odd_line")) := He.glo_ok X G (c.1.fact 47 (f := .glo "_law_odd_line") rfl)
  have kf_law_odd_line : FnG P w K mg base lv_law_odd_line (He.fAd K dd_law_odd_line.at_) fd_law_odd_line ps_law_odd_line PL.spOdd := (ok_law_odd_line F_law_odd_line k__law_choice k__law_draw n_len).imp PL.odd_ok
  have k__law_odd_line : Cal P w K mg base "_law_odd_line" lv_law_odd_line ps_law_odd_line PL.spOdd := ⟨_, fd_law_odd_line, m__law_odd_line, F_law_odd_line.kp, F_law_odd_line.bindsN fun _ _ _ _ _ _ us hl => match us, hl with | [_, _], _ => rfl, kf_law_odd_line⟩
  have m__law_spoilt : mg "_law_spoilt" = some (.ref (He.ga K "_law_spoilt")) := He.glo_ok X G (c.1.fact 48 (f := .glo "_law_spoilt") rfl)
  have kf_law_spoilt : FnG P w K mg base lv_law_spoilt (He.fAd K dd_law_spoilt.at_) fd_law_spoilt ps_law_spoilt PL.spSpoilt := (ok_law_spoilt F_law_spoilt k__law_draw k__law_choice n_len k__law_odd_line).imp PL.spoilt_ok
  have k__law_spoilt : Cal P w K mg base "_law_spoilt" lv_law_spoilt ps_law_spoilt PL.spSpoilt := ⟨_, fd_law_spoilt, m__law_spoilt, F_law_spoilt.kp, F_law_spoilt.bindsN fun _ _ _ _ _ _ us hl => match us, hl with | [_, _], _ => rfl, kf_law_spoilt⟩
  have m_InvalidGraph : mg "InvalidGraph" = some (.ref (He.ga K "InvalidGraph")) := He.glo_ok X G (c.1.fact 49 (f := .glo "InvalidGraph") rfl)
  have m_InvalidNodes : mg "InvalidNodes" = some (.ref (He.ga K "InvalidNodes")) := He.glo_ok X G (c.1.fact 50 (f := .glo "InvalidNodes") rfl)
  have m_InvalidCommand : mg "InvalidCommand" = some (.ref (He.ga K "InvalidCommand")) := He.glo_ok X G (c.1.fact 51 (f := .glo "InvalidCommand") rfl)
  have n_ValueError := He.free_ok X G (c.1.fact 52 (f := .free "ValueError") rfl)
  have m__law_outcome : mg "_law_outcome" = some (.ref (He.ga K "_law_outcome")) := He.glo_ok X G (c.1.fact 53 (f := .glo "_law_outcome") rfl)
  have kf_law_outcome : FnG P w K mg base lv_law_outcome (He.fAd K dd_law_outcome.at_) fd_law_outcome ps_law_outcome PL.spOutc := (ok_law_outcome F_law_outcome k_load_graph m_Graph n_isinstance hCs k_dump_graph m_ProgressError m_InvalidGraph m_InvalidNodes m_InvalidCommand m_InvalidText n_ValueError).imp (PL.outc_ok (by simp) ⟨xf_InvalidText, exk_InvalidText, a_InvalidText_line, exm_InvalidText_ProgressError, kit_InvalidText_InvalidGraph, kit_InvalidText_InvalidNodes, kit_InvalidText_InvalidCommand, kit_InvalidText_ValueError⟩)
  have k__law_outcome : Cal P w K mg base "_law_outcome" lv_law_outcome ps_law_outcome PL.spOutc := ⟨_, fd_law_outcome, m__law_outcome, F_law_outcome.kp, F_law_outcome.bindsN fun _ _ _ _ _ _ us hl => match us, hl with | [_], _ => rfl, kf_law_outcome⟩
  have n_repr := He.free_ok X G (c.1.fact 54 (f := .free "repr") rfl)
  have m_law : mg "law" = some (.ref (He.ga K "law")) := He.glo_ok X G (c.1.fact 55 (f := .glo "law") rfl)
  have kf_law : FnG P w K mg base lv_law (He.fAd K dd_law.at_) fd_law ps_law PL.spLaw := (ok_law F_law n_len n_min n_max n_range k__law_pot k__law_graph k__law_outcome k__law_expected k__law_draw k__law_spoilt n_repr).imp PL.law_ok
  have k_law : Cal P w K mg base "law" lv_law ps_law PL.spLaw := ⟨_, fd_law, m_law, F_law.kp, F_law.bindsN fun _ _ _ _ _ _ us hl => match us, hl with | [_], _ => rfl, kf_law⟩
  exact kf_law
end EN
open PySem PySem.W PySem.Calls PyProof.Rows
theorem PySem.Challenge.cw_progressbounds_k17_whole_graph_texts_spo_holds : PySem.Challenge.rw_progressbounds_k17_whole_graph_texts_spo.Holds := by
  w_on; o_law
  refine HandSHeadRun.head_any (r := OpenLaw.row PySem.Challenge.rw_progressbounds_k17_whole_graph_texts_spo) (q := view (OpenLaw.row PySem.Challenge.rw_progressbounds_k17_whole_graph_texts_spo).prog [39]) (H := EN.hk) (ob := EN.ob) (M := 14000) (loose := EN.names) (d := HandSHeadRun.topDef (OpenLaw.row PySem.Challenge.rw_progressbounds_k17_whole_graph_texts_spo).prog 39) (kwd := []) EN.ob_eq
    (by kernel_rfl) (fun s => by kernel_rfl) EN.run (by kernel_rfl) (by kernel_rfl) (by kernel_rfl) (by rfl) (by first | assumption | decide +kernel) (by decide +kernel) ⟨rfl, rfl, rfl, rfl, rfl, by decide +kernel⟩ ?hw ?hc
  case hw => w_witness2
  case hc =>
    refine TL.walk_ofG (l := PySem.Challenge.rw_progressbounds_k17_whole_graph_texts_spo) (n := 63) (k := WK.lv_law) (x := "script") rfl (by decide) (by kernel_rfl) ⟨rfl, by decide, by decide⟩ ?F
    intro w mg fa h Y G hmg0
    obtain ⟨K, KX, c⟩ := Y
    have hmg : mg ("law" : PySem.Str) = some (.ref fa) := by
      have e : (HandSHeadRun.topDef (OpenLaw.row PySem.Challenge.rw_progressbounds_k17_whole_graph_texts_spo).prog 39).name = ("law" : PySem.Str) := by kernel_rfl
      rw [← e]
      exact hmg0
    obtain ⟨fd, hb, hm, hF⟩ := EN.chain (P := (PySem.Challenge.rw_progressbounds_k17_whole_graph_texts_spo).prog) (w := w) (base := h) KX G c
    obtain rfl : fa = He.ga K "law" := by
      have := hmg.symm.trans hm
      cases this
      rfl
    exact ⟨K, fd, PL.spLaw, KX, hb, fun ns hl => ⟨ns, rfl, hl, fun _ => rfl⟩, fun base _ _ => hF base⟩
