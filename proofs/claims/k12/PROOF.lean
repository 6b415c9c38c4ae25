import PyProof.Rows.All
import Wide.All
import OpenK.AllK
import Wide.FinOn
import HandS.ForMost
import HandS.Flow
import HandS.Style
import HandS.IsInst
import HandS.Defaults
import HandS.Ends
import HandS.HeadEnd
import HandS.Codes
import HandS.TupAny
import HandS.Wide
import HandS.Zip
import HandS.Deep
import HandS.RaiseMore
import HandS.Replace
import HandS.WordsDict
import PyProof.StrOps2
import PyProof.FitsStr
import HandS.SortInts
import PyProof.ReprRoads
import KE.KStateDown
import Lean
import HandS.Head0
import HandS.Head1
import HandS.Head2
import HandS.HeadHook1
import HandS.HeadHook2
import KE.KUnpackStar
import HandS.Small
import HandS.Conv
import HandS.More
import HandS.List
import HandS.DictComp
import KE.KDictZip
import HandS.ListItems
import KE.GoesMore
import PyProof.Draws
import PySem.Challenge.RW_errandchests_k12_works_found_in_rings
set_option Elab.async false
set_option linter.all false
set_option maxRecDepth 100000
set_option maxHeartbeats 1000000
set_option autoImplicit false
/-! Mi: values as data, slots as owned or shared; each rule of the hand layer read as a plain function of data -/
namespace Mi
open PySem PySem.Spec PyProof.Rows L2

/-- a bound of which the kernel is not to make units -/
def big (p : Prop) : Prop := p
noncomputable instance big.dec (p : Prop) : Decidable (big p) := Classical.propDecidable _
/-- plain data -/
inductive D where
  | non | bl (b : Bool) | int (i : Int) | str (x : Str) | ty (n : String)
  | tup (xs : List D) | lst (xs : List D) | frl (xs : List D) | dic (kvs : List (Key × D))

/-- not a lock -/
def Pl : HO → Prop
  | .frz _ _ => False
  | _ => True
structure Sub (F F' : Hp) : Prop where
  rd : ∀ a u, Pl u → Rd F a u → Rd F' a u
  ls : ∀ a vs, F a = some (.lst vs) → F' a = some (.lst vs)
  ts : ∀ a vs, F a = some (.tup vs) → F' a = some (.tup vs)
theorem Sub.refl (F : Hp) : Sub F F := ⟨fun _ _ _ h => h, fun _ _ h => h, fun _ _ h => h⟩
theorem Sub.trans {F F1 F2 : Hp} (a : Sub F F1) (b : Sub F1 F2) : Sub F F2 := ⟨fun x u p h => b.rd x u p (a.rd x u p h), fun x u h => b.ls x u (a.ls x u h), fun x u h => b.ts x u (a.ts x u h)⟩
def Le (F H : Hp) : Prop := ∀ a o, F a = some o → H a = some o
theorem Le.sub {F H : Hp} (h : Le F H) : Sub F H := ⟨fun a u _ r => by
  rcases r with r | ⟨o, r⟩
  · exact .inl (h _ _ r)
  · exact .inr ⟨o, h _ _ r⟩, fun a vs e => h _ _ e, fun a vs e => h _ _ e⟩
theorem Le.refl (F : Hp) : Le F F := fun _ _ h => h
theorem Le.trans {F G H : Hp} (a : Le F G) (b : Le G H) : Le F H := fun x o h => b x o (a x o h)
theorem le_upd {F : Hp} {p : Addr} {o : HO} (h : F p = none) : Le F (upd F p o) := fun a u e => by
  rw [upd_ne (ne_of_none e h)]; exact e
theorem Le.none {F H : Hp} (h : Le F H) {a : Addr} (e : H a = none) : F a = none := by
  cases q : F a with
  | none => rfl
  | some o => rw [h a o q] at e; cases e

/-- a tuple that stands in F, or one of the module's own -/
def TqT (K : PySem.W.Frag) (F : Hp) (a : Addr) (xs : List V) : Prop := F a = some (.tup xs) ∨ SqT K (fun _ => none) a xs
mutual
inductive Sh (K : PySem.W.Frag) (F : Hp) : V → D → Prop
  | non : Sh K F .non .non
  | bl (b : Bool) : Sh K F (.bl b) (.bl b)
  | int (i : Int) : Sh K F (.int i) (.int i)
  | str (x : Str) : Sh K F (.str x) (.str x)
  | ty (n : String) : Sh K F (.ty n) (.ty n)
  | tup {a : Addr} {vs : List V} {ds : List D} : TqT K F a vs → Shs K F vs ds → Sh K F (.ref a) (.tup ds)
  | lst {a : Addr} {vs : List V} {ds : List D} : F a = some (.lst vs) → Shs K F vs ds → Sh K F (.ref a) (.lst ds)
  | frl {a : Addr} {vs : List V} {ds : List D} : SqL K F a vs → Shs K F vs ds → Sh K F (.ref a) (.frl ds)
  | dic {a : Addr} {vs : List (Key × V)} {ds : List (Key × D)} : Rd F a (.dK vs) → Shk K F vs ds → Sh K F (.ref a) (.dic ds)
inductive Shs (K : PySem.W.Frag) (F : Hp) : List V → List D → Prop
  | nil : Shs K F [] []
  | cons {v : V} {vs : List V} {d : D} {ds : List D} : Sh K F v d → Shs K F vs ds → Shs K F (v :: vs) (d :: ds)
inductive Shk (K : PySem.W.Frag) (F : Hp) : List (Key × V) → List (Key × D) → Prop
  | nil : Shk K F [] []
  | cons {k : Key} {v : V} {vs : List (Key × V)} {d : D} {ds : List (Key × D)} : Sh K F v d → Shk K F vs ds → Shk K F ((k, v) :: vs) ((k, d) :: ds)
end

theorem TqT.sq {K : PySem.W.Frag} {F : Hp} {a : Addr} {xs : List V} (h : TqT K F a xs) : SqT K F a xs := by
  rcases h with h | (h | ⟨o, h⟩) | h
  · exact .inl (.inl h)
  · cases h
  · cases h
  · exact .inr h
theorem TqT.sub {K : PySem.W.Frag} {F F' : Hp} (s : Sub F F') {a : Addr} {xs : List V} (h : TqT K F a xs) : TqT K F' a xs := by
  rcases h with h | h
  · exact .inl (s.ts _ _ h)
  · exact .inr h
theorem sqT_sub {K : PySem.W.Frag} {F F' : Hp} (s : Sub F F') {a : Addr} {xs : List V} (h : SqT K F a xs) : SqT K F' a xs := by
  rcases h with h | h
  · exact .inl (s.rd _ _ trivial h)
  · exact .inr h
theorem sqL_sub {K : PySem.W.Frag} {F F' : Hp} (s : Sub F F') {a : Addr} {xs : List V} (h : SqL K F a xs) : SqL K F' a xs := by
  rcases h with h | h
  · exact .inl (s.rd _ _ trivial h)
  · exact .inr h
mutual
theorem Sh.sub {K : PySem.W.Frag} {F F' : Hp} (s : Sub F F') : ∀ {v : V} {d : D}, Sh K F v d → Sh K F' v d
  | _, _, .non => .non
  | _, _, .bl b => .bl b
  | _, _, .int b => .int b
  | _, _, .str b => .str b
  | _, _, .ty b => .ty b
  | _, _, .tup h r => .tup (h.sub s) (Shs.sub s r)
  | _, _, .lst h r => .lst (s.ls _ _ h) (Shs.sub s r)
  | _, _, .frl h r => .frl (sqL_sub s h) (Shs.sub s r)
  | _, _, .dic h r => .dic (s.rd _ _ trivial h) (Shk.sub s r)
theorem Shs.sub {K : PySem.W.Frag} {F F' : Hp} (s : Sub F F') : ∀ {v : List V} {d : List D}, Shs K F v d → Shs K F' v d
  | _, _, .nil => .nil
  | _, _, .cons h r => .cons (Sh.sub s h) (Shs.sub s r)
theorem Shk.sub {K : PySem.W.Frag} {F F' : Hp} (s : Sub F F') : ∀ {v : List (Key × V)} {d : List (Key × D)}, Shk K F v d → Shk K F' v d
  | _, _, .nil => .nil
  | _, _, .cons h r => .cons (Sh.sub s h) (Shk.sub s r)
end

theorem Shs.length {K : PySem.W.Frag} {F : Hp} : ∀ {vs : List V} {ds : List D}, Shs K F vs ds → vs.length = ds.length
  | _, _, .nil => rfl
  | _, _, .cons _ r => by simp [Shs.length r]
theorem Shs.get {K : PySem.W.Frag} {F : Hp} : ∀ {vs : List V} {ds : List D}, Shs K F vs ds → ∀ {i : Nat} {d : D}, ds[i]? = some d → ∃ v, vs[i]? = some v ∧ Sh K F v d
  | _, _, .nil, i, d, e => by simp at e
  | _, _, .cons h r, 0, d, e => by simp at e; subst e; exact ⟨_, rfl, h⟩
  | _, _, .cons h r, i + 1, d, e => by
    obtain ⟨v, e1, e2⟩ := Shs.get r (i := i) (d := d) (by simpa using e)
    exact ⟨v, by simpa using e1, e2⟩
theorem Shs.getV {K : PySem.W.Frag} {F : Hp} : ∀ {vs : List V} {ds : List D}, Shs K F vs ds → ∀ {i : Nat} {v : V}, vs[i]? = some v → ∃ d, ds[i]? = some d ∧ Sh K F v d
  | _, _, .nil, i, d, e => by simp at e
  | _, _, .cons h r, 0, d, e => by simp at e; subst e; exact ⟨_, rfl, h⟩
  | _, _, .cons h r, i + 1, d, e => by
    obtain ⟨v, e1, e2⟩ := Shs.getV r (i := i) (v := d) (by simpa using e)
    exact ⟨v, by simpa using e1, e2⟩
theorem Shs.append {K : PySem.W.Frag} {F : Hp} : ∀ {vs ws : List V} {ds es : List D}, Shs K F vs ds → Shs K F ws es → Shs K F (vs ++ ws) (ds ++ es)
  | _, _, _, _, .nil, r => r
  | _, _, _, _, .cons h t, r => .cons h (Shs.append t r)
theorem Shs.one {K : PySem.W.Frag} {F : Hp} {v : V} {d : D} (h : Sh K F v d) : Shs K F [v] [d] := .cons h .nil
theorem Shs.take {K : PySem.W.Frag} {F : Hp} : ∀ {vs : List V} {ds : List D} (n : Nat), Shs K F vs ds → Shs K F (vs.take n) (ds.take n)
  | _, _, 0, _ => by simpa using Shs.nil
  | _, _, n + 1, .nil => by simpa using Shs.nil
  | _, _, n + 1, .cons h r => by simpa using Shs.cons h (Shs.take n r)
theorem Shs.drop {K : PySem.W.Frag} {F : Hp} : ∀ {vs : List V} {ds : List D} (n : Nat), Shs K F vs ds → Shs K F (vs.drop n) (ds.drop n)
  | _, _, 0, h => by simpa using h
  | _, _, n + 1, .nil => by simpa using Shs.nil
  | _, _, n + 1, .cons h r => by simpa using Shs.drop n r
theorem Shs.set {K : PySem.W.Frag} {F : Hp} : ∀ {vs : List V} {ds : List D} (i : Nat) {v : V} {d : D}, Shs K F vs ds → Sh K F v d → Shs K F (vs.set i v) (ds.set i d)
  | _, _, _, _, _, .nil, _ => by simpa using Shs.nil
  | _, _, 0, _, _, .cons h r, q => by simpa using Shs.cons q r
  | _, _, i + 1, _, _, .cons h r, q => by simpa using Shs.cons h (Shs.set i r q)
theorem Shs.eraseIdx {K : PySem.W.Frag} {F : Hp} : ∀ {vs : List V} {ds : List D} (i : Nat), Shs K F vs ds → Shs K F (vs.eraseIdx i) (ds.eraseIdx i)
  | _, _, _, .nil => by simpa using Shs.nil
  | _, _, 0, .cons h r => by simpa using r
  | _, _, i + 1, .cons h r => by simpa using Shs.cons h (Shs.eraseIdx i r)
theorem Shs.reverse {K : PySem.W.Frag} {F : Hp} : ∀ {vs : List V} {ds : List D}, Shs K F vs ds → Shs K F vs.reverse ds.reverse
  | _, _, .nil => by simpa using Shs.nil
  | _, _, .cons h r => by simpa using Shs.append (Shs.reverse r) (Shs.one h)

/-! ### slots -/
structure W where
  own : Bool
  pin : Bool
  d : D
abbrev En := List (Option W)
/-- what an owned object at a holds -/
def OwO (K : PySem.W.Frag) (F H : Hp) (a : Addr) : D → Prop
  | .lst ds => ∃ vs, H a = some (.lst vs) ∧ Shs K F vs ds
  | .dic ds => ∃ vs, H a = some (.dK vs) ∧ Shk K F vs ds
  | _ => False
theorem OwO.there {K : PySem.W.Frag} {F H : Hp} {a : Addr} {d : D} (h : OwO K F H a d) : ∃ o, H a = some o := by
  cases d <;> first
    | (obtain ⟨vs, e, _⟩ := h; exact ⟨_, e⟩)
    | exact h.elim
theorem OwO.sub {K : PySem.W.Frag} {F H F' H' : Hp} {a : Addr} {d : D} (h : OwO K F H a d) (s : Sub F F') (e : H' a = H a) : OwO K F' H' a d := by
  cases d <;> first
    | (obtain ⟨vs, q, r⟩ := h; exact ⟨vs, e.trans q, r.sub s⟩)
    | exact h.elim
/-- it may be frozen -/
theorem OwO.freeze {K : PySem.W.Frag} {F H : Hp} {a : Addr} {d : D} (h : OwO K F H a d) (n : F a = none) : ∃ o, H a = some o ∧ Sh K (upd F a o) (.ref a) d := by
  have s : ∀ o, Sub F (upd F a o) := fun o => (le_upd n).sub
  cases d with
  | lst ds => obtain ⟨vs, q, r⟩ := h; exact ⟨_, q, .lst upd_same (r.sub (s _))⟩
  | dic ds => obtain ⟨vs, q, r⟩ := h; exact ⟨_, q, .dic (.inl upd_same) (r.sub (s _))⟩
  | _ => exact h.elim

def HW (K : PySem.W.Frag) (F H : Hp) (v : V) (w : W) : Prop :=
  if w.own = true then ∃ a, v = .ref a ∧ F a = none ∧ OwO K F H a w.d else Sh K F v w.d
def Own (σ : L2.St) (ρ : En) (a : Addr) : Prop := ∃ (i : Nat) (p : Bool) (d : D), ρ[i]? = some (some ⟨true, p, d⟩) ∧ σ[i]? = some (some (.ref a))
structure Rep (K : PySem.W.Frag) (F H : Hp) (σ : L2.St) (ρ : En) : Prop where
  le : Le F H
  at_ : ∀ (i : Nat) (w : W), ρ[i]? = some (some w) → ∃ v, σ[i]? = some (some v) ∧ HW K F H v w
  inj : ∀ (i j : Nat) (p q : Bool) (d e : D) (a : Addr), ρ[i]? = some (some ⟨true, p, d⟩) → ρ[j]? = some (some ⟨true, q, e⟩) → σ[i]? = some (some (.ref a)) → σ[j]? = some (some (.ref a)) → i = j
  len : σ.length = ρ.length
theorem Rep.own_there {K : PySem.W.Frag} {F H : Hp} {σ : L2.St} {ρ : En} (R : Rep K F H σ ρ) {a : Addr} (h : Own σ ρ a) : F a = none ∧ ∃ o, H a = some o := by
  obtain ⟨i, p, d, e1, e2⟩ := h
  obtain ⟨v, e3, h⟩ := R.at_ i _ e1
  rw [e2] at e3; cases e3
  obtain ⟨b, e, n, o⟩ : ∃ b, V.ref a = .ref b ∧ F b = none ∧ OwO K F H b d := by simpa [HW] using h
  cases e
  exact ⟨n, o.there⟩

structure Ex (K : PySem.W.Frag) (F H : Hp) (σ : L2.St) (ρ : En) (F' H' : Hp) (σ' : L2.St) (ρ' : En) : Prop where
  rep : Rep K F' H' σ' ρ'
  sub : Sub F F'
  frame : ∀ a o, H a = some o → ¬ Own σ ρ a → H' a = some o
  live : ∀ a o, H a = some o → ∃ o', H' a = some o'
  newF : ∀ a o, F' a = some o → (∃ u, F a = some u) ∨ H a = none ∨ Own σ ρ a
  own : ∀ (i : Nat) (p : Bool) (d : D) (a : Addr), ρ'[i]? = some (some ⟨true, p, d⟩) → σ'[i]? = some (some (.ref a)) → (∃ d', ρ[i]? = some (some ⟨true, p, d'⟩) ∧ σ[i]? = some (some (.ref a))) ∨ H a = none
  asg : ∀ (i : Nat) (w : W), ρ[i]? = some (some w) → ∃ w', ρ'[i]? = some (some w')
  pin : ∀ (i : Nat) (w : W), ρ[i]? = some (some w) → w.pin = true → σ'[i]? = σ[i]? ∧ ∃ w', ρ'[i]? = some (some w') ∧ w'.pin = true
  len : ρ'.length = ρ.length
section
variable {K : PySem.W.Frag} {F H F' H' F'' H'' : Hp} {σ σ' σ'' : L2.St} {ρ ρ' ρ'' : En}
theorem Ex.refl (R : Rep K F H σ ρ) : Ex K F H σ ρ F H σ ρ :=
  ⟨R, Sub.refl _, fun _ _ h _ => h, fun _ o h => ⟨o, h⟩, fun _ o h => .inl ⟨o, h⟩, fun i p d a h1 h2 => .inl ⟨d, h1, h2⟩, fun i w h => ⟨w, h⟩, fun i w h p => ⟨rfl, w, h, p⟩, rfl⟩
theorem Ex.ownd (X : Ex K F H σ ρ F' H' σ' ρ') {a : Addr} (h : Own σ' ρ' a) : Own σ ρ a ∨ H a = none := by
  obtain ⟨i, p, d, e1, e2⟩ := h
  rcases X.own i p d a e1 e2 with ⟨d', e3, e4⟩ | e
  · exact .inl ⟨i, p, d', e3, e4⟩
  · exact .inr e
theorem Ex.none_back (X : Ex K F H σ ρ F' H' σ' ρ') {a : Addr} (h : H' a = none) : H a = none := by
  cases q : H a with
  | none => rfl
  | some o => obtain ⟨o', e⟩ := X.live a o q; rw [e] at h; cases h
theorem Ex.trans (X : Ex K F H σ ρ F' H' σ' ρ') (Y : Ex K F' H' σ' ρ' F'' H'' σ'' ρ'') : Ex K F H σ ρ F'' H'' σ'' ρ'' where
  rep := Y.rep
  sub := X.sub.trans Y.sub
  frame := fun a o h n => Y.frame a o (X.frame a o h n) fun z => by
    rcases X.ownd z with z | z
    · exact n z
    · rw [z] at h; cases h
  live := fun a o h => by
    obtain ⟨o', e⟩ := X.live a o h
    exact Y.live a o' e
  newF := fun a o h => by
    rcases Y.newF a o h with ⟨u, e⟩ | e | e
    · exact X.newF a u e
    · exact .inr (.inl (X.none_back e))
    · rcases X.ownd e with z | z
      · exact .inr (.inr z)
      · exact .inr (.inl z)
  own := fun i p d a h1 h2 => by
    rcases Y.own i p d a h1 h2 with ⟨d', e3, e4⟩ | e
    · exact X.own i p d' a e3 e4
    · exact .inr (X.none_back e)
  asg := fun i w h => by
    obtain ⟨w', e⟩ := X.asg i w h
    exact Y.asg i w' e
  pin := fun i w h p => by
    obtain ⟨e1, w', e2, p'⟩ := X.pin i w h p
    obtain ⟨e3, w2, e4, p2⟩ := Y.pin i w' e2 p'
    exact ⟨e3.trans e1, w2, e4, p2⟩
  len := Y.len.trans X.len

theorem HW.ex {v : V} {w : W} (h : HW K F H v w) (s : Sub F F') (hf : ∀ a, v = .ref a → w.own = true → F' a = none ∧ H' a = H a) : HW K F' H' v w := by
  unfold HW at h ⊢
  split
  · rename_i ho
    rw [if_pos ho] at h
    obtain ⟨a, e, n, o⟩ := h
    obtain ⟨q1, q2⟩ := hf a e ho
    exact ⟨a, e, q1, o.sub s q2⟩
  · rename_i ho
    rw [if_neg ho] at h
    exact h.sub s
end

/-! ### what an expression tells -/
inductive Rv where
  | sh (d : D) | ow (d : D) | at (i : Nat)
def HR (K : PySem.W.Frag) (F H : Hp) (σ : L2.St) (ρ : En) (v : V) : Rv → Prop
  | .sh d => Sh K F v d
  | .ow d => ∃ a, v = .ref a ∧ F a = none ∧ OwO K F H a d ∧ ¬ Own σ ρ a
  | .at i => σ[i]? = some (some v) ∧ ∃ w, ρ[i]? = some (some w)
/-- a new object is new -/
def Nw (H : Hp) (v : V) : Rv → Prop
  | .ow _ => ∃ a, v = .ref a ∧ H a = none
  | _ => True
section
variable {K : PySem.W.Frag} {F H F' H' F'' H'' : Hp} {σ σ' σ'' : L2.St} {ρ ρ' ρ'' : En} {v : V} {r : Rv}
theorem HR.ex (h : HR K F H σ ρ v r) (X : Ex K F H σ ρ F' H' σ ρ') : HR K F' H' σ ρ' v r := by
  cases r with
  | sh d => exact Sh.sub X.sub h
  | ow d =>
    obtain ⟨a, e, n, o, no⟩ := h
    obtain ⟨ob, eo⟩ := o.there
    have hn : F' a = none := by
      cases q : F' a with
      | none => rfl
      | some z =>
        rcases X.newF a z q with ⟨u, e'⟩ | e' | e'
        · rw [n] at e'; cases e'
        · rw [eo] at e'; cases e'
        · exact absurd e' no
    refine ⟨a, e, hn, o.sub X.sub ((X.frame a ob eo no).trans eo.symm), fun z => ?_⟩
    rcases X.ownd z with z | z
    · exact no z
    · rw [eo] at z; cases z
  | «at» i =>
    obtain ⟨e, w, h⟩ := h
    exact ⟨e, X.asg i w h⟩
theorem Nw.back {v : V} {r : Rv} (h : Nw H' v r) (X : Ex K F H σ ρ F' H' σ' ρ') : Nw H v r := by
  cases r with
  | ow d => obtain ⟨a, e, n⟩ := h; exact ⟨a, e, X.none_back n⟩
  | _ => trivial

/-- what it holds now -/
def peek (ρ : En) : Rv → Option D
  | .sh d => some d
  | .ow d => some d
  | .at i => match ρ[i]? with
    | some (some w) => some w.d
    | _ => none
/-- readable now -/
def Bo (K : PySem.W.Frag) (F H : Hp) (v : V) (d : D) : Prop := Sh K F v d ∨ ∃ a, v = .ref a ∧ F a = none ∧ OwO K F H a d
theorem HW.bo {w : W} (h : HW K F H v w) : Bo K F H v w.d := by
  unfold HW at h
  split at h
  · exact .inr h
  · exact .inl h
theorem HR.bo (R : Rep K F H σ ρ) (h : HR K F H σ ρ v r) {d : D} (e : peek ρ r = some d) : Bo K F H v d := by
  cases r with
  | sh d' => cases e; exact .inl h
  | ow d' => cases e; obtain ⟨a, e, n, o, _⟩ := h; exact .inr ⟨a, e, n, o⟩
  | «at» i =>
    obtain ⟨e1, w, e2⟩ := h
    simp only [peek, e2] at e
    cases e
    obtain ⟨v', e3, h⟩ := R.at_ i w e2
    rw [e1] at e3; cases e3
    exact h.bo
/-- it becomes shared -/
def shr (ρ : En) : Rv → Option (D × En)
  | .sh d => some (d, ρ)
  | .ow d => some (d, ρ)
  | .at i => match ρ[i]? with
    | some (some w) => some (w.d, ρ.set i (some ⟨false, w.pin, w.d⟩))
    | _ => none

theorem set_get {α : Type} {l : List α} {i j : Nat} {x y : α} (h : (l.set i x)[j]? = some y) : (i = j ∧ y = x ∧ i < l.length) ∨ (i ≠ j ∧ l[j]? = some y) := by
  by_cases e : i = j
  · subst e
    rw [List.getElem?_set] at h
    split at h
    · split at h
      · exact .inl ⟨rfl, (Option.some.inj h).symm, by assumption⟩
      · cases h
    · rename_i hh; exact absurd rfl hh
  · rw [List.getElem?_set_ne e] at h
    exact .inr ⟨e, h⟩

/-- the heap of the shared grows by one that nobody owns, or the slot i does no longer -/
theorem Ex.freeze_at (R : Rep K F H σ ρ) {i : Nat} {w : W} (e : ρ[i]? = some (some w)) (hv : σ[i]? = some (some v)) :
    ∃ F', Ex K F H σ ρ F' H σ (ρ.set i (some ⟨false, w.pin, w.d⟩)) ∧ Sh K F' v w.d := by
  obtain ⟨v', e3, h⟩ := R.at_ i w e
  rw [hv] at e3; cases e3
  have il : i < ρ.length := (List.getElem?_eq_some_iff.mp e).1
  unfold HW at h
  by_cases ho : w.own = true
  · rw [if_pos ho] at h
    obtain ⟨a, ea, n, o⟩ := h
    obtain ⟨ob, eo, hs⟩ := o.freeze n
    have ew : w = ⟨true, w.pin, w.d⟩ := by cases w; simp at ho; simp [ho]
    have hown : Own σ ρ a := ⟨i, w.pin, w.d, by rw [← ew]; exact e, by rw [hv, ea]⟩
    have sb : Sub F (upd F a ob) := (le_upd n).sub
    have oth : ∀ (j : Nat) (p : Bool) (d : D) (b : Addr), (ρ.set i (some ⟨false, w.pin, w.d⟩))[j]? = some (some ⟨true, p, d⟩) → σ[j]? = some (some (.ref b)) → b ≠ a ∧ ρ[j]? = some (some ⟨true, p, d⟩) := fun j p d b h1 h2 => by
      rcases set_get h1 with ⟨_, z, _⟩ | ⟨nij, h1⟩
      · cases z
      · refine ⟨fun z => nij ?_, h1⟩
        subst z
        exact R.inj i j w.pin p w.d d b (by rw [← ew]; exact e) h1 (by rw [hv, ea]) h2
    refine ⟨upd F a ob, ⟨⟨fun b u z => ?_, fun j u z => ?_, fun j k p q d e' b h1 h2 h3 h4 => ?_, by rw [List.length_set]; exact R.len⟩, sb, fun _ _ h _ => h, fun _ o h => ⟨o, h⟩, fun b u z => ?_, fun j p d b h1 h2 => .inl ⟨d, (oth j p d b h1 h2).2, h2⟩, fun j u z => ?_, fun j u z p => ⟨rfl, ?_⟩, by simp⟩, by rw [ea]; exact hs⟩
    · by_cases hb : b = a
      · subst hb; rw [upd_same] at z; cases z; exact eo
      · rw [upd_ne hb] at z; exact R.le b u z
    · rcases set_get z with ⟨e1, z, _⟩ | ⟨nij, z⟩
      · cases z
        subst e1
        exact ⟨v, hv, by unfold HW; rw [if_neg (by simp)]; rw [ea]; exact hs⟩
      · obtain ⟨v2, q1, q2⟩ := R.at_ j u z
        refine ⟨v2, q1, q2.ex sb fun b eb ho2 => ?_⟩
        have eu : u = ⟨true, u.pin, u.d⟩ := by cases u; simp at ho2; simp [ho2]
        have nb : b ≠ a := by
          rintro rfl
          exact nij (R.inj i j w.pin u.pin w.d u.d b (by rw [← ew]; exact e) (by rw [← eu]; exact z) (by rw [hv, ea]) (by rw [q1, eb]))
        obtain ⟨fb, _⟩ := R.own_there (a := b) ⟨j, u.pin, u.d, by rw [← eu]; exact z, by rw [q1, eb]⟩
        exact ⟨by rw [upd_ne nb]; exact fb, rfl⟩
    · exact R.inj j k p q d e' b (oth j p d b h1 h3).2 (oth k q e' b h2 h4).2 h3 h4
    · by_cases hb : b = a
      · subst hb; exact .inr (.inr hown)
      · rw [upd_ne hb] at z; exact .inl ⟨u, z⟩
    · by_cases hj : i = j
      · subst hj; exact ⟨_, by rw [List.getElem?_set_self il]⟩
      · exact ⟨u, by rw [List.getElem?_set_ne hj]; exact z⟩
    · by_cases hj : i = j
      · subst hj; rw [e] at z; cases z; exact ⟨⟨false, w.pin, w.d⟩, by rw [List.getElem?_set_self il], p⟩
      · exact ⟨u, by rw [List.getElem?_set_ne hj]; exact z, p⟩
  · rw [if_neg ho] at h
    have ew : (⟨false, w.pin, w.d⟩ : W) = w := by cases w; simp at ho; simp [ho]
    rw [ew]
    have es : ρ.set i (some w) = ρ := by
      apply List.ext_getElem?
      intro j
      by_cases hj : i = j
      · subst hj; rw [List.getElem?_set_self il, e]
      · rw [List.getElem?_set_ne hj]
    rw [es]
    exact ⟨F, Ex.refl R, h⟩
/-- .. by a new one -/
theorem Ex.freeze_new (R : Rep K F H σ ρ) {a : Addr} {d : D} (n : F a = none) (o : OwO K F H a d) (no : ¬ Own σ ρ a) : ∃ F', Sh K F' (.ref a) d ∧ Rep K F' H σ ρ ∧ Sub F F' ∧ ∀ b u, F' b = some u → F b = some u ∨ b = a := by
  obtain ⟨ob, eo, hs⟩ := o.freeze n
  have sb : Sub F (upd F a ob) := (le_upd n).sub
  refine ⟨upd F a ob, hs, ⟨fun b u z => ?_, fun j u z => ?_, R.inj, R.len⟩, sb, fun b u z => ?_⟩
  · by_cases hb : b = a
    · subst hb; rw [upd_same] at z; cases z; exact eo
    · rw [upd_ne hb] at z; exact R.le b u z
  · obtain ⟨v2, q1, q2⟩ := R.at_ j u z
    refine ⟨v2, q1, q2.ex sb fun b eb ho2 => ?_⟩
    have eu : u = ⟨true, u.pin, u.d⟩ := by cases u; simp at ho2; simp [ho2]
    have hw : Own σ ρ b := ⟨j, u.pin, u.d, by rw [← eu]; exact z, by rw [q1, eb]⟩
    have nb : b ≠ a := by rintro rfl; exact no hw
    exact ⟨by rw [upd_ne nb]; exact (R.own_there hw).1, rfl⟩
  · by_cases hb : b = a
    · exact .inr hb
    · rw [upd_ne hb] at z; exact .inl z
end
end Mi
set_option Elab.async false
set_option linter.all false
set_option maxRecDepth 100000
set_option maxHeartbeats 1000000
set_option autoImplicit false
namespace Mi
open PySem PySem.Spec PyProof.Rows L2

abbrev ME := En → Option (Rv × En)
abbrev MA := En → Option (List Rv × En)
abbrev MT := En → Option (Bool × En)
inductive Out where
  | nx | bk | ct | rt (r : Rv)
abbrev MS := En → Option (Out × En)

def tM (K : PySem.W.Frag) (m : ME) : TE := fun σ H Q => ∃ F ρ r ρ', Rep K F H σ ρ ∧ m ρ = some (r, ρ') ∧
  ∀ v F' H', Ex K F H σ ρ F' H' σ ρ' → HR K F' H' σ ρ' v r → Nw H v r → Q v H'
def tMT (K : PySem.W.Frag) (m : MT) : TT := fun σ H Q => ∃ F ρ b ρ', Rep K F H σ ρ ∧ m ρ = some (b, ρ') ∧
  ∀ F' H', Ex K F H σ ρ F' H' σ ρ' → Q b H'
/-- all told; new ones unlike -/
def HRs (K : PySem.W.Frag) (F H : Hp) (σ : L2.St) (ρ : En) : List V → List Rv → Prop
  | [], [] => True
  | v :: vs, r :: rs => HR K F H σ ρ v r ∧ HRs K F H σ ρ vs rs ∧ (∀ d, r = .ow d → ∀ (j : Nat) (d' : D), rs[j]? = some (Rv.ow d') → vs[j]? ≠ some v)
  | _, _ => False
def Nws (H : Hp) : List V → List Rv → Prop
  | [], [] => True
  | v :: vs, r :: rs => Nw H v r ∧ Nws H vs rs
  | _, _ => False
def tMA (K : PySem.W.Frag) (m : MA) : TA := fun σ H Q => ∃ F ρ rs ρ', Rep K F H σ ρ ∧ m ρ = some (rs, ρ') ∧
  ∀ vs F' H', Ex K F H σ ρ F' H' σ ρ' → HRs K F' H' σ ρ' vs rs → Nws H vs rs → Q vs H'
/-- what is wanted behind a statement that ends so -/
def OutOk (K : PySem.W.Frag) (H F' H' : Hp) (σ' : L2.St) (ρ' : En) (D : Ends) : Out → Prop
  | .nx => D.nx σ' H'
  | .bk => D.bk σ' H'
  | .ct => D.ct σ' H'
  | .rt r => ∀ v, HR K F' H' σ' ρ' v r → Nw H v r → D.rt v H'
def tMS (K : PySem.W.Frag) (m : MS) : TS := fun D σ H => ∃ F ρ o ρ', Rep K F H σ ρ ∧ m ρ = some (o, ρ') ∧
  ∀ σ' F' H', Ex K F H σ ρ F' H' σ' ρ' → OutOk K H F' H' σ' ρ' D o

abbrev EV (X : Cx) (e : Expr) (m : ME) : Prop := PE X e (tM X.K m)
abbrev TV (X : Cx) (e : Expr) (m : MT) : Prop := PT X e (tMT X.K m)
abbrev AV (X : Cx) (es : List Expr) (m : MA) : Prop := PA X es (tMA X.K m)
abbrev SV (X : Cx) (s : Stmt) (m : MS) : Prop := PS X s (tMS X.K m)
abbrev SVs (X : Cx) (s : List Stmt) (m : MS) : Prop := PSs X s (tMS X.K m)

section
variable {X : Cx} {e : Expr} {m : ME}
theorem ev_of {t : TE} (h : PE X e t) (hi : ∀ σ H Q F ρ r ρ', Rep X.K F H σ ρ → m ρ = some (r, ρ') → (∀ v F' H', Ex X.K F H σ ρ F' H' σ ρ' → HR X.K F' H' σ ρ' v r → Nw H v r → Q v H') → t σ H Q) : EV X e m :=
  ⟨fun pins s σ H Q I ⟨F, ρ, r, ρ', R, e1, k⟩ => h.run pins s σ H Q I (hi σ H Q F ρ r ρ' R e1 k)⟩
theorem tv_of {mt : MT} {t : TT} (h : PT X e t) (hi : ∀ σ H Q F ρ b ρ', Rep X.K F H σ ρ → mt ρ = some (b, ρ') → (∀ F' H', Ex X.K F H σ ρ F' H' σ ρ' → Q b H') → t σ H Q) : TV X e mt :=
  ⟨fun pins s σ H Q I ⟨F, ρ, b, ρ', R, e1, k⟩ => h.run pins s σ H Q I (hi σ H Q F ρ b ρ' R e1 k)⟩
theorem av_of {es : List Expr} {ms : MA} {t : TA} (h : PA X es t) (hi : ∀ σ H Q F ρ rs ρ', Rep X.K F H σ ρ → ms ρ = some (rs, ρ') → (∀ vs F' H', Ex X.K F H σ ρ F' H' σ ρ' → HRs X.K F' H' σ ρ' vs rs → Nws H vs rs → Q vs H') → t σ H Q) : AV X es ms :=
  ⟨fun pos pins s σ H Q I ⟨F, ρ, r, ρ', R, e1, k⟩ => h.run pos pins s σ H Q I (hi σ H Q F ρ r ρ' R e1 k)⟩
theorem sv_of {st : Stmt} {ms : MS} {t : TS} (h : PS X st t) (hi : ∀ D σ H, tMS X.K ms D σ H → t D σ H) : SV X st ms :=
  ⟨fun pins s σ H D I hw => h.run pins s σ H D I (hi D σ H hw)⟩
theorem svs_of {st : List Stmt} {ms : MS} {t : TS} (h : PSs X st t) (hi : ∀ D σ H, tMS X.K ms D σ H → t D σ H) : SVs X st ms :=
  ⟨fun pins s σ H D I hw => h.run pins s σ H D I (hi D σ H hw)⟩
end

/-! ### names, constants -/
def mVar (i : Nat) : ME := fun ρ => match ρ[i]? with
  | some (some w) => if w.own = true then some (.at i, ρ) else some (.sh w.d, ρ)
  | _ => none
def mC (d : D) : ME := fun ρ => some (.sh d, ρ)
section
variable {X : Cx}
theorem ev_var (i : Nat) {x : Str} {pos : Pos} (hN : X.N[i]? = some x := by rfl) (hv : Vis X.env.scope x := by first | exact Or.inl rfl | exact Or.inr (Or.inl rfl) | exact Or.inr (Or.inr rfl)) (hd : (x == ("__debug__" : Str)) = false := by decide)
    (hcd : (x == ("__classdict__" : Str)) = false := by decide) : EV X (.Name x pos) (mVar i) := by
  refine ev_of (pe_var hN hv hd hcd) fun σ H Q F ρ r ρ' R e k => ?_
  unfold mVar at e
  split at e
  · rename_i w hw
    obtain ⟨v, e1, h⟩ := R.at_ i w hw
    split at e
    · cases e
      exact ⟨v, e1, k v F H (Ex.refl R) ⟨e1, w, hw⟩ trivial⟩
    · rename_i ho
      cases e
      unfold HW at h
      rw [if_neg ho] at h
      exact ⟨v, e1, k v F H (Ex.refl R) h trivial⟩
  · cases e
theorem ev_c {e : Expr} {v : V} {d : D} (h : PE X e (tC v)) (hs : ∀ F, Sh X.K F v d) : EV X e (mC d) :=
  ev_of h fun σ H Q F ρ r ρ' R e k => by cases e; exact k v F H (Ex.refl R) (hs F) trivial
theorem ev_int {i : Int} {j pos} : EV X (.Constant (.int i) j pos) (mC (.int i)) := ev_c pe_int fun _ => .int i
theorem ev_str {x : Str} {j pos} : EV X (.Constant (.str x) j pos) (mC (.str x)) := ev_c pe_str fun _ => .str x
theorem ev_bl {b : Bool} {j pos} : EV X (.Constant (.bool b) j pos) (mC (.bl b)) := ev_c pe_bl fun _ => .bl b
theorem ev_non {j pos} : EV X (.Constant .none j pos) (mC .non) := ev_c pe_non fun _ => .non
/-- a module's int, str -/
theorem ev_globI {x : Str} {i : Int} {u : Value} {pos : Pos} (hm : X.mg x = some u) (r : RelV (.int i) u) (hg : Gl X x := by rfl) (hd : (x == ("__debug__" : Str)) = false := by decide) : EV X (.Name x pos) (mC (.int i)) := ev_c (pe_glob hg hm r hd) fun _ => .int i
theorem ev_globS {x : Str} {i : Str} {u : Value} {pos : Pos} (hm : X.mg x = some u) (r : RelV (.str i) u) (hg : Gl X x := by rfl) (hd : (x == ("__debug__" : Str)) = false := by decide) : EV X (.Name x pos) (mC (.str i)) := ev_c (pe_glob hg hm r hd) fun _ => .str i
/-- a built-in class as a value -/
theorem ev_ty {x : Str} {n : String} {pos : Pos} (hm : X.mg x = none) (hv : bootBuiltins x = some (.type n)) (hg : Gl X x := by rfl) (hn : x ≠ "__name__" := by decide) (hd : (x == ("__debug__" : Str)) = false := by decide) : EV X (.Name x pos) (mC (.ty n)) :=
  ev_c (pe_bltn hg hm hv (v := .ty n) rfl hn hd) fun _ => .ty n
end

/-! ### operations on data: what is new -/
inductive Rs where
  | sh (d : D) | ow (d : D)
def Rs.rv : Rs → Rv
  | .sh d => .sh d
  | .ow d => .ow d
def Rs.d : Rs → D
  | .sh d => d
  | .ow d => d
/-- nothing that stands changes -/
structure Gr (F H F' H' : Hp) : Prop where
  le : Le F' H'
  sub : Le F F'
  keep : Le H H'
  new : ∀ a o, F' a = some o → F a = some o ∨ H a = none
def HN (K : PySem.W.Frag) (H F' H' : Hp) (v : V) : Rs → Prop
  | .sh d => Sh K F' v d
  | .ow d => ∃ a, v = .ref a ∧ H a = none ∧ F' a = none ∧ OwO K F' H' a d
section
variable {K : PySem.W.Frag} {F H F' H' : Hp} {σ : L2.St} {ρ : En} {v : V}
theorem Gr.refl (l : Le F H) : Gr F H F H := ⟨l, Le.refl _, Le.refl _, fun _ _ h => .inl h⟩
theorem Gr.ex (R : Rep K F H σ ρ) (g : Gr F H F' H') : Ex K F H σ ρ F' H' σ ρ := by
  refine ⟨⟨g.le, fun i w e => ?_, R.inj, R.len⟩, g.sub.sub, fun a o h _ => g.keep a o h, fun a o h => ⟨o, g.keep a o h⟩, fun a o h => ?_, fun i p d a h1 h2 => .inl ⟨d, h1, h2⟩, fun i w h => ⟨w, h⟩, fun i w h p => ⟨rfl, w, h, p⟩, rfl⟩
  · obtain ⟨v, e1, h⟩ := R.at_ i w e
    refine ⟨v, e1, h.ex g.sub.sub fun a ea ho => ?_⟩
    have ew : w = ⟨true, w.pin, w.d⟩ := by cases w; simp at ho; simp [ho]
    obtain ⟨n, o, eo⟩ := R.own_there (a := a) ⟨i, w.pin, w.d, by rw [← ew]; exact e, by rw [e1, ea]⟩
    refine ⟨?_, by rw [eo, g.keep a o eo]⟩
    cases q : F' a with
    | none => rfl
    | some z =>
      rcases g.new a z q with q' | q'
      · rw [n] at q'; cases q'
      · rw [eo] at q'; cases q'
  · rcases g.new a o h with q | q
    · exact .inl ⟨o, q⟩
    · exact .inr (.inl q)
theorem HN.hr {r : Rs} (R : Rep K F H σ ρ) (h : HN K H F' H' v r) : HR K F' H' σ ρ v r.rv ∧ Nw H v r.rv := by
  cases r with
  | sh d => exact ⟨h, trivial⟩
  | ow d =>
    obtain ⟨a, e, n, f, o⟩ := h
    refine ⟨⟨a, e, f, o, fun z => ?_⟩, a, e, n⟩
    obtain ⟨_, ob, eo⟩ := R.own_there z
    rw [n] at eo; cases eo
/-- a new object laid that is owned by nobody yet -/
theorem Gr.new_own (l : Le F H) {p : Addr} {o : HO} (h : H p = none) : Gr F H F (upd H p o) :=
  ⟨l.trans (le_upd h), Le.refl _, le_upd h, fun _ _ q => .inl q⟩
/-- .. and that is shared at once -/
theorem Gr.new_sh (l : Le F H) {p : Addr} {o : HO} (h : H p = none) : Gr F H (upd F p o) (upd H p o) :=
  ⟨fun a u e => by
    by_cases ha : a = p
    · subst ha; rw [upd_same] at e ⊢; exact e
    · rw [upd_ne ha] at e ⊢; exact l a u e, le_upd (l.none h), le_upd h, fun a u e => by
    by_cases ha : a = p
    · subst ha; exact .inr h
    · rw [upd_ne ha] at e; exact .inl e⟩
end

/-! ### one and two operands -/
def mU (f : D → Option Rs) (m : ME) : ME := fun ρ => match m ρ with
  | some (r, ρ1) => match peek ρ1 r with
    | some d => match f d with
      | some z => some (z.rv, ρ1)
      | none => none
    | none => none
  | none => none
def m2 (f : D → D → Option Rs) (m n : ME) : ME := fun ρ => match m ρ with
  | some (r, ρ1) => match n ρ1 with
    | some (q, ρ2) => match peek ρ2 r with
      | some d => match peek ρ2 q with
        | some e => match f d e with
          | some z => some (z.rv, ρ2)
          | none => none
        | none => none
      | none => none
    | none => none
  | none => none
/-- a rule of values is a function of data -/
def OkU (K : PySem.W.Frag) (r : V → Hp → VK → Prop) (f : D → Option Rs) : Prop := ∀ F H x d z Q, Le F H → Bo K F H x d → f d = some z → (∀ v F' H', Gr F H F' H' → HN K H F' H' v z → Q v H') → r x H Q
def Ok2 (K : PySem.W.Frag) (r : R2) (f : D → D → Option Rs) : Prop := ∀ F H x y d e z Q, Le F H → Bo K F H x d → Bo K F H y e → f d e = some z → (∀ v F' H', Gr F H F' H' → HN K H F' H' v z → Q v H') → r x y H Q
section
variable {X : Cx} {a b : Expr} {m n : ME}
theorem use1 {r : V → Hp → VK → Prop} {f : D → Option Rs} (ok : OkU X.K r f) {σ H Q F ρ z ρ'} (R : Rep X.K F H σ ρ) (e : mU f m ρ = some (z, ρ'))
    (k : ∀ v F' H', Ex X.K F H σ ρ F' H' σ ρ' → HR X.K F' H' σ ρ' v z → Nw H v z → Q v H') : tM X.K m σ H fun x H1 => r x H1 Q := by
  unfold mU at e
  split at e
  · rename_i r1 ρ1 e1
    split at e
    · rename_i d e2
      split at e
      · rename_i zz e3
        cases e
        refine ⟨F, ρ, r1, _, R, e1, fun v F1 H1 ex1 h1 _ => ok F1 H1 v d zz Q ex1.rep.le (HR.bo ex1.rep h1 e2) e3 fun v2 F2 H2 g h2 => ?_⟩
        have q := h2.hr ex1.rep
        exact k v2 F2 H2 (ex1.trans (Gr.ex ex1.rep g)) q.1 (q.2.back ex1)
      · cases e
    · cases e
  · cases e
theorem use2 {r : R2} {f : D → D → Option Rs} (ok : Ok2 X.K r f) {σ H Q F ρ z ρ'} (R : Rep X.K F H σ ρ) (e : m2 f m n ρ = some (z, ρ'))
    (k : ∀ v F' H', Ex X.K F H σ ρ F' H' σ ρ' → HR X.K F' H' σ ρ' v z → Nw H v z → Q v H') : tM X.K m σ H fun x H1 => tM X.K n σ H1 fun y H2 => r x y H2 Q := by
  unfold m2 at e
  split at e
  · rename_i r1 ρ1 e1
    split at e
    · rename_i r2 ρ2 e2
      split at e
      · rename_i d e3
        split at e
        · rename_i d' e4
          split at e
          · rename_i zz e5
            cases e
            refine ⟨F, ρ, r1, _, R, e1, fun v F1 H1 ex1 h1 _ => ⟨F1, ρ1, r2, _, ex1.rep, e2, fun v' F2 H2 ex2 h2 _ => ?_⟩⟩
            refine ok F2 H2 v v' d d' zz Q ex2.rep.le (HR.bo ex2.rep (h1.ex ex2) e3) (HR.bo ex2.rep h2 e4) e5 fun v2 F3 H3 g h3 => ?_
            have q := h3.hr ex2.rep
            exact k v2 F3 H3 ((ex1.trans ex2).trans (Gr.ex ex2.rep g)) q.1 (q.2.back (ex1.trans ex2))
          · cases e
        · cases e
      · cases e
    · cases e
  · cases e
theorem ev_un {op : UnaryOp} {r : V → Hp → VK → Prop} {f : D → Option Rs} {pos : Pos} (ho : UnR X (unaryOp op) r) (ok : OkU X.K r f) (ha : EV X a m) : EV X (.UnaryOp op a pos) (mU f m) :=
  ev_of (pe_un ho ha) fun σ H Q F ρ z ρ' R e k => use1 ok R e k
theorem ev_op {op : Operator} {r : R2} {f : D → D → Option Rs} {pos : Pos} (ho : OpR X (binaryOp op) r) (ok : Ok2 X.K r f) (ha : EV X a m) (hb : EV X b n) : EV X (.BinOp a op b pos) (m2 f m n) :=
  ev_of (pe_op ho ha hb) fun σ H Q F ρ z ρ' R e k => use2 ok R e k
theorem ev_cmp {op : CmpOp} {r : R2} {f : D → D → Option Rs} {pos : Pos} (ho : OpR X (compareOp op) r) (ok : Ok2 X.K r f) (ha : EV X a m) (hb : EV X b n) (hm : behindInMarks op b = false) : EV X (.Compare a [op] [b] pos) (m2 f m n) :=
  ev_of (pe_cmpR ho ha hb hm) fun σ H Q F ρ z ρ' R e k => use2 ok R e k
theorem ev_ix {r : R2} {f : D → D → Option Rs} {pos : Pos} (ho : IxR X r) (ok : Ok2 X.K r f) (ha : EV X a m) (hb : EV X b n) (hs : PlainIx b) : EV X (.Subscript a b pos) (m2 f m n) :=
  ev_of (pe_ix ho ha hb hs) fun σ H Q F ρ z ρ' R e k => use2 ok R e k
theorem OpR.or {g : Value → Value → Sem Value} {r r' : R2} (h : OpR X g r) (h' : OpR X g r') : OpR X g (fun x y H Q => r x y H Q ∨ r' x y H Q) := by
  intro pins s σ H x y v u Q I rx ry q
  rcases q with q | q
  · exact h pins s σ H x y v u Q I rx ry q
  · exact h' pins s σ H x y v u Q I rx ry q
end
end Mi
set_option Elab.async false
set_option linter.all false
set_option maxRecDepth 100000
set_option maxHeartbeats 1000000
set_option autoImplicit false
namespace Mi
open PySem PySem.Spec PyProof.Rows L2

/-! ### readable data -/
section
variable {K : PySem.W.Frag} {F H : Hp} {v : V} {d : D}
theorem Bo.lis {ds : List D} (l : Le F H) (h : Bo K F H v (.lst ds)) : ∃ a vs, v = .ref a ∧ H a = some (.lst vs) ∧ Shs K F vs ds := by
  rcases h with h | ⟨a, e, n, vs, e1, r⟩
  · cases h with
    | lst h r => exact ⟨_, _, rfl, l _ _ h, r⟩
  · exact ⟨a, vs, e, e1, r⟩
theorem Bo.list {ds : List D} (l : Le F H) (h : Bo K F H v (.lst ds)) : ∃ a vs, v = .ref a ∧ SqL K H a vs ∧ Shs K F vs ds := by
  obtain ⟨a, vs, e, h, r⟩ := h.lis l
  exact ⟨a, vs, e, .inl (.inl h), r⟩
theorem Bo.frl {ds : List D} (l : Le F H) (h : Bo K F H v (.frl ds)) : ∃ a vs, v = .ref a ∧ SqL K H a vs ∧ Shs K F vs ds := by
  rcases h with h | ⟨a, e, n, o⟩
  · cases h with
    | frl h r => exact ⟨_, _, rfl, sqL_sub l.sub h, r⟩
  · exact o.elim
theorem Bo.tupl {ds : List D} (l : Le F H) (h : Bo K F H v (.tup ds)) : ∃ a vs, v = .ref a ∧ TqT K F a vs ∧ SqT K H a vs ∧ Shs K F vs ds := by
  rcases h with h | ⟨a, e, n, o⟩
  · cases h with
    | tup h r => exact ⟨_, _, rfl, h, sqT_sub l.sub h.sq, r⟩
  · exact o.elim
theorem Bo.dict {ds : List (Key × D)} (l : Le F H) (h : Bo K F H v (.dic ds)) : ∃ a vs, v = .ref a ∧ Rd H a (.dK vs) ∧ Shk K F vs ds := by
  rcases h with h | ⟨a, e, n, vs, e1, r⟩
  · cases h with
    | dic h r => exact ⟨_, _, rfl, l.sub.rd _ _ trivial h, r⟩
  · exact ⟨a, vs, e, .inl e1, r⟩
theorem Bo.int {i : Int} (h : Bo K F H v (.int i)) : v = .int i := by
  rcases h with h | ⟨a, e, n, o⟩
  · cases h; rfl
  · exact o.elim
theorem Bo.bl {i : Bool} (h : Bo K F H v (.bl i)) : v = .bl i := by
  rcases h with h | ⟨a, e, n, o⟩
  · cases h; rfl
  · exact o.elim
theorem Bo.str {i : Str} (h : Bo K F H v (.str i)) : v = .str i := by
  rcases h with h | ⟨a, e, n, o⟩
  · cases h; rfl
  · exact o.elim
theorem Bo.non (h : Bo K F H v .non) : v = .non := by
  rcases h with h | ⟨a, e, n, o⟩
  · cases h; rfl
  · exact o.elim
theorem Bo.ty {i : String} (h : Bo K F H v (.ty i)) : v = .ty i := by
  rcases h with h | ⟨a, e, n, o⟩
  · cases h; rfl
  · exact o.elim
theorem Shk.length : ∀ {vs : List (Key × V)} {ds : List (Key × D)}, Shk K F vs ds → vs.length = ds.length
  | _, _, .nil => rfl
  | _, _, .cons _ r => by simp [Shk.length r]
end

/-! ### truth -/
def truD : D → Option Bool
  | .non => some false
  | .bl b => some b
  | .int i => some (i != 0)
  | .str y => if y.length ≤ sizeLine then some ((y.length : Int) != 0) else none
  | .lst ds => some (!ds.isEmpty)
  | .frl ds => some (!ds.isEmpty)
  | .tup ds => some (!ds.isEmpty)
  | _ => none
theorem Shs.isEmpty {K : PySem.W.Frag} {F : Hp} {vs : List V} {ds : List D} (h : Shs K F vs ds) : vs.isEmpty = ds.isEmpty := by
  cases h <;> rfl
theorem truD_ok {K : PySem.W.Frag} {F H : Hp} {v : V} {d : D} {b : Bool} (l : Le F H) (h : Bo K F H v d) (e : truD d = some b) : TruV K v H b := by
  cases d with
  | non => rw [h.non]; cases e; rfl
  | bl _ => rw [h.bl]; cases e; rfl
  | int _ => rw [h.int]; cases e; rfl
  | str y =>
    rw [h.str]
    simp only [truD] at e
    split at e
    · cases e; exact ⟨by assumption, rfl⟩
    · cases e
  | lst ds =>
    obtain ⟨a, vs, rfl, hs, r⟩ := h.list l
    cases e
    exact .inl ⟨vs, hs, by rw [r.isEmpty]⟩
  | frl ds =>
    obtain ⟨a, vs, rfl, hs, r⟩ := h.frl l
    cases e
    exact .inl ⟨vs, hs, by rw [r.isEmpty]⟩
  | tup ds =>
    obtain ⟨a, vs, rfl, _, hs, r⟩ := h.tupl l
    cases e
    exact .inr (.inl ⟨vs, hs, by rw [r.isEmpty]⟩)
  | dic _ => cases e
  | ty _ => cases e
def mTru (m : ME) : MT := fun ρ => match m ρ with
  | some (r, ρ1) => match peek ρ1 r with
    | some d => match truD d with
      | some b => some (b, ρ1)
      | none => none
    | none => none
  | none => none
def mTe (m : ME) : MT := fun ρ => match m ρ with
  | some (.sh (.bl b), ρ1) => some (b, ρ1)
  | _ => none
def mAnd (a b : MT) : MT := fun ρ => match a ρ with
  | some (true, ρ1) => b ρ1
  | some (false, ρ1) => some (false, ρ1)
  | none => none
def mOr (a b : MT) : MT := fun ρ => match a ρ with
  | some (true, ρ1) => some (true, ρ1)
  | some (false, ρ1) => b ρ1
  | none => none
def mNot (a : MT) : MT := fun ρ => match a ρ with
  | some (b, ρ1) => some (!b, ρ1)
  | none => none
def mIf (t : MT) (a b : ME) : ME := fun ρ => match t ρ with
  | some (true, ρ1) => a ρ1
  | some (false, ρ1) => b ρ1
  | none => none
/-- and, or as values -/
def mAndV (a b : ME) : ME := fun ρ => match a ρ with
  | some (r, ρ1) => match peek ρ1 r with
    | some d => match truD d with
      | some true => b ρ1
      | some false => some (r, ρ1)
      | none => none
    | none => none
  | none => none
def mOrV (a b : ME) : ME := fun ρ => match a ρ with
  | some (r, ρ1) => match peek ρ1 r with
    | some d => match truD d with
      | some true => some (r, ρ1)
      | some false => b ρ1
      | none => none
    | none => none
  | none => none
def mNotV (a : ME) : ME := fun ρ => match mTru a ρ with
  | some (b, ρ1) => some (.sh (.bl (!b)), ρ1)
  | none => none
section
variable {X : Cx} {a b c : Expr} {m n : ME} {t u : MT} {rest : List Expr} {pos : Pos}
theorem tv_truth (ha : EV X a m) (he : ∀ whole, isTrue a X.env whole = (do let v ← whole; standAt a.pos; holding [v] (truthy v)) := by intro _; rfl) : TV X a (mTru m) := by
  refine tv_of (pt_truth ha he) fun σ H Q F ρ b ρ' R e k => ?_
  unfold mTru at e
  split at e
  · rename_i r1 ρ1 e1
    split at e
    · rename_i d e2
      split at e
      · rename_i b' e3
        cases e
        exact ⟨F, ρ, r1, _, R, e1, fun v F1 H1 ex1 h1 _ => ⟨b, truD_ok ex1.rep.le (HR.bo ex1.rep h1 e2) e3, k F1 H1 ex1⟩⟩
      · cases e
    · cases e
  · cases e
/-- a reading that tells a bool, as a test -/
theorem te_use {F H σ ρ b ρ'} {Q : Bool → Hp → Prop} (R : Rep X.K F H σ ρ) (e : mTe m ρ = some (b, ρ')) (k : ∀ F' H', Ex X.K F H σ ρ F' H' σ ρ' → Q b H') : tM X.K m σ H fun x H1 => ∃ c, x = .bl c ∧ Q c H1 := by
  unfold mTe at e
  split at e
  · rename_i b' ρ1 e1
    cases e
    exact ⟨F, ρ, _, _, R, e1, fun v F1 H1 ex1 h1 _ => ⟨b, (by cases (show Sh X.K F1 v (.bl b) from h1); rfl), k F1 H1 ex1⟩⟩
  · cases e
theorem tv_cmp {op : CmpOp} {r : R2} {f : D → D → Option Rs} (ho : OpR X (compareOp op) r) (ok : Ok2 X.K r f) (ha : EV X a m) (hb : EV X b n) (hm : behindInMarks op b = false) : TV X (.Compare a [op] [b] pos) (mTe (m2 f m n)) := by
  refine tv_of (pt_cmpR ho ha hb hm) fun σ H Q F ρ b ρ' R e k => ?_
  unfold mTe at e
  split at e
  · rename_i b' ρ1 e1
    cases e
    exact use2 ok R e1 fun v F' H' ex h _ => ⟨b, (by cases (show Sh X.K F' v (.bl b) from h); rfl), k F' H' ex⟩
  · cases e
theorem tv_not (ha : TV X a t) : TV X (.UnaryOp .Not a pos) (mNot t) := by
  refine tv_of (pt_not ha) fun σ H Q F ρ b ρ' R e k => ?_
  unfold mNot at e
  split at e
  · rename_i b' ρ1 e1
    cases e
    exact ⟨F, ρ, _, _, R, e1, fun F1 H1 ex1 => k F1 H1 ex1⟩
  · cases e
theorem and_use {F H σ ρ b ρ'} {Q : Bool → Hp → Prop} (R : Rep X.K F H σ ρ) (e : mAnd t u ρ = some (b, ρ')) (k : ∀ F' H', Ex X.K F H σ ρ F' H' σ ρ' → Q b H') : tAnd (tMT X.K t) (tMT X.K u) σ H Q := by
  unfold mAnd at e
  split at e
  · rename_i ρ1 e1
    exact ⟨F, ρ, _, _, R, e1, fun F1 H1 ex1 => iteT ⟨F1, ρ1, _, _, ex1.rep, e, fun F2 H2 ex2 => k F2 H2 (ex1.trans ex2)⟩⟩
  · rename_i ρ1 e1
    cases e
    exact ⟨F, ρ, _, _, R, e1, fun F1 H1 ex1 => iteF (k F1 H1 ex1)⟩
  · cases e
theorem or_use {F H σ ρ b ρ'} {Q : Bool → Hp → Prop} (R : Rep X.K F H σ ρ) (e : mOr t u ρ = some (b, ρ')) (k : ∀ F' H', Ex X.K F H σ ρ F' H' σ ρ' → Q b H') : tOr (tMT X.K t) (tMT X.K u) σ H Q := by
  unfold mOr at e
  split at e
  · rename_i ρ1 e1
    cases e
    exact ⟨F, ρ, _, _, R, e1, fun F1 H1 ex1 => iteT (k F1 H1 ex1)⟩
  · rename_i ρ1 e1
    exact ⟨F, ρ, _, _, R, e1, fun F1 H1 ex1 => iteF ⟨F1, ρ1, _, _, ex1.rep, e, fun F2 H2 ex2 => k F2 H2 (ex1.trans ex2)⟩⟩
  · cases e
abbrev WV (X : Cx) (e : Expr) (m : MT) : Prop := PW X e (tMT X.K m)
theorem wv_of {e : Expr} {mt : MT} {t : TT} (h : PW X e t) (hi : ∀ σ H Q F ρ b ρ', Rep X.K F H σ ρ → mt ρ = some (b, ρ') → (∀ F' H', Ex X.K F H σ ρ F' H' σ ρ' → Q b H') → t σ H Q) : WV X e mt :=
  ⟨fun wh pins s σ H Q I ⟨F, ρ, b, ρ', R, e1, k⟩ => h.run wh pins s σ H Q I (hi σ H Q F ρ b ρ' R e1 k)⟩
theorem wv_and1 (ha : TV X a t) : WV X (.BoolOp .And [a] pos) t := pw_and1 ha
theorem wv_or1 (ha : TV X a t) : WV X (.BoolOp .Or [a] pos) t := pw_or1 ha
theorem wv_and (ha : TV X a t) (hb : WV X (.BoolOp .And (b :: rest) pos) u) : WV X (.BoolOp .And (a :: b :: rest) pos) (mAnd t u) :=
  wv_of (pw_and ha hb) fun σ H Q F ρ b ρ' R e k => and_use R e k
theorem wv_or (ha : TV X a t) (hb : WV X (.BoolOp .Or (b :: rest) pos) u) : WV X (.BoolOp .Or (a :: b :: rest) pos) (mOr t u) :=
  wv_of (pw_or ha hb) fun σ H Q F ρ b ρ' R e k => or_use R e k
theorem wv_tv {e : Expr} (h : WV X e t) : TV X e t := PW.pt h
theorem ev_if (hc : TV X c t) (ha : EV X a m) (hb : EV X b n) : EV X (.IfExp c a b pos) (mIf t m n) := by
  refine ev_of (pe_ifExp hc ha hb) fun σ H Q F ρ r ρ' R e k => ?_
  unfold mIf at e
  split at e
  · rename_i ρ1 e1
    exact ⟨F, ρ, _, _, R, e1, fun F1 H1 ex1 => iteT ⟨F1, ρ1, _, _, ex1.rep, e, fun v F2 H2 ex2 h2 nw => k v F2 H2 (ex1.trans ex2) h2 (nw.back ex1)⟩⟩
  · rename_i ρ1 e1
    exact ⟨F, ρ, _, _, R, e1, fun F1 H1 ex1 => iteF ⟨F1, ρ1, _, _, ex1.rep, e, fun v F2 H2 ex2 h2 nw => k v F2 H2 (ex1.trans ex2) h2 (nw.back ex1)⟩⟩
  · cases e
theorem ev_one {op} (h : EV X a m) : EV X (.BoolOp op [a] pos) m := pe_one h
theorem ev_and (ha : EV X a m) (hb : EV X (.BoolOp .And (b :: rest) pos) n) : EV X (.BoolOp .And (a :: b :: rest) pos) (mAndV m n) := by
  refine ev_of (pe_andT ha hb) fun σ H Q F ρ r ρ' R e k => ?_
  unfold mAndV at e
  split at e
  · rename_i r1 ρ1 e1
    split at e
    · rename_i d e2
      split at e
      · rename_i e3
        exact ⟨F, ρ, _, _, R, e1, fun v F1 H1 ex1 h1 _ => ⟨true, truD_ok ex1.rep.le (HR.bo ex1.rep h1 e2) e3, iteT ⟨F1, ρ1, _, _, ex1.rep, e, fun v F2 H2 ex2 h2 nw => k v F2 H2 (ex1.trans ex2) h2 (nw.back ex1)⟩⟩⟩
      · rename_i e3
        cases e
        exact ⟨F, ρ, _, _, R, e1, fun v F1 H1 ex1 h1 nw => ⟨false, truD_ok ex1.rep.le (HR.bo ex1.rep h1 e2) e3, iteF (k v F1 H1 ex1 h1 nw)⟩⟩
      · cases e
    · cases e
  · cases e
theorem ev_or (ha : EV X a m) (hb : EV X (.BoolOp .Or (b :: rest) pos) n) : EV X (.BoolOp .Or (a :: b :: rest) pos) (mOrV m n) := by
  refine ev_of (pe_orT ha hb) fun σ H Q F ρ r ρ' R e k => ?_
  unfold mOrV at e
  split at e
  · rename_i r1 ρ1 e1
    split at e
    · rename_i d e2
      split at e
      · rename_i e3
        cases e
        exact ⟨F, ρ, _, _, R, e1, fun v F1 H1 ex1 h1 nw => ⟨true, truD_ok ex1.rep.le (HR.bo ex1.rep h1 e2) e3, iteT (k v F1 H1 ex1 h1 nw)⟩⟩
      · rename_i e3
        exact ⟨F, ρ, _, _, R, e1, fun v F1 H1 ex1 h1 _ => ⟨false, truD_ok ex1.rep.le (HR.bo ex1.rep h1 e2) e3, iteF ⟨F1, ρ1, _, _, ex1.rep, e, fun v F2 H2 ex2 h2 nw => k v F2 H2 (ex1.trans ex2) h2 (nw.back ex1)⟩⟩⟩
      · cases e
    · cases e
  · cases e
theorem ev_not (ha : EV X a m) : EV X (.UnaryOp .Not a pos) (mNotV m) := by
  refine ev_of (pe_notT ha) fun σ H Q F ρ r ρ' R e k => ?_
  unfold mNotV at e
  split at e
  · rename_i b ρ0 e0
    cases e
    unfold mTru at e0
    split at e0
    · rename_i r1 ρ1 e1
      split at e0
      · rename_i d e2
        split at e0
        · rename_i b' e3
          cases e0
          exact ⟨F, ρ, r1, _, R, e1, fun v F1 H1 ex1 h1 _ => ⟨b, truD_ok ex1.rep.le (HR.bo ex1.rep h1 e2) e3, k _ F1 H1 ex1 (.bl _) trivial⟩⟩
        · cases e0
      · cases e0
    · cases e0
  · cases e
/-- a op b op' c -/
def mCh (f g : D → D → Option Rs) (m n l : ME) : ME := fun ρ => match m ρ with
  | some (r, ρ1) => match n ρ1 with
    | some (q, ρ2) => match peek ρ2 r with
      | some d => match peek ρ2 q with
        | some e => match f d e with
          | some (.sh (.bl true)) => match l ρ2 with
            | some (s, ρ3) => match peek ρ3 q with
              | some e' => match peek ρ3 s with
                | some c => match g e' c with
                  | some z => some (z.rv, ρ3)
                  | none => none
                | none => none
              | none => none
            | none => none
          | some (.sh (.bl false)) => some (.sh (.bl false), ρ2)
          | _ => none
        | none => none
      | none => none
    | none => none
  | none => none
theorem chain_use {r r' : R2} {f g : D → D → Option Rs} {l : ME} (ok : Ok2 X.K r f) (ok' : Ok2 X.K r' g) {σ H F ρ z ρ'} {Q : VK} (R : Rep X.K F H σ ρ) (e : mCh f g m n l ρ = some (z, ρ'))
    (k : ∀ v F' H', Ex X.K F H σ ρ F' H' σ ρ' → HR X.K F' H' σ ρ' v z → Nw H v z → Q v H') : tChain r r' (tM X.K m) (tM X.K n) (tM X.K l) σ H Q := by
  unfold mCh at e
  split at e
  · rename_i r1 ρ1 e1
    split at e
    · rename_i r2 ρ2 e2
      split at e
      · rename_i d e3
        split at e
        · rename_i d' e4
          split at e
          · rename_i e5
            split at e
            · rename_i r3 ρ3 e6
              split at e
              · rename_i d2 e7
                split at e
                · rename_i c' e8
                  split at e
                  · rename_i zz e9
                    cases e
                    refine ⟨F, ρ, r1, _, R, e1, fun v F1 H1 ex1 h1 _ => ⟨F1, ρ1, r2, _, ex1.rep, e2, fun v' F2 H2 ex2 h2 _ => ?_⟩⟩
                    refine ok F2 H2 v v' d d' _ _ ex2.rep.le (HR.bo ex2.rep (h1.ex ex2) e3) (HR.bo ex2.rep h2 e4) e5 fun v2 F3 H3 g3 h3 => ?_
                    have ex3 := Gr.ex ex2.rep g3
                    refine ⟨true, (by cases (show Sh X.K F3 v2 (.bl true) from h3); rfl), iteT ⟨F3, ρ2, r3, _, ex3.rep, e6, fun v3 F4 H4 ex4 h4 _ => ?_⟩⟩
                    refine ok' F4 H4 v' v3 d2 c' zz _ ex4.rep.le (HR.bo ex4.rep ((h2.ex ex3).ex ex4) e7) (HR.bo ex4.rep h4 e8) e9 fun v5 F5 H5 g5 h5 => ?_
                    have q := h5.hr ex4.rep
                    have exx := ((ex1.trans ex2).trans ex3).trans ex4
                    exact k v5 F5 H5 (exx.trans (Gr.ex ex4.rep g5)) q.1 (q.2.back exx)
                  · cases e
                · cases e
              · cases e
            · cases e
          · rename_i e5
            cases e
            refine ⟨F, ρ, r1, _, R, e1, fun v F1 H1 ex1 h1 _ => ⟨F1, ρ1, r2, _, ex1.rep, e2, fun v' F2 H2 ex2 h2 _ => ?_⟩⟩
            refine ok F2 H2 v v' d d' _ _ ex2.rep.le (HR.bo ex2.rep (h1.ex ex2) e3) (HR.bo ex2.rep h2 e4) e5 fun v2 F3 H3 g3 h3 => ?_
            exact ⟨false, (by cases (show Sh X.K F3 v2 (.bl false) from h3); rfl), iteF (k _ F3 H3 ((ex1.trans ex2).trans (Gr.ex ex2.rep g3)) (.bl _) trivial)⟩
          · cases e
        · cases e
      · cases e
    · cases e
  · cases e
theorem ev_chain {op op' : CmpOp} {r r' : R2} {f g : D → D → Option Rs} {l : ME} (ho : OpR X (compareOp op) r) (ho' : OpR X (compareOp op') r') (ok : Ok2 X.K r f) (ok' : Ok2 X.K r' g) (ha : EV X a m) (hb : EV X b n) (hc : EV X c l)
    (hm : lastMarks [op, op'] [b, c] = false := by with_unfolding_all rfl) : EV X (.Compare a [op, op'] [b, c] pos) (mCh f g m n l) :=
  ev_of (pe_chain ho ho' ha hb hc hm) fun σ H Q F ρ r ρ' R e k => chain_use ok ok' R e k
theorem tv_chain {op op' : CmpOp} {r r' : R2} {f g : D → D → Option Rs} {l : ME} (ho : OpR X (compareOp op) r) (ho' : OpR X (compareOp op') r') (ok : Ok2 X.K r f) (ok' : Ok2 X.K r' g) (ha : EV X a m) (hb : EV X b n) (hc : EV X c l)
    (hm : lastMarks [op, op'] [b, c] = false := by with_unfolding_all rfl) : TV X (.Compare a [op, op'] [b, c] pos) (mTe (mCh f g m n l)) := by
  refine tv_of (pt_chain ho ho' ha hb hc hm) fun σ H Q F ρ b ρ' R e k => ?_
  unfold mTe at e
  split at e
  · rename_i b' ρ1 e1
    cases e
    exact chain_use ok ok' R e1 fun v F' H' ex h _ => ⟨b, (by cases (show Sh X.K F' v (.bl b) from h); rfl), k F' H' ex⟩
  · cases e
end

/-! ### argument lists -/
def mNil : MA := fun ρ => some ([], ρ)
def mCons (m : ME) (l : MA) : MA := fun ρ => match m ρ with
  | some (r, ρ1) => match l ρ1 with
    | some (rs, ρ2) => some (r :: rs, ρ2)
    | none => none
  | none => none
section
variable {X : Cx} {e : Expr} {es : List Expr} {m : ME} {l : MA}
theorem av_nil : AV X [] mNil := av_of pa_nil fun σ H Q F ρ rs ρ' R e k => by
  cases e
  exact k [] F H (Ex.refl R) trivial trivial
theorem HRs.ow_there {K : PySem.W.Frag} {F H : Hp} {σ : L2.St} {ρ : En} : ∀ {vs : List V} {rs : List Rv}, HRs K F H σ ρ vs rs → ∀ (j : Nat) (d : D), rs[j]? = some (Rv.ow d) → ∃ a, vs[j]? = some (.ref a) ∧ ∃ o, H a = some o
  | [], [], _, j, d, e => by simp at e
  | v :: vs, r :: rs, h, 0, d, e => by
    simp at e
    subst e
    obtain ⟨⟨a, e, n, o, _⟩, _⟩ := h
    exact ⟨a, by rw [e]; rfl, o.there⟩
  | v :: vs, r :: rs, h, j + 1, d, e => by
    obtain ⟨a, e1, e2⟩ := HRs.ow_there h.2.1 j d (by simpa using e)
    exact ⟨a, by simpa using e1, e2⟩
theorem Nws.ow {H : Hp} : ∀ {vs : List V} {rs : List Rv}, Nws H vs rs → ∀ (j : Nat) (d : D), rs[j]? = some (Rv.ow d) → ∃ a, vs[j]? = some (.ref a) ∧ H a = none
  | [], [], _, j, d, e => by simp at e
  | v :: vs, r :: rs, h, 0, d, e => by
    simp at e
    subst e
    obtain ⟨⟨a, e, n⟩, _⟩ := h
    exact ⟨a, by rw [e]; rfl, n⟩
  | v :: vs, r :: rs, h, j + 1, d, e => by
    obtain ⟨a, e1, e2⟩ := Nws.ow h.2 j d (by simpa using e)
    exact ⟨a, by simpa using e1, e2⟩
theorem Nws.back {K : PySem.W.Frag} {F H F' H' : Hp} {σ σ' : L2.St} {ρ ρ' : En} (X : Ex K F H σ ρ F' H' σ' ρ') : ∀ {vs : List V} {rs : List Rv}, Nws H' vs rs → Nws H vs rs
  | [], [], _ => trivial
  | v :: vs, r :: rs, h => ⟨h.1.back X, Nws.back X h.2⟩
theorem av_cons (ha : EV X e m) (hr : AV X es l) (hs : starEach (e :: es) X.env = (false, eval e X.env) :: starEach es X.env := by rfl) : AV X (e :: es) (mCons m l) := by
  refine av_of (pa_cons ha hr hs) fun σ H Q F ρ rs ρ' R e k => ?_
  unfold mCons at e
  split at e
  · rename_i r1 ρ1 e1
    split at e
    · rename_i rs2 ρ2 e2
      cases e
      refine ⟨F, ρ, _, _, R, e1, fun v F1 H1 ex1 h1 nw1 => ⟨F1, ρ1, _, _, ex1.rep, e2, fun vs F2 H2 ex2 h2 nw2 => ?_⟩⟩
      refine k (v :: vs) F2 H2 (ex1.trans ex2) ⟨h1.ex ex2, h2, fun d ed j d' ej z => ?_⟩ ⟨nw1, nw2.back ex1⟩
      subst ed
      obtain ⟨a, ea, n, o, _⟩ := h1
      obtain ⟨ob, eo⟩ := o.there
      obtain ⟨b, e3, e4⟩ := nw2.ow j d' ej
      rw [z] at e3
      cases e3
      cases ea
      rw [eo] at e4; cases e4
    · cases e
  · cases e

/-- all become shared -/
def shrs (ρ : En) : List Rv → Option (List D × En)
  | [] => some ([], ρ)
  | r :: rs => match shr ρ r with
    | some (d, ρ1) => match shrs ρ1 rs with
      | some (ds, ρ2) => some (d :: ds, ρ2)
      | none => none
    | none => none
end
section
variable {K : PySem.W.Frag} {F H : Hp} {σ : L2.St} {ρ ρ' : En} {v : V} {r : Rv} {d : D}
theorem Rv.shr_ex (R : Rep K F H σ ρ) (h : HR K F H σ ρ v r) (e : shr ρ r = some (d, ρ')) :
    ∃ F', Sh K F' v d ∧ Rep K F' H σ ρ' ∧ Sub F F' ∧ (∀ a o, F' a = some o → (∃ u, F a = some u) ∨ Own σ ρ a ∨ ((∃ d', r = .ow d') ∧ v = .ref a)) ∧
      (∀ (i : Nat) (p : Bool) (d : D), ρ'[i]? = some (some ⟨true, p, d⟩) → ρ[i]? = some (some ⟨true, p, d⟩)) ∧ (∀ (i : Nat) (w : W), ρ[i]? = some (some w) → ∃ w', ρ'[i]? = some (some w')) ∧
      (∀ (i : Nat) (w : W), ρ[i]? = some (some w) → w.pin = true → ∃ w', ρ'[i]? = some (some w') ∧ w'.pin = true) ∧ ρ'.length = ρ.length := by
  cases r with
  | sh d' => cases e; exact ⟨F, h, R, Sub.refl _, fun a o q => .inl ⟨o, q⟩, fun _ _ _ q => q, fun i w q => ⟨w, q⟩, fun i w q p => ⟨w, q, p⟩, rfl⟩
  | ow d' =>
    cases e
    obtain ⟨a, rfl, n, o, no⟩ := h
    obtain ⟨F', h1, h2, h3, h4⟩ := Ex.freeze_new R n o no
    refine ⟨F', h1, h2, h3, fun b u q => ?_, fun _ _ _ q => q, fun i w q => ⟨w, q⟩, fun i w q p => ⟨w, q, p⟩, rfl⟩
    rcases h4 b u q with z | z
    · exact .inl ⟨u, z⟩
    · subst z; exact .inr (.inr ⟨⟨_, rfl⟩, rfl⟩)
  | «at» i =>
    obtain ⟨e1, w, e2⟩ := h
    simp only [shr, e2] at e
    cases e
    obtain ⟨F', ex, hs⟩ := Ex.freeze_at R e2 e1
    refine ⟨F', hs, ex.rep, ex.sub, fun b u q => ?_, fun j p d q => ?_, ex.asg, fun j w' q p => (ex.pin j w' q p).2, ex.len⟩
    · rcases ex.newF b u q with z | z | z
      · exact .inl z
      · have := ex.rep.le b u q
        rw [z] at this; cases this
      · exact .inr (.inl z)
    · rcases set_get q with ⟨_, z, _⟩ | ⟨_, z⟩
      · cases z
      · exact z
/-- as a step from an earlier state, at which it was new if it is new -/
theorem Rv.shr_step {F0 H0 : Hp} {ρ0 : En} (X : Ex K F0 H0 σ ρ0 F H σ ρ) (h : HR K F H σ ρ v r) (nw : Nw H0 v r) (e : shr ρ r = some (d, ρ')) : ∃ F', Ex K F0 H0 σ ρ0 F' H σ ρ' ∧ Sh K F' v d ∧ Sub F F' ∧
    (∀ a o, F' a = some o → (∃ u, F a = some u) ∨ Own σ ρ a ∨ ((∃ d', r = .ow d') ∧ v = .ref a)) := by
  obtain ⟨F', h1, h2, h3, h4, h5, h6, h7, h8⟩ := Rv.shr_ex X.rep h e
  refine ⟨F', ⟨h2, X.sub.trans h3, X.frame, X.live, fun a o q => ?_, fun i p d a q1 q2 => X.own i p d a (h5 i p d q1) q2, fun i w q => ?_, fun i w q p => ?_, h8.trans X.len⟩, h1, h3, h4⟩
  · rcases h4 a o q with ⟨u, z⟩ | z | ⟨⟨d', z⟩, z2⟩
    · exact X.newF a u z
    · rcases X.ownd z with z | z
      · exact .inr (.inr z)
      · exact .inr (.inl z)
    · subst z
      obtain ⟨b, e1, n⟩ := nw
      rw [z2] at e1
      cases e1
      exact .inr (.inl n)
  · obtain ⟨w', q'⟩ := X.asg i w q
    exact h6 i w' q'
  · obtain ⟨q1, w', q2, p'⟩ := X.pin i w q p
    exact ⟨q1, h7 i w' q2 p'⟩
/-- the others stay told -/
theorem HR.shr_keep {v' : V} {r' : Rv} (R : Rep K F H σ ρ) {F' : Hp} (R' : Rep K F' H σ ρ') (s : Sub F F') (h4 : ∀ a o, F' a = some o → (∃ u, F a = some u) ∨ Own σ ρ a ∨ ((∃ d', r = .ow d') ∧ v = .ref a))
    (e : shr ρ r = some (d, ρ')) (h : HR K F H σ ρ v' r') (ne : ∀ d' d'', r = .ow d' → r' = .ow d'' → v ≠ v') : HR K F' H σ ρ' v' r' := by
  have hr : ρ' = ρ ∨ ∃ i w, ρ[i]? = some (some w) ∧ ρ' = ρ.set i (some ⟨false, w.pin, w.d⟩) := by
    cases r with
    | sh _ => cases e; exact .inl rfl
    | ow _ => cases e; exact .inl rfl
    | «at» i =>
      simp only [shr] at e
      split at e
      · rename_i w hw; cases e; exact .inr ⟨i, w, hw, rfl⟩
      · cases e
  cases r' with
  | sh d2 => exact Sh.sub s h
  | ow d2 =>
    obtain ⟨a, ea, n, o, no⟩ := h
    have hn : F' a = none := by
      cases q : F' a with
      | none => rfl
      | some z =>
        rcases h4 a z q with ⟨u, z⟩ | z | ⟨⟨d', z⟩, z2⟩
        · rw [n] at z; cases z
        · exact absurd z no
        · exact absurd (z2.trans ea.symm) (ne d' d2 z rfl)
    refine ⟨a, ea, hn, o.sub s rfl, fun z => no ?_⟩
    obtain ⟨i, p, d3, q1, q2⟩ := z
    rcases hr with rfl | ⟨j, w, q3, rfl⟩
    · exact ⟨i, p, d3, q1, q2⟩
    · rcases set_get q1 with ⟨_, z, _⟩ | ⟨_, z⟩
      · cases z
      · exact ⟨i, p, d3, z, q2⟩
  | «at» i =>
    obtain ⟨e1, w, e2⟩ := h
    refine ⟨e1, ?_⟩
    rcases hr with rfl | ⟨j, w', q3, rfl⟩
    · exact ⟨w, e2⟩
    · by_cases hj : j = i
      · subst hj
        exact ⟨_, by rw [List.getElem?_set_self (List.getElem?_eq_some_iff.mp e2).1]⟩
      · exact ⟨w, by rw [List.getElem?_set_ne hj]; exact e2⟩
theorem HRs.shr_keep (R : Rep K F H σ ρ) {F' : Hp} (R' : Rep K F' H σ ρ') (s : Sub F F') (h4 : ∀ a o, F' a = some o → (∃ u, F a = some u) ∨ Own σ ρ a ∨ ((∃ d', r = .ow d') ∧ v = .ref a))
    (e : shr ρ r = some (d, ρ')) : ∀ {vs : List V} {rs : List Rv}, HRs K F H σ ρ vs rs → (∀ d', r = .ow d' → ∀ (j : Nat) (d'' : D), rs[j]? = some (Rv.ow d'') → vs[j]? ≠ some v) → HRs K F' H σ ρ' vs rs
  | [], [], _, _ => trivial
  | v' :: vs, r' :: rs, h, ne => ⟨HR.shr_keep R R' s h4 e h.1 (fun d' d'' e1 e2 z => ne d' e1 0 d'' (by rw [e2]; rfl) (by rw [z]; rfl)),
      HRs.shr_keep R R' s h4 e h.2.1 (fun d' e1 j d'' e2 => by simpa using ne d' e1 (j + 1) d'' (by simpa using e2)), h.2.2⟩
theorem shrs_step {F0 H0 : Hp} {ρ0 : En} : ∀ {vs : List V} {rs : List Rv} {F : Hp} {ρ ρ' : En} {ds : List D}, Ex K F0 H0 σ ρ0 F H σ ρ → HRs K F H σ ρ vs rs → Nws H0 vs rs → shrs ρ rs = some (ds, ρ') → ∃ F', Ex K F0 H0 σ ρ0 F' H σ ρ' ∧ Shs K F' vs ds ∧ Sub F F'
  | [], [], F, ρ, ρ', ds, X, h, nw, e => by cases e; exact ⟨F, X, .nil, Sub.refl _⟩
  | v :: vs, r :: rs, F, ρ, ρ', ds, X, h, nw, e => by
    unfold shrs at e
    split at e
    · rename_i d ρ1 e1
      split at e
      · rename_i ds2 ρ2 e2
        cases e
        obtain ⟨F1, X1, s1, sb, h4⟩ := Rv.shr_step X h.1 nw.1 e1
        have h2 := HRs.shr_keep X.rep X1.rep sb h4 e1 h.2.1 h.2.2
        obtain ⟨F2, X2, s2, sb2⟩ := shrs_step X1 h2 nw.2 e2
        exact ⟨F2, X2, .cons (s1.sub sb2) s2, sb.trans sb2⟩
      · cases e
    · cases e
end
end Mi
set_option Elab.async false
set_option linter.all false
set_option maxRecDepth 100000
set_option maxHeartbeats 1000000
set_option autoImplicit false
namespace Mi
open PySem PySem.Spec PyProof.Rows L2

/-! ### displays -/
def mTup (l : MA) : ME := fun ρ => match l ρ with
  | some (rs, ρ1) => match shrs ρ1 rs with
    | some (ds, ρ2) => if ds.length ≤ sizeLine then some (.sh (.tup ds), ρ2) else none
    | none => none
  | none => none
def mLst (l : MA) : ME := fun ρ => match l ρ with
  | some (rs, ρ1) => match shrs ρ1 rs with
    | some (ds, ρ2) => if ds.length ≤ sizeLine then some (.ow (.lst ds), ρ2) else none
    | none => none
  | none => none
section
variable {X : Cx} {es : List Expr} {l : MA} {pos : Pos}
theorem ev_tup {x1} (h : AV X es l) : EV X (.Tuple es x1 pos) (mTup l) := by
  refine ev_of (pe_tup h) fun σ H Q F ρ r ρ' R e k => ?_
  unfold mTup at e
  split at e
  · rename_i rs ρ1 e1
    split at e
    · rename_i ds ρ2 e2
      split at e
      · rename_i hz
        cases e
        refine ⟨F, ρ, _, _, R, e1, fun vs F1 H1 ex1 h1 nw1 => ?_⟩
        obtain ⟨F2, ex2, s2, _⟩ := shrs_step ex1 h1 nw1 e2
        refine ⟨by rw [s2.length]; exact hz, fun p hp => ?_⟩
        have g : Gr F2 H1 (upd F2 p (.tup vs)) (upd H1 p (.tup vs)) := Gr.new_sh ex2.rep.le hp
        exact k _ _ _ (ex2.trans (Gr.ex ex2.rep g)) (.tup (.inl upd_same) (s2.sub g.sub.sub)) trivial
      · cases e
    · cases e
  · cases e
theorem ev_lst (h : AV X es l) : EV X (.List es pos) (mLst l) := by
  refine ev_of (pe_lst h) fun σ H Q F ρ r ρ' R e k => ?_
  unfold mLst at e
  split at e
  · rename_i rs ρ1 e1
    split at e
    · rename_i ds ρ2 e2
      split at e
      · rename_i hz
        cases e
        refine ⟨F, ρ, _, _, R, e1, fun vs F1 H1 ex1 h1 nw1 => ?_⟩
        obtain ⟨F2, ex2, s2, _⟩ := shrs_step ex1 h1 nw1 e2
        refine ⟨by rw [s2.length]; exact hz, fun p hp => ?_⟩
        have g : Gr F2 H1 F2 (upd H1 p (.lst vs)) := Gr.new_own ex2.rep.le hp
        have hn : HN X.K H1 F2 (upd H1 p (.lst vs)) (.ref p) (.ow (.lst ds)) := ⟨p, rfl, hp, ex2.rep.le.none hp, vs, upd_same, s2⟩
        have q := hn.hr ex2.rep
        exact k _ _ _ (ex2.trans (Gr.ex ex2.rep g)) q.1 (q.2.back ex2)
      · cases e
    · cases e
  · cases e
end

/-! ### calls of built-ins: the arguments are looked at, nothing that stands changes -/
def peeks (ρ : En) : List Rv → Option (List D)
  | [] => some []
  | r :: rs => match peek ρ r with
    | some d => match peeks ρ rs with
      | some ds => some (d :: ds)
      | none => none
    | none => none
def Bos (K : PySem.W.Frag) (F H : Hp) : List V → List D → Prop
  | [], [] => True
  | v :: vs, d :: ds => Bo K F H v d ∧ Bos K F H vs ds
  | _, _ => False
theorem HRs.bos {K : PySem.W.Frag} {F H : Hp} {σ : L2.St} {ρ : En} (R : Rep K F H σ ρ) : ∀ {vs : List V} {rs : List Rv} {ds : List D}, HRs K F H σ ρ vs rs → peeks ρ rs = some ds → Bos K F H vs ds
  | [], [], ds, h, e => by cases e; trivial
  | v :: vs, r :: rs, ds, h, e => by
    unfold peeks at e
    split at e
    · rename_i d e1
      split at e
      · rename_i ds2 e2
        cases e
        exact ⟨HR.bo R h.1 e1, HRs.bos R h.2.1 e2⟩
      · cases e
    · cases e
theorem Bos.length {K : PySem.W.Frag} {F H : Hp} : ∀ {vs : List V} {ds : List D}, Bos K F H vs ds → vs.length = ds.length
  | [], [], _ => rfl
  | _ :: _, _ :: _, h => by simp [Bos.length h.2]
theorem Bos.one {K : PySem.W.Frag} {F H : Hp} {vs : List V} {d : D} (h : Bos K F H vs [d]) : ∃ v, vs = [v] ∧ Bo K F H v d := by
  cases vs with
  | nil => exact h.elim
  | cons v r => cases r with
    | nil => exact ⟨v, rfl, h.1⟩
    | cons _ _ => exact h.2.elim
theorem Bos.two {K : PySem.W.Frag} {F H : Hp} {vs : List V} {d e : D} (h : Bos K F H vs [d, e]) : ∃ v u, vs = [v, u] ∧ Bo K F H v d ∧ Bo K F H u e := by
  cases vs with
  | nil => exact h.elim
  | cons v r =>
    obtain ⟨u, rfl, h2⟩ := Bos.one h.2
    exact ⟨v, u, rfl, h.1, h2⟩
def mCB (f : List D → Option Rs) (l : MA) : ME := fun ρ => match l ρ with
  | some (rs, ρ1) => match peeks ρ1 rs with
    | some ds => match f ds with
      | some z => some (z.rv, ρ1)
      | none => none
    | none => none
  | none => none
def OkC (K : PySem.W.Frag) (r : List V → Hp → VK → Prop) (f : List D → Option Rs) : Prop := ∀ F H vs ds z Q, Le F H → Bos K F H vs ds → f ds = some z → (∀ v F' H', Gr F H F' H' → HN K H F' H' v z → Q v H') → r vs H Q
section
variable {X : Cx} {e : Expr} {es : List Expr} {l : MA} {x : Str} {p pos : Pos} {f : List D → Option Rs} {r : List V → Hp → VK → Prop}
theorem useC (ok : OkC X.K r f) {σ H F ρ z ρ'} {Q : VK} (R : Rep X.K F H σ ρ) (e : mCB f l ρ = some (z, ρ')) (k : ∀ v F' H', Ex X.K F H σ ρ F' H' σ ρ' → HR X.K F' H' σ ρ' v z → Nw H v z → Q v H') : tCB r (tMA X.K l) σ H Q := by
  unfold mCB at e
  split at e
  · rename_i rs ρ1 e1
    split at e
    · rename_i ds e2
      split at e
      · rename_i zz e3
        cases e
        refine ⟨F, ρ, _, _, R, e1, fun vs F1 H1 ex1 h1 _ => ok F1 H1 vs ds zz _ ex1.rep.le (HRs.bos ex1.rep h1 e2) e3 fun v2 F2 H2 g h2 => ?_⟩
        have q := h2.hr ex1.rep
        exact k v2 F2 H2 (ex1.trans (Gr.ex ex1.rep g)) q.1 (q.2.back ex1)
      · cases e
    · cases e
  · cases e
theorem ev_callB {id : String} (hc : CallR X (.builtin id) r) (ok : OkC X.K r f) (hm : X.mg x = none) (hv : bootBuiltins x = some (.builtin id)) (ha : AV X (e :: es) l) (hg : Gl X x := by rfl)
    (hn : x ≠ "__name__" := by decide) (hd : (x == ("__debug__" : Str)) = false := by decide) (he : starEach (e :: es) X.env = (false, eval e X.env) :: starEach es X.env := by rfl) (hpl : (backTo pos (starEach es X.env)).any (·.1) = false := by rfl) :
    EV X (.Call (.Name x p) (e :: es) [] pos) (mCB f l) :=
  ev_of (pe_callB hc hg hm hv ha hn hd he hpl) fun σ H Q F ρ r ρ' R e k => useC ok R e k
theorem ev_callTy {T : String} (hc : CallR X (.type T) r) (ok : OkC X.K r f) (hm : X.mg x = none) (hv : bootBuiltins x = some (.type T)) (ha : AV X (e :: es) l) (hg : Gl X x := by rfl)
    (hn : x ≠ "__name__" := by decide) (hd : (x == ("__debug__" : Str)) = false := by decide) (he : starEach (e :: es) X.env = (false, eval e X.env) :: starEach es X.env := by rfl) (hpl : (backTo pos (starEach es X.env)).any (·.1) = false := by rfl) :
    EV X (.Call (.Name x p) (e :: es) [] pos) (mCB f l) :=
  ev_of (pe_callTy hc hg hm hv ha hn hd he hpl) fun σ H Q F ρ r ρ' R e k => useC ok R e k
end
end Mi
set_option Elab.async false
set_option linter.all false
set_option maxRecDepth 100000
set_option maxHeartbeats 1000000
set_option autoImplicit false
namespace Mi
open PySem PySem.Spec PyProof.Rows L2

/-- room for k calls, and no repr is at work -/
structure Rm (k : Nat) (A : Around) : Prop where
  room : Room k A
  gd : A.guards = some []
theorem Rm.mono {j k : Nat} {A : Around} (r : Rm k A) (h : j ≤ k) : Rm j A := ⟨r.room.mono h, r.gd⟩
theorem Rm.deeper {k : Nat} {A : Around} (r : Rm (k + 1) A) (env : Env) : Rm k (A.deeper env) := ⟨r.room.deeper env, r.gd⟩

/-- a promise that is kept wherever no repr is at work -/
structure FnG (P : Program) (w : World) (K : PySem.W.Frag) (mg : Str → Option Value) (base : Heap) (k : Nat) (f : Addr) (fd : FuncData) (ps : List Str) (sp : Sp) : Prop where
  len : ∀ vs H Q E, sp vs H Q E → vs.length = ps.length
  run : ∀ (A : Around) (outer : List Env) (s : Shared) (H : Hp) (args : Args) (us : List Value) (vs : List V) (Q : VK) (E : XK), Rm k A →
    Env0 P w K mg base A outer s H → BindsTo s fd args (ps.zip us) → Vals vs us → sp vs H Q E → codeAny (model P w) A (.call (.ref f) args) (CR CX0 outer P w H s Q E) s

section
variable {P : Program} {w : World} {K : PySem.W.Frag} {mg : Str → Option Value} {base : Heap} {k : Nat} {f : Addr} {N ps : List Str} {sp : Sp}
theorem FunD.okG {x qual : Str} {params : Arguments} {body : List Stmt} {scope : Scope} {dvs : List V} {kws : List (Str × V)} {fd : FuncData} (F : FunD K x qual params body scope dvs kws f fd) (S : FnScope N ps scope)
    (len : ∀ vs H Q E, sp vs H Q E → vs.length = ps.length)
    (hb : ∀ (cdv : Value) (A : Around) (outer : List Env) (s : Shared) (H : Hp) (vs : List V) (Q : VK) (E : XK), Rm k (A.deeper (envOfC qual scope s.heap.objs.size f cdv)) → sp vs H Q E →
      ∃ t, PSs (cxOf CX0 P w K mg base N qual scope f cdv A outer s H E) body t ∧ t { nx := fun _ H1 => Q .non H1, rt := Q } (L2.start N vs) H) : FnG P w K mg base (k + 1) f fd ps sp := by
  obtain ⟨oc, od, dV, kV, doc, pm, an, cd, ct, osl, rfl, lk, hcd, _, _⟩ := F.ex
  constructor
  · exact len
  intro A out s H args us vs Q E hr e0 bnd rel want
  have n1 := len _ _ _ _ want
  have inK := e0.mod.kin.keeps fun b o e => (e0.bs b o e).1
  have nolim := e0.mod.nolimit.keeps fun b o e => (e0.bs b o e).1
  apply codeAny_call_function hr.room.depth (inK _ _ lk) rfl S.co S.gen rfl (PySem.W.codeRec_of inK hcd)
  apply bnd
  apply wpAny_newFunctionEnv_cells S.kind
  · rintro ⟨y, u⟩ hy
    rcases S.par y (List.of_mem_zip hy).1 with q | q
    · exact Or.inl q
    · exact Or.inr ⟨q, PySem.W.cellsFrom_some _ _ _ (Or.inl q)⟩
  intro env he s1 x
  subst he
  refine ⟨nolim.keeps x.toInCall.keep, codeAny_func ?_⟩
  obtain ⟨t, ht, hq⟩ := hb cd A out s H vs Q E (hr.deeper _) want
  have I := inv_start (CX := CX0) (P := P) (w := w) (E := E) S hr.room.hd e0 n1 rel x
  refine wpAny_mono (ht.run [] s1 (L2.start N vs) H _ I hq) ?_ (fun _ _ z => z)
  rintro (_ | _ | _ | u) s' hs
  all_goals first
    | (obtain ⟨_, H1, J, q⟩ := hs
       exact ⟨V.non, H1, J.os, J.bare, J.base, J.hok, rfl, q⟩)
    | (obtain ⟨_, _, _, q⟩ := hs
       exact q.elim)
    | (obtain ⟨v, _, H1, J, rv, q⟩ := hs
       exact ⟨v, H1, J.os, J.bare, J.base, J.hok, rv, q⟩)
end

/-! ### calls -/
section
variable {X : Cx} {k : Nat} {f : Addr} {fd : FuncData} {ps : List Str} {sp : Sp} {x : Str} {p pos : Pos} {e : Expr} {es : List Expr} {kws : List Keyword} {t tk : TA}
theorem run_G {pins : List (Addr × Obj)} {σ : L2.St} {H : Hp} {s : Shared} {Q : VK} {args : Args} {us : List Value} {vs : List V} (F : FnG X.prog X.w X.K X.mg X.base k f fd ps sp) (hr : Rm k X.A) (hb : BindsTo s fd args (ps.zip us))
    (I : Inv X pins σ H s) (r : Vals vs us) (h : sp vs H Q E0) : codeAny (model X.prog X.w) X.A (.call (.ref f) args) (fun r s1 => match r with
      | .ok (.ret u) => EP X pins σ Q u s1
      | .ok _ => False
      | .error _ => False) s := by
  refine codeAny_mono (F.run X.A X.stack s H args us vs Q E0 hr I.env0 hb r h) fun r s1 q => ?_
  rcases r with er | ⟨_ | _ | _ | u⟩
  · exact q
  · exact q
  · exact q
  · exact q
  · exact I.after q
theorem call_G {pins : List (Addr × Obj)} {σ : L2.St} {H : Hp} {s : Shared} {Q : VK} {us : List Value} {kw : List (Str × Value)} {ws : List Value} {vs : List V} (F : FnG X.prog X.w X.K X.mg X.base k f fd ps sp) (hr : Rm k X.A) (hb : BindsTo s fd ⟨us, kw⟩ (ps.zip ws))
    (I : Inv X pins σ H s) (r : Vals vs ws) (h : sp vs H Q E0) : wpAny (model X.prog X.w) X.A (call (.ref f) us kw) (EP X pins σ Q) X.xe s := by
  refine wpAny_call (codeAny_mono (run_G F hr hb I r h) fun r s1 q => ?_)
  rcases r with er | ⟨_ | _ | _ | u⟩
  · exact q.elim
  · exact q.elim
  · exact q.elim
  · exact q.elim
  · exact q
def tCallG (sp : Sp) (t : TA) : TE := fun σ H Q => t σ H fun vs H1 => sp vs H1 Q E0
theorem pe_callG (F : FnG X.prog X.w X.K X.mg X.base k f fd ps sp) (hr : Rm k X.A) (hm : X.mg x = some (.ref f)) (hk : PySem.W.keepIn X.K (.ref f) = true) (hb : ∀ (s : Shared) (us : List Value), us.length = ps.length → BindsTo s fd ⟨us, []⟩ (ps.zip us))
    (ha : PA X (e :: es) t) (hg : Gl X x) (hdb : (x == ("__debug__" : Str)) = false) (he : starEach (e :: es) X.env = (false, eval e X.env) :: starEach es X.env) (hpl : (backTo pos (starEach es X.env)).any (·.1) = false) :
    PE X (.Call (.Name x p) (e :: es) [] pos) (tCallG sp t) := by
  constructor
  intro pins s σ H Q I h
  apply wpAny_Call_Name_kw
  apply ld_glob I hg hm _ hdb
  refine PySem.W.callWith_K (h₀ := X.base) I.ok.mod.kin hk (thn (ha.run pos pins s σ H _ I h) ?_) he hpl
  rintro us s1 ⟨vs, H1, I1, r, q⟩
  exact ⟨I1.kIn, call_G F hr (hb s1 us (by rw [← r.length]; exact F.len _ _ _ _ q)) I1 r q⟩
/-- by a permutation of what was written: positional ones, then keywords -/
def pk {α : Type} (is : List Nat) (l : List α) : List α := is.filterMap fun i => l[i]?
theorem pk_vals {is : List Nat} : ∀ {vs : List V} {us : List Value}, Vals vs us → Vals (pk is vs) (pk is us) := fun {vs us} r => by
  induction is with
  | nil => exact .nil
  | cons i is ih =>
    cases q : vs[i]? with
    | none =>
      have q2 := r.none_of q
      simpa [pk, q, q2] using ih
    | some v =>
      obtain ⟨u, q2, rv⟩ := r.get q
      have : Vals (v :: pk is vs) (u :: pk is us) := .cons rv ih
      simpa [pk, q, q2] using this
def tCallKG (sp : Sp) (is : List Nat) (n m : Nat) (t tk : TA) : TE := fun σ H Q => t σ H fun vs H1 => tk σ H1 fun zs H2 => vs.length = n ∧ zs.length = m ∧ sp (pk is (vs ++ zs)) H2 Q E0
theorem pe_callKG {ks : List Str} {n : Nat} {is : List Nat} (F : FnG X.prog X.w X.K X.mg X.base k f fd ps sp) (hr : Rm k X.A) (hm : X.mg x = some (.ref f)) (hk : PySem.W.keepIn X.K (.ref f) = true)
    (hb : ∀ (s : Shared) (us ws : List Value), us.length = n → ws.length = ks.length → BindsTo s fd ⟨us, ks.zip ws⟩ (ps.zip (pk is (us ++ ws)))) (ha : PA X (e :: es) t) (hkw : PK X kws tk) (hg : Gl X x) (hdb : (x == ("__debug__" : Str)) = false)
    (hall : (backToKw pos (keywordEach kws X.env)).all (·.1.isSome) = true) (hks : (backToKw pos (keywordEach kws X.env)).filterMap (·.1) = ks) (he : starEach (e :: es) X.env = (false, eval e X.env) :: starEach es X.env)
    (hpl : ((backTo pos (starEach (e :: es) X.env)).any (·.1) || (backToKw pos (keywordEach kws X.env)).any (·.1.isNone)) = false) : PE X (.Call (.Name x p) (e :: es) kws pos) (tCallKG sp is n ks.length t tk) := by
  constructor
  intro pins s σ H Q I h
  apply wpAny_Call_Name_kw
  apply ld_glob I hg hm _ hdb
  refine PySem.W.callWith_KW (h₀ := X.base) I.ok.mod.kin hk hall (thn (ha.run pos pins s σ H _ I h) ?_) hpl he
  rintro us s1 ⟨vs, H1, I1, r, q⟩
  refine thn (hkw.run pos pins s1 σ H1 _ I1 q) ?_
  rintro ws s2 ⟨zs, H2, I2, rz, l1, l2, q2⟩
  refine ⟨I2.kIn, ?_⟩
  rw [hks]
  exact call_G F hr (hb s2 us ws (by rw [← r.length]; exact l1) (by rw [← rz.length]; exact l2)) I2 (pk_vals (r.append rz)) q2
theorem pe_callKG0 {ks : List Str} {is : List Nat} (F : FnG X.prog X.w X.K X.mg X.base k f fd ps sp) (hr : Rm k X.A) (hm : X.mg x = some (.ref f)) (hk : PySem.W.keepIn X.K (.ref f) = true)
    (hb : ∀ (s : Shared) (ws : List Value), ws.length = ks.length → BindsTo s fd ⟨[], ks.zip ws⟩ (ps.zip (pk is ws))) (hkw : PK X kws tk) (hg : Gl X x) (hdb : (x == ("__debug__" : Str)) = false)
    (hall : (backToKw pos (keywordEach kws X.env)).all (·.1.isSome) = true) (hks : (backToKw pos (keywordEach kws X.env)).filterMap (·.1) = ks)
    (hpl : ((backTo pos (starEach [] X.env)).any (·.1) || (backToKw pos (keywordEach kws X.env)).any (·.1.isNone)) = false) : PE X (.Call (.Name x p) [] kws pos) (tCallKG sp is 0 ks.length tNil tk) := by
  constructor
  intro pins s σ H Q I h
  apply wpAny_Call_Name_kw
  apply ld_glob I hg hm _ hdb
  refine PySem.W.callWith_KW0 (h₀ := X.base) I.ok.mod.kin hk hall (thn (hkw.run pos pins s σ H _ I h) ?_) hpl
  rintro ws s2 ⟨zs, H2, I2, rz, _, l2, q2⟩
  refine ⟨I2.kIn, ?_⟩
  rw [hks]
  exact call_G F hr (hb s2 ws (by rw [← rz.length]; exact l2)) I2 (pk_vals rz) q2
end

/-! ### the law's own call -/
section
variable {P : Program} {w : World} {K : PySem.W.Frag} {mg mb : Str → Option Value} {k : Nat} {fa a : Addr} {fd : FuncData} {x : Str} {sp : Sp} {s : Shared} {vs : List Value} {ns : List Int}
/-- what is wanted of the law's run -/
abbrev LawEnd (s : Shared) : Result → Shared → Prop := fun r s1 => r = .ok (.ret (.bool true)) ∧ OldK s.heap s1.heap ∧ s1.os = s.os ∧ AllBare s1.gens
theorem law_at (H : Hp) (hO : Only H) (hA : ∀ b, H b ≠ none → b = a) (hK : H a ≠ none → K.lookup a = none) (hok : HOk P w H s.heap) (KX : K.In s.heap) (hns : s.heap.Ns mainGlobals mg) (hb : s.heap.Ns builtinsNs mb)
    (hbb : ∀ y : Str, y ≠ "__name__" → mb y = bootBuiltins y) (hlim : s.heap.NoLimit) (hg : s.gens = #[]) (ha : s.heap.get? a = some { cls := .type "list", data := .seq vs.toArray }) (hr : Rm k callerA)
    (F : ∀ base : Heap, K.In base → base.Ns mainGlobals mg → FnG P w K mg base k fa fd [x] sp) (hbind : ∀ (s : Shared) (u : Value), BindsTo s fd ⟨[u], []⟩ [(x, u)])
    (hsp : sp [.ref a] H (fun v _ => v = .bl true) E0) : codeAny (model P w) callerA (.call (.ref fa) ⟨[.ref a], []⟩) (LawEnd s) s := by
  have free : ∀ (b : Addr) (o : Obj) (es : Array DictEntry) (ep : Nat), s.heap.get? b = some o → o.data = .dict es ep → H b = none := by
    intro b o es ep e d
    rcases q : H b with _ | u
    · rfl
    · have eb := hA b (by rw [q]; exact fun z => nomatch z)
      rw [eb, ha] at e
      injection e with e
      rw [← e] at d
      exact nomatch (show Data.seq vs.toArray _ = Data.dict es ep from d)
  have hid : ∀ {b : Addr} {m : Str → Option Value}, s.heap.Ns b m → (hidT s.heap H).Ns b m := by
    rintro b m ⟨o, es, ep, e, d, r⟩
    exact ⟨o, es, ep, hidT_get e (free b o es ep e d), d, r⟩
  have kin : K.In (hidT s.heap H) := by
    intro b o e
    refine hidT_get (KX b o e) ?_
    rcases q : H b with _ | u
    · rfl
    · have eb := hA b (by rw [q]; exact fun z => nomatch z)
      rw [eb] at e q
      rw [hK (by rw [q]; exact fun z => nomatch z)] at e
      cases e
  have mod : Mod K mg (hidT s.heap H) := ⟨kin, hid hns, ⟨mb, hid hb, hbb⟩, hlim.elim fun mc z => ⟨mc, hid z.1, z.2⟩⟩
  have e0 : Env0 P w K mg (hidT s.heap H) callerA [] s H :=
    ⟨rfl, mod, fun b o e => of_hidT e, Nat.le_of_eq (hidT_size _ _), trivial, (fun b z => by cases z), hok, .of_eq hg⟩
  have go := (F _ kin (hid hns)).run callerA [] s H ⟨[.ref a], []⟩ [.ref a] [.ref a] _ E0 hr e0 (hbind s (.ref a)) (.cons rfl .nil) hsp
  refine codeAny_mono go ?_
  rintro (er | ⟨_ | _ | _ | u⟩) s1 h
  · exact h.elim
  · exact h.elim
  · exact h.elim
  · exact h.elim
  obtain ⟨v, H1, os, bare, un, hok1, rv, q⟩ := h
  obtain rfl : v = .bl true := q
  obtain rfl : u = Value.bool true := rv
  refine ⟨rfl, OldK.of_keep ?_, os, bare⟩
  intro b o e
  rcases q : H b with _ | u
  · exact un.keep b o e q (fun z => by cases z) (fun z => by cases z)
  · rcases hO b with z | ⟨ob, xs, z⟩
    · rw [z] at q; cases q
    · have o1 := (hok b _ z).1
      rw [e] at o1
      rw [o1]
      exact (hok1 b _ (un.frzs b ob _ z)).1
theorem law_callG (KX : K.In s.heap) (hns : s.heap.Ns mainGlobals mg) (hb : s.heap.Ns builtinsNs mb) (hbb : ∀ y : Str, y ≠ "__name__" → mb y = bootBuiltins y) (hlim : s.heap.NoLimit) (hg : s.gens = #[])
    (ha : s.heap.get? a = some { cls := .type "list", data := .seq vs.toArray }) (hi : IntsAre vs ns) (hl : ns.length ≤ sizeLine) (hr : Rm k callerA)
    (F : ∀ base : Heap, K.In base → base.Ns mainGlobals mg → FnG P w K mg base k fa fd [x] sp) (hbind : ∀ (s : Shared) (u : Value), BindsTo s fd ⟨[u], []⟩ [(x, u)])
    (hsp : ∀ H : Hp, SqL K H a (ns.map V.int) → sp [.ref a] H (fun v _ => v = .bl true) E0) : codeAny (model P w) callerA (.call (.ref fa) ⟨[.ref a], []⟩) (LawEnd s) s := by
  have rv := vals_ints hi
  rcases hk : K.lookup a with _ | o
  · let ob : Obj := { cls := .type "list", data := .seq vs.toArray }
    let H : Hp := fun b => if b = a then some (.frz ob (.lst (ns.map V.int))) else none
    have at_a : H a = some (.frz ob (.lst (ns.map V.int))) := if_pos rfl
    have other : ∀ b, b ≠ a → H b = none := fun b n => if_neg n
    refine law_at H ?_ ?_ (fun _ => hk) ?_ KX hns hb hbb hlim hg ha hr F hbind (hsp H (.inl (.inr ⟨ob, at_a⟩)))
    · intro b
      by_cases h : b = a
      · exact .inr ⟨_, _, by rw [h]; exact at_a⟩
      · exact .inl (other b h)
    · intro b n
      by_cases h : b = a
      · exact h
      · exact absurd (other b h) n
    · intro b u z
      by_cases h : b = a
      · subst h
        rw [at_a] at z
        cases z
        exact ⟨ha, by rw [List.length_map]; exact hl, vs, _, rv, ha⟩
      · rw [other b h] at z
        cases z
  · have e := KX a o hk
    rw [ha] at e
    cases e
    have sq : SqL K (fun _ => none) a (ns.map V.int) := .inr ⟨_, vs.toArray, _, hk, rfl, rfl, rfl, by rw [List.size_toArray, hi.length]; exact hl, by simpa using rv⟩
    exact law_at (fun _ => none) (fun _ => .inl rfl) (fun b n => absurd rfl n) (fun n => absurd rfl n) (fun b u z => nomatch z) KX hns hb hbb hlim hg ha hr F hbind (hsp _ sq)
theorem walk_G {l : PySem.W.OpenLaw} {n : Nat} {q : Program} {loose : List Str} {XP : (Str → Option Value) → Heap → Prop} {YP : World → Heap → Prop} {d : DefRec} (hn : l.most = some n) (hn2 : n ≤ sizeLine) (hdf : d.params.defaults = []) (hr : Rm k callerA)
    (F : ∀ (w : World) (mg : Str → Option Value) (fa : Addr) (h : Heap), YP w h → h.Ns mainGlobals mg → mg d.name = some (.ref fa) → ∃ (K : PySem.W.Frag) (fd : FuncData) (sp : Sp), K.In h ∧ (∀ (s : Shared) (u : Value), BindsTo s fd ⟨[u], []⟩ [(x, u)]) ∧
        (∀ (H : Hp) (a : Addr) (ns : List Int), ns.length ≤ n → SqL K H a (ns.map V.int) → sp [.ref a] H (fun v _ => v = .bl true) E0) ∧ ∀ base : Heap, K.In base → base.Ns mainGlobals mg → FnG l.prog w K mg base k fa fd [x] sp) :
    PySem.W.WalkO q loose XP YP l.row.toRowW d [] (fun f vs => PySem.call f vs) := by
  refine Att.attach_call hn hdf ?_
  intro w s0 s1 mg mb fa o pm cd doc a vs ns G Y ho hd hcd hmg hobj hints hlen hg
  obtain ⟨K, fd, sp, KX, hb, hsp, hF⟩ := F w mg fa _ Y G.T.g hmg
  exact law_callG KX G.T.g G.T.b G.T.builtins G.T.nolimit hg hobj hints (Nat.le_trans hlen hn2) hr hF hb fun H hS => hsp H a ns hlen hS
end
end Mi
set_option Elab.async false
set_option linter.all false
set_option maxRecDepth 100000
set_option maxHeartbeats 1000000
set_option autoImplicit false
namespace Mi
open PySem PySem.Spec PyProof.Rows L2

theorem w_eta {w : W} (h : w.own = true) : w = ⟨true, w.pin, w.d⟩ := by cases w; simp at h; simp [h]

section
variable {K : PySem.W.Frag} {F H F0 H0 : Hp} {σ σ0 : L2.St} {ρ ρ0 : En} {v : V} {i : Nat}
/-- a slot is set -/
theorem Ex.set (X : Ex K F0 H0 σ0 ρ0 F H σ ρ) {o : Bool} {d : D} (np : ∀ w : W, ρ[i]? = some (some w) → w.pin = false) (h : HW K F H v ⟨o, false, d⟩)
    (hf : o = true → ∀ a, v = .ref a → ¬ Own σ ρ a ∧ H0 a = none) : Ex K F0 H0 σ0 ρ0 F H (σ.set i (some v)) (ρ.set i (some ⟨o, false, d⟩)) := by
  have R := X.rep
  have oth : ∀ (j : Nat) (p : Bool) (e : D) (b : Addr), (ρ.set i (some ⟨o, false, d⟩))[j]? = some (some ⟨true, p, e⟩) → (σ.set i (some v))[j]? = some (some (.ref b)) →
      (i = j ∧ o = true ∧ v = .ref b ∧ ¬ Own σ ρ b ∧ H0 b = none) ∨ (i ≠ j ∧ ρ[j]? = some (some ⟨true, p, e⟩) ∧ σ[j]? = some (some (.ref b))) := fun j p e b h1 h2 => by
    rcases set_get h1 with ⟨e1, z, il⟩ | ⟨nij, h1⟩
    · cases z
      subst e1
      rw [List.getElem?_set_self (by rw [R.len]; exact il)] at h2
      cases h2
      exact .inl ⟨rfl, rfl, rfl, hf rfl b rfl⟩
    · rw [List.getElem?_set_ne nij] at h2
      exact .inr ⟨nij, h1, h2⟩
  refine ⟨⟨R.le, fun j w e => ?_, fun j k p q d1 d2 a h1 h2 h3 h4 => ?_, by rw [List.length_set, List.length_set]; exact R.len⟩, X.sub, X.frame, X.live, X.newF, fun j p e b h1 h2 => ?_, fun j w e => ?_, fun j w e p => ?_, by rw [List.length_set]; exact X.len⟩
  · rcases set_get e with ⟨e1, z, il⟩ | ⟨nij, h1⟩
    · cases z
      subst e1
      exact ⟨v, by rw [List.getElem?_set_self (by rw [R.len]; exact il)], h⟩
    · obtain ⟨u, q1, q2⟩ := R.at_ j w h1
      exact ⟨u, by rw [List.getElem?_set_ne nij]; exact q1, q2⟩
  · rcases oth j p d1 a h1 h3 with ⟨e1, _, ev, no, _⟩ | ⟨n1, g1, g2⟩
    · rcases oth k q d2 a h2 h4 with ⟨e2, _⟩ | ⟨n2, g3, g4⟩
      · exact e1.symm.trans e2
      · exact absurd ⟨k, q, d2, g3, g4⟩ no
    · rcases oth k q d2 a h2 h4 with ⟨e2, _, ev, no, _⟩ | ⟨n2, g3, g4⟩
      · exact absurd ⟨j, p, d1, g1, g2⟩ no
      · exact R.inj j k p q d1 d2 a g1 g3 g2 g4
  · rcases oth j p e b h1 h2 with ⟨_, _, _, _, n⟩ | ⟨_, g1, g2⟩
    · exact .inr n
    · exact X.own j p e b g1 g2
  · obtain ⟨w', q⟩ := X.asg j w e
    by_cases hj : i = j
    · subst hj
      exact ⟨_, by rw [List.getElem?_set_self (List.getElem?_eq_some_iff.mp q).1]⟩
    · exact ⟨w', by rw [List.getElem?_set_ne hj]; exact q⟩
  · obtain ⟨q1, w', q2, p'⟩ := X.pin j w e p
    have hj : i ≠ j := by
      rintro rfl
      rw [np w' q2] at p'
      cases p'
    exact ⟨by rw [List.getElem?_set_ne hj]; exact q1, w', by rw [List.getElem?_set_ne hj]; exact q2, p'⟩
/-- an owned object is written -/
theorem Ex.write (R : Rep K F H σ ρ) {p : Bool} {d d' : D} {a : Addr} {o : HO} (e : ρ[i]? = some (some ⟨true, p, d⟩)) (es : σ[i]? = some (some (.ref a))) (h : OwO K F (upd H a o) a d') :
    Ex K F H σ ρ F (upd H a o) σ (ρ.set i (some ⟨true, p, d'⟩)) := by
  have hw : Own σ ρ a := ⟨i, p, d, e, es⟩
  obtain ⟨fa, ob, hob⟩ := R.own_there hw
  have il : i < ρ.length := (List.getElem?_eq_some_iff.mp e).1
  have oth : ∀ (j : Nat) (q : Bool) (x : D), (ρ.set i (some ⟨true, p, d'⟩))[j]? = some (some ⟨true, q, x⟩) → (i = j ∧ q = p) ∨ (i ≠ j ∧ ρ[j]? = some (some ⟨true, q, x⟩)) := fun j q x h1 => by
    rcases set_get h1 with ⟨e1, z, il⟩ | ⟨nij, h1⟩
    · cases z; exact .inl ⟨e1, rfl⟩
    · exact .inr ⟨nij, h1⟩
  refine ⟨⟨fun b u z => ?_, fun j w z => ?_, fun j k q1 q2 d1 d2 b h1 h2 h3 h4 => ?_, by rw [List.length_set]; exact R.len⟩, Sub.refl _, fun b u z n => ?_, fun b u z => ?_, fun b u z => .inl ⟨u, z⟩, fun j q x b h1 h2 => ?_, fun j w z => ?_, fun j w z q => ⟨rfl, ?_⟩, by simp⟩
  · rw [upd_ne (fun q => by rw [q, fa] at z; cases z)]
    exact R.le b u z
  · rcases set_get z with ⟨e1, z, _⟩ | ⟨nij, z⟩
    · cases z
      subst e1
      exact ⟨_, es, by unfold HW; rw [if_pos rfl]; exact ⟨a, rfl, fa, h⟩⟩
    · obtain ⟨u, q1, q2⟩ := R.at_ j w z
      refine ⟨u, q1, q2.ex (Sub.refl _) fun b eb ho => ?_⟩
      have nb : b ≠ a := by
        rintro rfl
        exact nij (R.inj i j p w.pin d w.d b e (by rw [← w_eta ho]; exact z) es (by rw [q1, eb]))
      exact ⟨(R.own_there ⟨j, w.pin, w.d, by rw [← w_eta ho]; exact z, by rw [q1, eb]⟩).1, upd_ne nb⟩
  · rcases oth j q1 d1 h1 with ⟨e1, _⟩ | ⟨n1, g1⟩
    · rcases oth k q2 d2 h2 with ⟨e2, _⟩ | ⟨n2, g2⟩
      · exact e1.symm.trans e2
      · subst e1; exact R.inj i k p q2 d d2 b e g2 h3 h4
    · rcases oth k q2 d2 h2 with ⟨e2, _⟩ | ⟨n2, g2⟩
      · subst e2; exact R.inj j i q1 p d1 d b g1 e h3 h4
      · exact R.inj j k q1 q2 d1 d2 b g1 g2 h3 h4
  · have nb : b ≠ a := by rintro rfl; exact n hw
    rw [upd_ne nb]; exact z
  · by_cases hb : b = a
    · subst hb; exact ⟨o, upd_same⟩
    · exact ⟨u, by rw [upd_ne hb]; exact z⟩
  · rcases oth j q x h1 with ⟨e1, eq⟩ | ⟨_, g1⟩
    · subst e1; subst eq
      exact .inl ⟨d, e, h2⟩
    · exact .inl ⟨x, g1, h2⟩
  · by_cases hj : i = j
    · subst hj; exact ⟨_, by rw [List.getElem?_set_self il]⟩
    · exact ⟨w, by rw [List.getElem?_set_ne hj]; exact z⟩
  · by_cases hj : i = j
    · subst hj; rw [e] at z; cases z; exact ⟨⟨true, p, d'⟩, by rw [List.getElem?_set_self il], q⟩
    · exact ⟨w, by rw [List.getElem?_set_ne hj]; exact z, q⟩
end

/-! ### a def's promise -/
def ww (l : List W) : En := l.map some
def vv (l : List V) : L2.St := l.map some
abbrev MG := List W → Option (Rs × List W)
/-- what is owned is pinned -/
def Pins (ws : List W) : Prop := ∀ (j : Nat) (w : W), ws[j]? = some w → w.own = true → w.pin = true
def spM (K : PySem.W.Frag) (n : Nat) (g : MG) : Sp := fun vs H Q _ => vs.length = n ∧ ∃ F ws r ws', Pins ws ∧ Rep K F H (vv vs) (ww ws) ∧ g ws = some (r, ws') ∧
  ∀ v F' H', Ex K F H (vv vs) (ww ws) F' H' (vv vs) (ww ws') → HR K F' H' (vv vs) (ww ws') v r.rv → Nw H v r.rv → Q v H'

/-! ### arguments handed on -/
/-- false: shared; true: the slot's own thing is handed -/
def pass (ρ : En) : List Bool → List Rv → Option (List (Sum D Nat) × En)
  | [], [] => some ([], ρ)
  | false :: bs, r :: rs => match shr ρ r with
    | some (d, ρ1) => match pass ρ1 bs rs with
      | some (l, ρ2) => some (.inl d :: l, ρ2)
      | none => none
    | none => none
  | true :: bs, .at i :: rs => match pass ρ bs rs with
    | some (l, ρ2) => some (.inr i :: l, ρ2)
    | none => none
  | _, _ => none
def HA (K : PySem.W.Frag) (F : Hp) (σ : L2.St) : List V → List (Sum D Nat) → Prop
  | [], [] => True
  | v :: vs, .inl d :: l => Sh K F v d ∧ HA K F σ vs l
  | v :: vs, .inr i :: l => σ[i]? = some (some v) ∧ HA K F σ vs l
  | _, _ => False
section
variable {K : PySem.W.Frag} {H F0 H0 : Hp} {σ : L2.St} {ρ0 : En}
theorem pass_step : ∀ {bs : List Bool} {vs : List V} {rs : List Rv} {F : Hp} {ρ ρ' : En} {l : List (Sum D Nat)}, Ex K F0 H0 σ ρ0 F H σ ρ → HRs K F H σ ρ vs rs → Nws H0 vs rs → pass ρ bs rs = some (l, ρ') →
    ∃ F', Ex K F0 H0 σ ρ0 F' H σ ρ' ∧ HA K F' σ vs l ∧ Sub F F'
  | [], [], [], F, ρ, ρ', l, X, h, nw, e => by cases e; exact ⟨F, X, trivial, Sub.refl _⟩
  | false :: bs, v :: vs, r :: rs, F, ρ, ρ', l, X, h, nw, e => by
    simp only [pass] at e
    split at e
    · rename_i d ρ1 e1
      split at e
      · rename_i l2 ρ2 e2
        cases e
        obtain ⟨F1, X1, s1, sb, h4⟩ := Rv.shr_step X h.1 nw.1 e1
        have h2 := HRs.shr_keep X.rep X1.rep sb h4 e1 h.2.1 h.2.2
        obtain ⟨F2, X2, s2, sb2⟩ := pass_step X1 h2 nw.2 e2
        exact ⟨F2, X2, ⟨s1.sub sb2, s2⟩, sb.trans sb2⟩
      · cases e
    · cases e
  | true :: bs, v :: vs, .at i :: rs, F, ρ, ρ', l, X, h, nw, e => by
    simp only [pass] at e
    split at e
    · rename_i l2 ρ2 e2
      cases e
      obtain ⟨F2, X2, s2, sb2⟩ := pass_step X h.2.1 nw.2 e2
      exact ⟨F2, X2, ⟨h.1.1, s2⟩, sb2⟩
    · cases e
  | true :: bs, v :: vs, .sh _ :: rs, F, ρ, ρ', l, X, h, nw, e => by cases e
  | true :: bs, v :: vs, .ow _ :: rs, F, ρ, ρ', l, X, h, nw, e => by cases e
  | [], [], _ :: _, F, ρ, ρ', l, X, h, nw, e => by cases e
  | [], _ :: _, [], F, ρ, ρ', l, X, h, nw, e => h.elim
  | [], _ :: _, _ :: _, F, ρ, ρ', l, X, h, nw, e => by cases e
  | false :: _, [], [], F, ρ, ρ', l, X, h, nw, e => by cases e
  | true :: _, [], [], F, ρ, ρ', l, X, h, nw, e => by cases e
  | _ :: _, [], _ :: _, F, ρ, ρ', l, X, h, nw, e => h.elim
  | _ :: _, _ :: _, [], F, ρ, ρ', l, X, h, nw, e => h.elim
end
def wsOf (ρ : En) : List (Sum D Nat) → Option (List W)
  | [] => some []
  | .inl d :: l => match wsOf ρ l with
    | some ws => some (⟨false, false, d⟩ :: ws)
    | none => none
  | .inr i :: l => match ρ[i]? with
    | some (some ⟨true, _, d⟩) => match wsOf ρ l with
      | some ws => some (⟨true, true, d⟩ :: ws)
      | none => none
    | _ => none
def slotsOf : List (Sum D Nat) → List Nat
  | [] => []
  | .inl _ :: l => slotsOf l
  | .inr i :: l => i :: slotsOf l
def upW (o : Option (Option W)) (w : W) : Option W := match o with
  | some (some u) => some ⟨w.own, u.pin, w.d⟩
  | _ => none
def back (ρ : En) : List (Sum D Nat) → List W → En
  | .inl _ :: l, _ :: ws => back ρ l ws
  | .inr i :: l, w :: ws => back (ρ.set i (upW ρ[i]? w)) l ws
  | _, _ => ρ
theorem slots_mem : ∀ {l : List (Sum D Nat)} {i : Nat}, i ∈ slotsOf l ↔ ∃ j : Nat, l[j]? = some (Sum.inr i)
  | [], i => by simp [slotsOf]
  | .inl d :: l, i => by
    rw [slotsOf, slots_mem (l := l)]
    constructor
    · rintro ⟨j, h⟩; exact ⟨j + 1, by simpa using h⟩
    · rintro ⟨j, h⟩
      cases j with
      | zero => simp at h
      | succ j => exact ⟨j, by simpa using h⟩
  | .inr k :: l, i => by
    rw [slotsOf, List.mem_cons, slots_mem (l := l)]
    constructor
    · rintro (rfl | ⟨j, h⟩)
      · exact ⟨0, rfl⟩
      · exact ⟨j + 1, by simpa using h⟩
    · rintro ⟨j, h⟩
      cases j with
      | zero => simp at h; exact .inl h.symm
      | succ j => exact .inr ⟨j, by simpa using h⟩
theorem back_out : ∀ {l : List (Sum D Nat)} {ws : List W} {ρ : En} {i : Nat}, i ∉ slotsOf l → (back ρ l ws)[i]? = ρ[i]?
  | [], _, _, _, _ => by simp [back]
  | .inl d :: l, [], ρ, i, h => by simp [back]
  | .inr d :: l, [], ρ, i, h => by simp [back]
  | .inl d :: l, w :: ws, ρ, i, h => by rw [back]; exact back_out (l := l) h
  | .inr k :: l, w :: ws, ρ, i, h => by
    rw [slotsOf, List.mem_cons, not_or] at h
    rw [back, back_out h.2, List.getElem?_set_ne (Ne.symm h.1)]
theorem back_in : ∀ {l : List (Sum D Nat)} {ws : List W} {ρ : En} {i j : Nat} {w u : W}, (slotsOf l).Nodup → l[j]? = some (Sum.inr i) → ws[j]? = some w → ρ[i]? = some (some u) → (back ρ l ws)[i]? = some (some ⟨w.own, u.pin, w.d⟩)
  | [], _, _, _, _, _, _, _, e, _, _ => by simp at e
  | .inl d :: l, [], ρ, i, j, w, u, nd, e, e2, e3 => by simp at e2
  | .inr d :: l, [], ρ, i, j, w, u, nd, e, e2, e3 => by simp at e2
  | .inl d :: l, w' :: ws, ρ, i, 0, w, u, nd, e, e2, e3 => by simp at e
  | .inl d :: l, w' :: ws, ρ, i, j + 1, w, u, nd, e, e2, e3 => by
    rw [back]
    exact back_in (l := l) (j := j) nd (by simpa using e) (by simpa using e2) e3
  | .inr k :: l, w' :: ws, ρ, i, 0, w, u, nd, e, e2, e3 => by
    simp at e e2
    subst e; subst e2
    rw [slotsOf, List.nodup_cons] at nd
    rw [back, back_out nd.1, List.getElem?_set_self (List.getElem?_eq_some_iff.mp e3).1, e3]
    rfl
  | .inr k :: l, w' :: ws, ρ, i, j + 1, w, u, nd, e, e2, e3 => by
    rw [slotsOf, List.nodup_cons] at nd
    have e' : l[j]? = some (Sum.inr i) := by simpa using e
    have nk : k ≠ i := by
      rintro rfl
      exact nd.1 (slots_mem.mpr ⟨j, e'⟩)
    rw [back]
    exact back_in (l := l) (j := j) nd.2 e' (by simpa using e2) (by rw [List.getElem?_set_ne nk]; exact e3)
theorem back_len : ∀ {l : List (Sum D Nat)} {ws : List W} {ρ : En}, (back ρ l ws).length = ρ.length
  | [], _, _ => by simp [back]
  | .inl d :: l, [], ρ => by simp [back]
  | .inr d :: l, [], ρ => by simp [back]
  | .inl d :: l, w :: ws, ρ => by rw [back]; exact back_len
  | .inr k :: l, w :: ws, ρ => by rw [back, back_len, List.length_set]
theorem ha_get {K : PySem.W.Frag} {F : Hp} {σ : L2.St} : ∀ {vs : List V} {l : List (Sum D Nat)}, HA K F σ vs l → ∀ {j i : Nat}, l[j]? = some (Sum.inr i) → ∃ v, vs[j]? = some v ∧ σ[i]? = some (some v)
  | [], [], _, j, i, e => by simp at e
  | v :: vs, .inl d :: l, h, 0, i, e => by simp at e
  | v :: vs, .inr d :: l, h, 0, i, e => by simp at e; subst e; exact ⟨v, rfl, h.1⟩
  | v :: vs, .inl d :: l, h, j + 1, i, e => by
    obtain ⟨u, q1, q2⟩ := ha_get h.2 (j := j) (i := i) (by simpa using e)
    exact ⟨u, by simpa using q1, q2⟩
  | v :: vs, .inr d :: l, h, j + 1, i, e => by
    obtain ⟨u, q1, q2⟩ := ha_get h.2 (j := j) (i := i) (by simpa using e)
    exact ⟨u, by simpa using q1, q2⟩
/-- what is handed: shared, or a slot's own -/
theorem ws_get {K : PySem.W.Frag} {F : Hp} {σ : L2.St} {ρ : En} : ∀ {vs : List V} {l : List (Sum D Nat)} {ws : List W}, HA K F σ vs l → wsOf ρ l = some ws → ∀ {j : Nat} {w : W}, ws[j]? = some w →
    ∃ v, vs[j]? = some v ∧ ((∃ d, w = ⟨false, false, d⟩ ∧ Sh K F v d ∧ l[j]? = some (Sum.inl d)) ∨ ∃ i p d, w = ⟨true, true, d⟩ ∧ l[j]? = some (Sum.inr i) ∧ ρ[i]? = some (some ⟨true, p, d⟩) ∧ σ[i]? = some (some v))
  | [], [], ws, _, e, j, w, q => by cases e; simp at q
  | v :: vs, .inl d :: l, ws, h, e, j, w, q => by
    unfold wsOf at e
    split at e
    · rename_i ws2 e2
      cases e
      cases j with
      | zero => simp at q; subst q; exact ⟨v, rfl, .inl ⟨d, rfl, h.1, rfl⟩⟩
      | succ j =>
        obtain ⟨u, q1, q2⟩ := ws_get h.2 e2 (j := j) (w := w) (by simpa using q)
        exact ⟨u, by simpa using q1, by simpa using q2⟩
    · cases e
  | v :: vs, .inr i :: l, ws, h, e, j, w, q => by
    unfold wsOf at e
    split at e
    · rename_i p d e0
      split at e
      · rename_i ws2 e2
        cases e
        cases j with
        | zero => simp at q; subst q; exact ⟨v, rfl, .inr ⟨i, p, d, rfl, rfl, e0, h.1⟩⟩
        | succ j =>
          obtain ⟨u, q1, q2⟩ := ws_get h.2 e2 (j := j) (w := w) (by simpa using q)
          exact ⟨u, by simpa using q1, by simpa using q2⟩
      · cases e
    · cases e
theorem ws_of_slot {ρ : En} : ∀ {l : List (Sum D Nat)} {ws : List W}, wsOf ρ l = some ws → ∀ {j i : Nat}, l[j]? = some (Sum.inr i) → ∃ p d, ws[j]? = some ⟨true, true, d⟩ ∧ ρ[i]? = some (some ⟨true, p, d⟩)
  | [], ws, e, j, i, q => by simp at q
  | .inl d :: l, ws, e, j, i, q => by
    unfold wsOf at e
    split at e
    · rename_i ws2 e2
      cases e
      cases j with
      | zero => simp at q
      | succ j => simpa using ws_of_slot e2 (j := j) (i := i) (by simpa using q)
    · cases e
  | .inr k :: l, ws, e, j, i, q => by
    unfold wsOf at e
    split at e
    · rename_i p d e0
      split at e
      · rename_i ws2 e2
        cases e
        cases j with
        | zero => simp at q; subst q; exact ⟨p, d, rfl, e0⟩
        | succ j => simpa using ws_of_slot e2 (j := j) (i := i) (by simpa using q)
      · cases e
    · cases e
theorem ws_len {ρ : En} : ∀ {l : List (Sum D Nat)} {ws : List W}, wsOf ρ l = some ws → ws.length = l.length
  | [], ws, e => by cases e; rfl
  | .inl d :: l, ws, e => by
    unfold wsOf at e
    split at e
    · rename_i ws2 e2; cases e; simp [ws_len e2]
    · cases e
  | .inr k :: l, ws, e => by
    unfold wsOf at e
    split at e
    · split at e
      · rename_i ws2 e2; cases e; simp [ws_len e2]
      · cases e
    · cases e
theorem ha_len {K : PySem.W.Frag} {F : Hp} {σ : L2.St} : ∀ {vs : List V} {l : List (Sum D Nat)}, HA K F σ vs l → vs.length = l.length
  | [], [], _ => rfl
  | _ :: _, .inl _ :: _, h => by simp [ha_len h.2]
  | _ :: _, .inr _ :: _, h => by simp [ha_len h.2]
theorem ww_get {ws : List W} {j : Nat} {w : W} : (ww ws)[j]? = some (some w) ↔ ws[j]? = some w := by
  unfold ww; rw [List.getElem?_map]; cases ws[j]? <;> simp
theorem vv_get {vs : List V} {j : Nat} {v : V} : (vv vs)[j]? = some (some v) ↔ vs[j]? = some v := by
  unfold vv; rw [List.getElem?_map]; cases vs[j]? <;> simp
theorem nodup_slots {l : List (Sum D Nat)} (nd : (slotsOf l).Nodup) {i j k : Nat} (h1 : l[j]? = some (Sum.inr i)) (h2 : l[k]? = some (Sum.inr i)) : j = k := by
    induction l generalizing j k with
    | nil => simp at h1
    | cons x r ih =>
      cases x with
      | inl d =>
        cases j with
        | zero => simp at h1
        | succ j =>
          cases k with
          | zero => simp at h2
          | succ k => rw [ih nd (j := j) (k := k) (by simpa using h1) (by simpa using h2)]
      | inr m =>
        rw [slotsOf, List.nodup_cons] at nd
        cases j with
        | zero =>
          simp at h1; subst h1
          cases k with
          | zero => rfl
          | succ k => exact absurd (slots_mem.mpr ⟨k, by simpa using h2⟩) nd.1
        | succ j =>
          cases k with
          | zero => simp at h2; subst h2; exact absurd (slots_mem.mpr ⟨j, by simpa using h1⟩) nd.1
          | succ k => rw [ih nd.2 (j := j) (k := k) (by simpa using h1) (by simpa using h2)]
theorem pass_len : ∀ {bs : List Bool} {rs : List Rv} {ρ ρ' : En} {l : List (Sum D Nat)}, pass ρ bs rs = some (l, ρ') → bs.length = l.length
  | [], [], ρ, ρ', l, e => by cases e; rfl
  | false :: bs, r :: rs, ρ, ρ', l, e => by
    simp only [pass] at e
    split at e
    · split at e
      · rename_i l2 ρ2 e2; cases e; simp [pass_len e2]
      · cases e
    · cases e
  | true :: bs, .at i :: rs, ρ, ρ', l, e => by
    simp only [pass] at e
    split at e
    · rename_i l2 ρ2 e2; cases e; simp [pass_len e2]
    · cases e
  | true :: bs, .sh _ :: rs, ρ, ρ', l, e => by cases e
  | true :: bs, .ow _ :: rs, ρ, ρ', l, e => by cases e
  | [], _ :: _, ρ, ρ', l, e => by cases e
  | false :: _, [], ρ, ρ', l, e => by cases e
  | true :: _, [], ρ, ρ', l, e => by cases e
theorem back_own {ρ : En} {l : List (Sum D Nat)} {ws ws' : List W} (e : wsOf ρ l = some ws) (nd : (slotsOf l).Nodup) (ln : ws'.length = ws.length) {i : Nat} {p : Bool} {d : D} (q : (back ρ l ws')[i]? = some (some ⟨true, p, d⟩)) :
    ∃ d', ρ[i]? = some (some ⟨true, p, d'⟩) := by
  by_cases hi : i ∈ slotsOf l
  · obtain ⟨j, hj⟩ := slots_mem.mp hi
    obtain ⟨p', d', e1, e2⟩ := ws_of_slot e hj
    have jl : j < ws'.length := by rw [ln]; exact (List.getElem?_eq_some_iff.mp e1).1
    rw [back_in nd hj (List.getElem?_eq_getElem jl) e2] at q
    have q' := Option.some.inj (Option.some.inj q)
    have ep : p' = p := congrArg W.pin q'
    exact ⟨d', by rw [← ep]; exact e2⟩
  · rw [back_out hi] at q
    exact ⟨d, q⟩
section
variable {K : PySem.W.Frag} {F H F' H' : Hp} {σ : L2.St} {ρ : En} {vs : List V} {l : List (Sum D Nat)} {ws ws' : List W}
/-- the callee's own view -/
theorem pass_rep (R : Rep K F H σ ρ) (h : HA K F σ vs l) (e : wsOf ρ l = some ws) (nd : (slotsOf l).Nodup) : Rep K F H (vv vs) (ww ws) := by
  refine ⟨R.le, fun j w q => ?_, fun j k p q d1 d2 a h1 h2 h3 h4 => ?_, by simp [vv, ww, ha_len h, ws_len e]⟩
  · obtain ⟨v, q1, q2⟩ := ws_get h e (ww_get.mp q)
    refine ⟨v, vv_get.mpr q1, ?_⟩
    rcases q2 with ⟨d, rfl, hs, _⟩ | ⟨i, p, d, rfl, _, e1, e2⟩
    · exact hs
    · obtain ⟨u, e3, h5⟩ := R.at_ i _ e1
      rw [e2] at e3; cases e3
      exact h5
  · obtain ⟨v, q1, q2⟩ := ws_get h e (ww_get.mp h1)
    obtain ⟨v', q3, q4⟩ := ws_get h e (ww_get.mp h2)
    rw [vv_get.mp h3] at q1; cases q1
    rw [vv_get.mp h4] at q3; cases q3
    rcases q2 with ⟨d, z, _⟩ | ⟨i, p', d, _, l1, e1, e2⟩
    · cases z
    · rcases q4 with ⟨d, z, _⟩ | ⟨i', p2, d', _, l2, e3, e4⟩
      · cases z
      · have ei : i = i' := R.inj i i' p' p2 d d' a e1 e3 e2 e4
        subst ei
        exact nodup_slots nd l1 l2
theorem pass_own (h : HA K F σ vs l) (e : wsOf ρ l = some ws) {a : Addr} (o : Own (vv vs) (ww ws) a) : ∃ (i : Nat) (p : Bool) (d : D) (j : Nat), l[j]? = some (Sum.inr i) ∧ ρ[i]? = some (some ⟨true, p, d⟩) ∧ σ[i]? = some (some (V.ref a)) := by
  obtain ⟨j, p, d, h1, h2⟩ := o
  obtain ⟨v, q1, q2⟩ := ws_get h e (ww_get.mp h1)
  rw [vv_get.mp h2] at q1; cases q1
  rcases q2 with ⟨d, z, _⟩ | ⟨i, p', d', _, l1, e1, e2⟩
  · cases z
  · exact ⟨i, p', d', j, l1, e1, e2⟩
/-- behind the call -/
theorem pass_back (R : Rep K F H σ ρ) (h : HA K F σ vs l) (e : wsOf ρ l = some ws) (nd : (slotsOf l).Nodup) (X : Ex K F H (vv vs) (ww ws) F' H' (vv vs) (ww ws')) :
    Ex K F H σ ρ F' H' σ (back ρ l ws') := by
  have own2 : ∀ {a : Addr}, Own (vv vs) (ww ws) a → Own σ ρ a := fun o => by
    obtain ⟨i, p, d, j, _, e1, e2⟩ := pass_own h e o
    exact ⟨i, p, d, e1, e2⟩
  -- what stands in a slot behind it
  have slot : ∀ (i : Nat) (w : W), (back ρ l ws')[i]? = some (some w) → (∃ (j : Nat) (u : W) (p : Bool) (d : D) (v : V), l[j]? = some (Sum.inr i) ∧ ws'[j]? = some u ∧ ρ[i]? = some (some ⟨true, p, d⟩) ∧ w = ⟨u.own, p, u.d⟩ ∧ σ[i]? = some (some v) ∧ vs[j]? = some v) ∨ (i ∉ slotsOf l ∧ ρ[i]? = some (some w)) := fun i w q => by
    by_cases hi : i ∈ slotsOf l
    · obtain ⟨j, hj⟩ := slots_mem.mp hi
      obtain ⟨p, d, e1, e2⟩ := ws_of_slot e hj
      obtain ⟨v, e3, e4⟩ := ha_get h hj
      have jl : j < ws'.length := by
        have := X.len
        simp [ww] at this
        rw [this]
        exact (List.getElem?_eq_some_iff.mp e1).1
      have e5 : ws'[j]? = some ws'[j] := List.getElem?_eq_getElem jl
      rw [back_in nd hj e5 e2] at q
      cases q
      exact .inl ⟨j, _, p, d, v, hj, e5, e2, rfl, e4, e3⟩
    · rw [back_out hi] at q
      exact .inr ⟨hi, q⟩
  have nocall : ∀ (i : Nat) (p : Bool) (d : D) (a : Addr), i ∉ slotsOf l → ρ[i]? = some (some ⟨true, p, d⟩) → σ[i]? = some (some (.ref a)) → ¬ Own (vv vs) (ww ws) a := fun i p d a hi e1 e2 o => by
    obtain ⟨k, p', d', j, l1, e3, e4⟩ := pass_own h e o
    have := R.inj i k p p' d d' a e1 e3 e2 e4
    subst this
    exact hi (slots_mem.mpr ⟨j, l1⟩)
  refine ⟨⟨X.rep.le, fun i w q => ?_, fun i k p q d1 d2 a h1 h2 h3 h4 => ?_, by rw [back_len]; exact R.len⟩, X.sub, fun a o q n => X.frame a o q fun z => n (own2 z), X.live, fun a o q => ?_, fun i p d a h1 h2 => ?_, fun i w q => ?_, fun i w q p => ⟨rfl, ?_⟩, back_len⟩
  · rcases slot i w q with ⟨j, u, p, d, v, l1, e1, e2, rfl, e3, e4⟩ | ⟨hi, e1⟩
    · obtain ⟨v2, e5, h5⟩ := X.rep.at_ j u (ww_get.mpr e1)
      rw [vv_get.mp e5] at e4; cases e4
      exact ⟨v, e3, by unfold HW at h5 ⊢; exact h5⟩
    · obtain ⟨v, e2, h2⟩ := R.at_ i w e1
      refine ⟨v, e2, h2.ex X.sub fun a ea ho => ?_⟩
      have e1' : ρ[i]? = some (some ⟨true, w.pin, w.d⟩) := by rw [← w_eta ho]; exact e1
      have no := nocall i w.pin w.d a hi e1' (by rw [e2, ea])
      obtain ⟨fa, ob, eo⟩ := R.own_there (a := a) ⟨i, w.pin, w.d, e1', by rw [e2, ea]⟩
      refine ⟨?_, (X.frame a ob eo no).trans eo.symm⟩
      cases q : F' a with
      | none => rfl
      | some z =>
        rcases X.newF a z q with ⟨u, e'⟩ | e' | e'
        · rw [fa] at e'; cases e'
        · rw [eo] at e'; cases e'
        · exact absurd e' no
  · have old : ∀ (i : Nat) (p : Bool) (d : D), (back ρ l ws')[i]? = some (some ⟨true, p, d⟩) → ∃ p d, ρ[i]? = some (some ⟨true, p, d⟩) := fun i p d q => by
      rcases slot i _ q with ⟨j, u, p, d, v, l1, e1, e2, e0, e3, e4⟩ | ⟨hi, e1⟩
      · exact ⟨p, d, e2⟩
      · exact ⟨_, _, e1⟩
    obtain ⟨p', d1', g1⟩ := old i p d1 h1
    obtain ⟨q', d2', g2⟩ := old k q d2 h2
    exact R.inj i k p' q' d1' d2' a g1 g2 h3 h4
  · rcases X.newF a o q with z | z | z
    · exact .inl z
    · exact .inr (.inl z)
    · exact .inr (.inr (own2 z))
  · obtain ⟨d', q⟩ := back_own e nd (by have := X.len; simpa [ww] using this) h1
    exact .inl ⟨d', q, h2⟩
  · by_cases hi : i ∈ slotsOf l
    · obtain ⟨j, hj⟩ := slots_mem.mp hi
      obtain ⟨p, d, e1, e2⟩ := ws_of_slot e hj
      have jl : j < ws'.length := by
        have := X.len
        simp [ww] at this
        rw [this]
        exact (List.getElem?_eq_some_iff.mp e1).1
      exact ⟨_, back_in nd hj (List.getElem?_eq_getElem jl) q⟩
    · exact ⟨w, by rw [back_out hi]; exact q⟩
  · by_cases hi : i ∈ slotsOf l
    · obtain ⟨j, hj⟩ := slots_mem.mp hi
      obtain ⟨p', d, e1, e2⟩ := ws_of_slot e hj
      have jl : j < ws'.length := by
        have := X.len
        simp [ww] at this
        rw [this]
        exact (List.getElem?_eq_some_iff.mp e1).1
      exact ⟨_, back_in nd hj (List.getElem?_eq_getElem jl) q, p⟩
    · exact ⟨w, by rw [back_out hi]; exact q, p⟩
end

/-! ### f(e, ..) -/
/-- f by name, its promise -/
structure Cal (P : Program) (w : World) (K : PySem.W.Frag) (mg : Str → Option Value) (base : Heap) (k : Nat) (x : Str) (st : Stmt) (ps : List Str) (g : MG) : Prop where
  ex : ∃ f fd, FnG P w K mg base k f fd ps (spM K ps.length g) ∧ mg x = some (.ref f) ∧ FunD K x x (defArgs st) (defBody st) (defScope st) [] [] f fd
  bp : ∀ (kV doc pm : Value) (an : Option Addr) (cdv ct : Value) (us : List Value), us.length = ps.length → bindArgs (PySem.W.fnOf x x (defArgs st) (defBody st) (defScope st) .none kV doc pm an cdv ct) ⟨us, []⟩ = pure (ps.zip us)
theorem FunD.bindsG {K : PySem.W.Frag} {x qual : Str} {params : Arguments} {body : List Stmt} {scope : Scope} {kws : List (Str × V)} {f : Addr} {fd : FuncData} (F : FunD K x qual params body scope [] kws f fd) {args : Args} {b : List (Str × Value)}
    (h : ∀ (kV doc pm : Value) (an : Option Addr) (cdv ct : Value), bindArgs (PySem.W.fnOf x qual params body scope .none kV doc pm an cdv ct) args = pure b) (s : Shared) : BindsTo s fd args b := by
  obtain ⟨oc, od, dV, kV, doc, pm, an, cd, ct, osl, rfl, lk, hcd, hD, _⟩ := F.ex
  rcases hD with ⟨_, rfl⟩ | ⟨e, _⟩
  · exact .of_eq (h kV doc pm an cd ct)
  · exact absurd rfl e
def mCall (g : MG) (bs : List Bool) (l : MA) : ME := fun ρ => match l ρ with
  | some (rs, ρ1) => match pass ρ1 bs rs with
    | some (q, ρ2) => if (slotsOf q).Nodup then match wsOf ρ2 q with
      | some ws => match g ws with
        | some (r, ws') => some (r.rv, back ρ2 q ws')
        | none => none
      | none => none
      else none
    | none => none
  | none => none
theorem call_use {K : PySem.W.Frag} {n : Nat} {g : MG} {bs : List Bool} {l : MA} {F H σ ρ z ρ'} {Q : VK} {E : XK} (R : Rep K F H σ ρ) (e : mCall g bs l ρ = some (z, ρ')) (hn : bs.length = n)
    (k : ∀ v F' H', Ex K F H σ ρ F' H' σ ρ' → HR K F' H' σ ρ' v z → Nw H v z → Q v H') : tMA K l σ H fun vs H1 => spM K n g vs H1 Q E := by
  unfold mCall at e
  split at e
  · rename_i rs ρ1 e1
    split at e
    · rename_i q ρ2 e2
      split at e
      · rename_i nd
        split at e
        · rename_i ws e3
          split at e
          · rename_i r ws' e4
            cases e
            refine ⟨F, ρ, _, _, R, e1, fun vs F1 H1 ex1 h1 nw1 => ?_⟩
            obtain ⟨F2, ex2, ha, _⟩ := pass_step ex1 h1 nw1 e2
            have ln : vs.length = n := by
              rw [ha_len ha, ← hn]
              exact (pass_len e2).symm
            refine ⟨ln, F2, ws, r, ws', (fun j w q ho => by
              obtain ⟨v, _, q2⟩ := ws_get ha e3 q
              rcases q2 with ⟨d, rfl, _⟩ | ⟨i, p, d, rfl, _⟩
              · cases ho
              · rfl), pass_rep ex2.rep ha e3 nd, e4, fun v F3 H3 X3 h3 nw3 => ?_⟩
            have ex3 := pass_back ex2.rep ha e3 nd X3
            have hN : Nw H v r.rv := nw3.back ex2
            refine k v F3 H3 (ex2.trans ex3) ?_ hN
            cases r with
            | sh d => exact h3
            | ow d =>
              obtain ⟨a, ea, n1, o, _⟩ := h3
              obtain ⟨b, eb, nb⟩ := nw3
              rw [ea] at eb; cases eb
              refine ⟨a, ea, n1, o, fun z => ?_⟩
              obtain ⟨i, p, d', q1, q2⟩ := z
              obtain ⟨d2, q3⟩ := back_own e3 nd (by have := X3.len; simpa [ww] using this) q1
              obtain ⟨_, ob, eo⟩ := ex2.rep.own_there ⟨i, p, d2, q3, q2⟩
              rw [nb] at eo; cases eo
          · cases e
        · cases e
      · cases e
    · cases e
  · cases e
end Mi
set_option Elab.async false
set_option linter.all false
set_option maxRecDepth 100000
set_option maxHeartbeats 1000000
set_option autoImplicit false
namespace Mi
open PySem PySem.Spec PyProof.Rows L2

section
variable {X : Cx} {k j : Nat} {x : Str} {st : Stmt} {ps : List Str} {g : MG} {bs : List Bool} {e : Expr} {es : List Expr} {l : MA} {p pos : Pos}
theorem ev_call (C : Cal X.prog X.w X.K X.mg X.base k x st ps g) (hr : Rm j X.A) (hk : k ≤ j) (hbs : bs.length = ps.length) (ha : AV X (e :: es) l) (hg : Gl X x := by rfl)
    (hdb : (x == ("__debug__" : Str)) = false := by decide) (he : starEach (e :: es) X.env = (false, eval e X.env) :: starEach es X.env := by rfl) (hpl : (backTo pos (starEach es X.env)).any (·.1) = false := by rfl) :
    EV X (.Call (.Name x p) (e :: es) [] pos) (mCall g bs l) := by
  obtain ⟨f, fd, F, hm, FD⟩ := C.ex
  refine ev_of (pe_callG F (hr.mono hk) hm FD.kp (fun s us hl => FunD.bindsG FD (fun kV doc pm an cdv ct => C.bp kV doc pm an cdv ct us hl) s) ha hg hdb he hpl) fun σ H Q F ρ r ρ' R e k => ?_
  exact call_use (E := E0) R e hbs k
/-- keywords too: is tells for each parameter which of what is written -/
abbrev KV' (X : Cx) (kws : List Keyword) (m : MA) : Prop := PK X kws (tMA X.K m)
theorem kv_of {kws : List Keyword} {ms : MA} {t : TA} (h : PK X kws t) (hi : ∀ σ H Q, tMA X.K ms σ H Q → t σ H Q) : KV' X kws ms := ⟨fun pos pins s σ H Q I hw => h.run pos pins s σ H Q I (hi σ H Q hw)⟩
theorem kv_nil : KV' X [] mNil := kv_of pk_nil fun σ H Q ⟨F, ρ, rs, ρ', R, e, k⟩ => by
  cases e
  exact k [] F H (Ex.refl R) trivial trivial
theorem cons_use {K : PySem.W.Frag} {m : ME} {l : MA} {σ : L2.St} {H : Hp} {Q : List V → Hp → Prop} (h : tMA K (mCons m l) σ H Q) : tCons (tM K m) (tMA K l) σ H Q := by
  obtain ⟨F, ρ, rs, ρ', R, e, k⟩ := h
  unfold mCons at e
  split at e
  · rename_i r1 ρ1 e1
    split at e
    · rename_i rs2 ρ2 e2
      cases e
      refine ⟨F, ρ, _, _, R, e1, fun v F1 H1 ex1 h1 nw1 => ⟨F1, ρ1, _, _, ex1.rep, e2, fun vs F2 H2 ex2 h2 nw2 => ?_⟩⟩
      refine k (v :: vs) F2 H2 (ex1.trans ex2) ⟨h1.ex ex2, h2, fun d ed j d' ej z => ?_⟩ ⟨nw1, nw2.back ex1⟩
      subst ed
      obtain ⟨a, ea, n, o, _⟩ := h1
      obtain ⟨ob, eo⟩ := o.there
      obtain ⟨b, e3, e4⟩ := nw2.ow j d' ej
      rw [z] at e3
      cases e3
      cases ea
      rw [eo] at e4; cases e4
    · cases e
  · cases e
theorem kv_cons {kws : List Keyword} {nm : Option Str} {kpos : Pos} {m : ME} (ha : EV X e m) (hr : KV' X kws l) : KV' X (⟨nm, e, kpos⟩ :: kws) (mCons m l) := kv_of (pk_cons ha hr) fun σ H Q h => cons_use h
end
section
variable {K : PySem.W.Frag} {F H : Hp} {σ : L2.St} {ρ : En}
theorem HRs.iff : ∀ {vs : List V} {rs : List Rv}, HRs K F H σ ρ vs rs ↔ vs.length = rs.length ∧ (∀ (i : Nat) (v : V) (r : Rv), vs[i]? = some v → rs[i]? = some r → HR K F H σ ρ v r) ∧
    (∀ (i j : Nat) (d d' : D) (v : V), i ≠ j → rs[i]? = some (Rv.ow d) → rs[j]? = some (Rv.ow d') → vs[i]? = some v → vs[j]? ≠ some v)
  | [], [] => ⟨fun _ => ⟨rfl, fun i v r e => by simp at e, fun i j d d' v _ e => by simp at e⟩, fun _ => trivial⟩
  | [], _ :: _ => ⟨fun h => h.elim, fun h => by simp at h⟩
  | _ :: _, [] => ⟨fun h => h.elim, fun h => by simp at h⟩
  | v :: vs, r :: rs => by
    constructor
    · rintro ⟨h1, h2, h3⟩
      obtain ⟨g1, g2, g3⟩ := HRs.iff.mp h2
      refine ⟨by simp [g1], fun i v' r' e1 e2 => ?_, fun i j d d' v' n e1 e2 e3 e4 => ?_⟩
      · cases i with
        | zero => simp at e1 e2; subst e1; subst e2; exact h1
        | succ i => exact g2 i v' r' (by simpa using e1) (by simpa using e2)
      · cases i with
        | zero =>
          cases j with
          | zero => exact n rfl
          | succ j =>
            simp at e1 e3
            subst e3
            exact h3 d e1 j d' (by simpa using e2) (by simpa using e4)
        | succ i =>
          cases j with
          | zero =>
            simp at e2 e4
            subst e4
            exact h3 d' e2 i d (by simpa using e1) (by simpa using e3)
          | succ j => exact g3 i j d d' v' (fun z => n (by rw [z])) (by simpa using e1) (by simpa using e2) (by simpa using e3) (by simpa using e4)
    · rintro ⟨g1, g2, g3⟩
      refine ⟨g2 0 v r rfl rfl, HRs.iff.mpr ⟨by simpa using g1, fun i v' r' e1 e2 => g2 (i + 1) v' r' (by simpa using e1) (by simpa using e2), fun i j d d' v' n e1 e2 e3 => by simpa using g3 (i + 1) (j + 1) d d' v' (by omega) (by simpa using e1) (by simpa using e2) (by simpa using e3)⟩, fun d e j d' e2 => ?_⟩
      simpa using g3 0 (j + 1) d d' v (by omega) (by rw [e]; rfl) (by simpa using e2) rfl
theorem Nws.iff : ∀ {vs : List V} {rs : List Rv}, Nws H vs rs ↔ vs.length = rs.length ∧ ∀ (i : Nat) (v : V) (r : Rv), vs[i]? = some v → rs[i]? = some r → Nw H v r
  | [], [] => ⟨fun _ => ⟨rfl, fun i v r e => by simp at e⟩, fun _ => trivial⟩
  | [], _ :: _ => ⟨fun h => h.elim, fun h => by simp at h⟩
  | _ :: _, [] => ⟨fun h => h.elim, fun h => by simp at h⟩
  | v :: vs, r :: rs => by
    constructor
    · rintro ⟨h1, h2⟩
      obtain ⟨g1, g2⟩ := Nws.iff.mp h2
      refine ⟨by simp [g1], fun i v' r' e1 e2 => ?_⟩
      cases i with
      | zero => simp at e1 e2; subst e1; subst e2; exact h1
      | succ i => exact g2 i v' r' (by simpa using e1) (by simpa using e2)
    · rintro ⟨g1, g2⟩
      exact ⟨g2 0 v r rfl rfl, Nws.iff.mpr ⟨by simpa using g1, fun i v' r' e1 e2 => g2 (i + 1) v' r' (by simpa using e1) (by simpa using e2)⟩⟩
theorem pk_get {α : Type} {l : List α} : ∀ {is : List Nat}, (∀ i ∈ is, i < l.length) → ∀ (j : Nat), (pk is l)[j]? = (is[j]?).bind fun i => l[i]?
  | [], _, j => by simp [pk]
  | i :: is, h, j => by
    have hi : l[i]? = some (l[i]'(h i List.mem_cons_self)) := List.getElem?_eq_getElem _
    have ih := pk_get (is := is) fun k hk => h k (List.mem_cons_of_mem _ hk)
    cases j with
    | zero => simp [pk, hi]
    | succ j =>
      have := ih j
      simpa [pk, hi] using this
theorem pk_len {α : Type} {l : List α} : ∀ {is : List Nat}, (∀ i ∈ is, i < l.length) → (pk is l).length = is.length
  | [], _ => by simp [pk]
  | i :: is, h => by
    have hi : l[i]? = some (l[i]'(h i List.mem_cons_self)) := List.getElem?_eq_getElem _
    have ih := pk_len (is := is) fun k hk => h k (List.mem_cons_of_mem _ hk)
    simpa [pk, hi] using ih
theorem HRs.pk {is : List Nat} {vs : List V} {rs : List Rv} (h : HRs K F H σ ρ vs rs) (hb : ∀ i ∈ is, i < rs.length) (nd : is.Nodup) : HRs K F H σ ρ (Mi.pk is vs) (Mi.pk is rs) := by
  obtain ⟨g1, g2, g3⟩ := HRs.iff.mp h
  have hb' : ∀ i ∈ is, i < vs.length := fun i hi => by rw [g1]; exact hb i hi
  refine HRs.iff.mpr ⟨by rw [pk_len hb, pk_len hb'], fun j v r e1 e2 => ?_, fun i j d d' v n e1 e2 e3 e4 => ?_⟩
  · rw [pk_get hb'] at e1
    rw [pk_get hb] at e2
    cases q : is[j]? with
    | none => rw [q] at e1; cases e1
    | some i =>
      rw [q] at e1 e2
      exact g2 i v r e1 e2
  · rw [pk_get hb] at e1 e2
    rw [pk_get hb'] at e3 e4
    cases q1 : is[i]? with
    | none => rw [q1] at e1; cases e1
    | some a =>
      cases q2 : is[j]? with
      | none => rw [q2] at e2; cases e2
      | some b =>
        rw [q1] at e1 e3
        rw [q2] at e2 e4
        refine g3 a b d d' v (fun z => n ?_) e1 e2 e3 e4
        subst z
        obtain ⟨l1, x1⟩ := List.getElem?_eq_some_iff.mp q1
        obtain ⟨l2, x2⟩ := List.getElem?_eq_some_iff.mp q2
        exact (List.getElem_inj nd).mp (x1.trans x2.symm)
theorem Nws.pk {is : List Nat} {vs : List V} {rs : List Rv} (h : Nws H vs rs) (hb : ∀ i ∈ is, i < rs.length) : Nws H (Mi.pk is vs) (Mi.pk is rs) := by
  obtain ⟨g1, g2⟩ := Nws.iff.mp h
  have hb' : ∀ i ∈ is, i < vs.length := fun i hi => by rw [g1]; exact hb i hi
  refine Nws.iff.mpr ⟨by rw [pk_len hb, pk_len hb'], fun j v r e1 e2 => ?_⟩
  rw [pk_get hb'] at e1
  rw [pk_get hb] at e2
  cases q : is[j]? with
  | none => rw [q] at e1; cases e1
  | some i =>
    rw [q] at e1 e2
    exact g2 i v r e1 e2
end
/-- the written ones, put in the parameters' order -/
def mApp (l k : MA) : MA := fun ρ => match l ρ with
  | some (rs, ρ1) => match k ρ1 with
    | some (qs, ρ2) => some (rs ++ qs, ρ2)
    | none => none
  | none => none
def mPk (n m : Nat) (is : List Nat) (l k : MA) : MA := fun ρ => match l ρ with
  | some (rs, ρ1) => match k ρ1 with
    | some (qs, ρ2) => if rs.length = n ∧ qs.length = m then some (pk is (rs ++ qs), ρ2) else none
    | none => none
  | none => none
theorem HRs.append {K : PySem.W.Frag} {F H F1 H1 : Hp} {σ : L2.St} {ρ ρ1 : En} (X : Ex K F H σ ρ F1 H1 σ ρ1) {vs us : List V} {rs qs : List Rv} (h : HRs K F H σ ρ vs rs) (h2 : HRs K F1 H1 σ ρ1 us qs) (nw : Nws H us qs) : HRs K F1 H1 σ ρ1 (vs ++ us) (rs ++ qs) := by
  match vs, rs, h with
  | [], [], _ => exact h2
  | v :: vs, r :: rs, h =>
    refine ⟨h.1.ex X, HRs.append X h.2.1 h2 nw, fun d e j d' ej z => ?_⟩
    have hl := (HRs.iff.mp h.2.1).1
    have ej : (rs ++ qs)[j]? = some (Rv.ow d') := ej
    have z : (vs ++ us)[j]? = some v := z
    by_cases hj : j < rs.length
    · rw [List.getElem?_append_left hj] at ej
      rw [List.getElem?_append_left (by rw [hl]; exact hj)] at z
      exact h.2.2 d e j d' ej z
    · rw [List.getElem?_append_right (by omega)] at ej
      rw [List.getElem?_append_right (by omega), hl] at z
      obtain ⟨a, e1, e2⟩ := nw.ow _ d' ej
      rw [z] at e1
      cases e1
      have h1 := h.1
      rw [e] at h1
      obtain ⟨b, eb, _, o, _⟩ := h1
      obtain ⟨ob, eo⟩ := o.there
      cases eb
      rw [eo] at e2; cases e2
theorem Nws.append {H H1 : Hp} {vs us : List V} {rs qs : List Rv} (h : Nws H vs rs) (h2 : Nws H us qs) : Nws H (vs ++ us) (rs ++ qs) := by
  match vs, rs, h with
  | [], [], _ => exact h2
  | v :: vs, r :: rs, h => exact ⟨h.1, Nws.append (H1 := H1) h.2 h2⟩
section
variable {X : Cx} {k j n : Nat} {x : Str} {st : Stmt} {ps ks : List Str} {is : List Nat} {g : MG} {bs : List Bool} {e : Expr} {es : List Expr} {kws : List Keyword} {l lk : MA} {p pos : Pos}
theorem pk_use {K : PySem.W.Frag} {m : Nat} {σ : L2.St} {H : Hp} {Q : List V → Hp → Prop} (hb : ∀ i ∈ is, i < n + m) (nd : is.Nodup) (h : tMA K (mPk n m is l lk) σ H Q) : tMA K l σ H fun vs H1 => tMA K lk σ H1 fun zs H2 => vs.length = n ∧ zs.length = m ∧ Q (pk is (vs ++ zs)) H2 := by
  obtain ⟨F, ρ, rs, ρ', R, e, k⟩ := h
  unfold mPk at e
  split at e
  · rename_i rs1 ρ1 e1
    split at e
    · rename_i rs2 ρ2 e2
      split at e
      · rename_i hl
        cases e
        refine ⟨F, ρ, _, _, R, e1, fun vs F1 H1 X1 h1 nw1 => ⟨F1, ρ1, _, _, X1.rep, e2, fun zs F2 H2 X2 h2 nw2 => ?_⟩⟩
        have hb' : ∀ i ∈ is, i < (rs1 ++ rs2).length := fun i hi => by rw [List.length_append, hl.1, hl.2]; exact hb i hi
        refine ⟨(HRs.iff.mp h1).1.trans hl.1, (HRs.iff.mp h2).1.trans hl.2, k _ F2 H2 (X1.trans X2) ((HRs.append X2 h1 h2 nw2).pk hb' nd) ((Nws.append (H1 := H) nw1 (nw2.back X1)).pk hb')⟩
      · cases e
    · cases e
  · cases e
theorem ev_callK (C : Cal X.prog X.w X.K X.mg X.base k x st ps g) (hr : Rm j X.A) (hk : k ≤ j) (hbs : bs.length = ps.length) (ha : AV X (e :: es) l) (hkw : KV' X kws lk)
    (hbd : ∀ (kV doc pm : Value) (an : Option Addr) (cdv ct : Value) (us ws : List Value), us.length = n → ws.length = ks.length → bindArgs (PySem.W.fnOf x x (defArgs st) (defBody st) (defScope st) .none kV doc pm an cdv ct) ⟨us, ks.zip ws⟩ = pure (ps.zip (pk is (us ++ ws))))
    (hb : ∀ i ∈ is, i < n + ks.length) (nd : is.Nodup) (hg : Gl X x := by rfl) (hdb : (x == ("__debug__" : Str)) = false := by decide)
    (hall : (backToKw pos (keywordEach kws X.env)).all (·.1.isSome) = true := by rfl) (hks : (backToKw pos (keywordEach kws X.env)).filterMap (·.1) = ks := by rfl) (he : starEach (e :: es) X.env = (false, eval e X.env) :: starEach es X.env := by rfl)
    (hpl : ((backTo pos (starEach (e :: es) X.env)).any (·.1) || (backToKw pos (keywordEach kws X.env)).any (·.1.isNone)) = false := by rfl) : EV X (.Call (.Name x p) (e :: es) kws pos) (mCall g bs (mPk n ks.length is l lk)) := by
  obtain ⟨f, fd, F, hm, FD⟩ := C.ex
  refine ev_of (pe_callKG F (hr.mono hk) hm FD.kp (fun s us ws l1 l2 => FunD.bindsG FD (fun kV doc pm an cdv ct => hbd kV doc pm an cdv ct us ws l1 l2) s) ha hkw hg hdb hall hks he hpl) fun σ H Q F ρ r ρ' R e k => ?_
  exact pk_use hb nd (call_use (E := E0) R e hbs k)
theorem ev_callK0 (C : Cal X.prog X.w X.K X.mg X.base k x st ps g) (hr : Rm j X.A) (hk : k ≤ j) (hbs : bs.length = ps.length) (hkw : KV' X kws lk)
    (hbd : ∀ (kV doc pm : Value) (an : Option Addr) (cdv ct : Value) (ws : List Value), ws.length = ks.length → bindArgs (PySem.W.fnOf x x (defArgs st) (defBody st) (defScope st) .none kV doc pm an cdv ct) ⟨[], ks.zip ws⟩ = pure (ps.zip (pk is ws)))
    (hb : ∀ i ∈ is, i < 0 + ks.length) (nd : is.Nodup) (hg : Gl X x := by rfl) (hdb : (x == ("__debug__" : Str)) = false := by decide)
    (hall : (backToKw pos (keywordEach kws X.env)).all (·.1.isSome) = true := by rfl) (hks : (backToKw pos (keywordEach kws X.env)).filterMap (·.1) = ks := by rfl)
    (hpl : ((backTo pos (starEach [] X.env)).any (·.1) || (backToKw pos (keywordEach kws X.env)).any (·.1.isNone)) = false := by rfl) : EV X (.Call (.Name x p) [] kws pos) (mCall g bs (mPk 0 ks.length is mNil lk)) := by
  obtain ⟨f, fd, F, hm, FD⟩ := C.ex
  refine ev_of (pe_callKG0 F (hr.mono hk) hm FD.kp (fun s ws l2 => FunD.bindsG FD (fun kV doc pm an cdv ct => hbd kV doc pm an cdv ct ws l2) s) hkw hg hdb hall hks hpl) fun σ H Q F ρ r ρ' R e k => ?_
  obtain ⟨F1, ρ1, rs1, ρ1', R1, e1, k1⟩ := pk_use hb nd (call_use (E := E0) R e hbs k)
  cases e1
  exact k1 [] F1 H (Ex.refl R1) trivial trivial
end

/-! ### a def's body -/
def wsB : List W → En → List W
  | w :: ws, some u :: ρ => (if w.own = true then u else w) :: wsB ws ρ
  | w :: ws, none :: ρ => w :: wsB ws ρ
  | ws, _ => ws
theorem wsB_len : ∀ {ws : List W} {ρ : En}, (wsB ws ρ).length = ws.length
  | [], ρ => by simp [wsB]
  | w :: ws, [] => by simp [wsB]
  | w :: ws, some u :: ρ => by simp [wsB, wsB_len (ws := ws)]
  | w :: ws, none :: ρ => by simp [wsB, wsB_len (ws := ws)]
theorem wsB_get : ∀ {ws : List W} {ρ : En} {j : Nat} {w z : W}, ws[j]? = some w → (wsB ws ρ)[j]? = some z → (z = w ∧ (w.own = false ∨ ∀ u : W, ρ[j]? ≠ some (some u))) ∨ (w.own = true ∧ ρ[j]? = some (some z))
  | [], ρ, j, w, z, e, q => by simp at e
  | w' :: ws, [], j, w, z, e, q => by
    simp only [wsB] at q
    rw [e] at q; cases q
    exact .inl ⟨rfl, .inr fun u => by simp⟩
  | w' :: ws, some u :: ρ, 0, w, z, e, q => by
    simp [wsB] at e q
    subst e; subst q
    by_cases h : w'.own = true
    · rw [if_pos h]; exact .inr ⟨h, rfl⟩
    · rw [if_neg h]; exact .inl ⟨rfl, .inl (by simpa using h)⟩
  | w' :: ws, none :: ρ, 0, w, z, e, q => by
    simp [wsB] at e q
    subst e; subst q
    exact .inl ⟨rfl, .inr fun u => by simp⟩
  | w' :: ws, some u :: ρ, j + 1, w, z, e, q => by
    simp only [wsB] at q
    simpa using wsB_get (ws := ws) (ρ := ρ) (j := j) (w := w) (z := z) (by simpa using e) (by simpa using q)
  | w' :: ws, none :: ρ, j + 1, w, z, e, q => by
    simp only [wsB] at q
    simpa using wsB_get (ws := ws) (ρ := ρ) (j := j) (w := w) (z := z) (by simpa using e) (by simpa using q)
/-- what a def tells: its value, what it left in what it was handed -/
def fin (ws : List W) (ρ : En) : Rv → Option (Rs × List W)
  | .sh d => some (.sh d, wsB ws ρ)
  | .ow d => some (.ow d, wsB ws ρ)
  | .at i => match ρ[i]? with
    | some (some w) => if w.own = true then (if ws.length ≤ i then some (.ow w.d, wsB ws ρ) else none) else some (.sh w.d, wsB ws ρ)
    | _ => none
def gOf (N : Nat) (m : MS) : MG := fun ws => match m (ww ws ++ List.replicate (N - ws.length) none) with
  | some (.rt r, ρ) => fin ws ρ r
  | some (.nx, ρ) => some (.sh .non, wsB ws ρ)
  | _ => none
theorem app_some {α : Type} {l : List α} {n : Nat} {i : Nat} {x : α} (h : (l.map some ++ List.replicate n none)[i]? = some (some x)) : (l.map some)[i]? = some (some x) := by
  by_cases hi : i < l.length
  · rw [List.getElem?_append_left (by simpa using hi)] at h; exact h
  · rw [List.getElem?_append_right (by simpa using hi)] at h
    rw [List.getElem?_replicate] at h
    split at h <;> cases h
theorem some_app {α : Type} {l : List α} {n : Nat} {i : Nat} {x : α} (h : (l.map some)[i]? = some (some x)) : (l.map some ++ List.replicate n none)[i]? = some (some x) := by
  have hi : i < (l.map some).length := (List.getElem?_eq_some_iff.mp h).1
  rw [List.getElem?_append_left hi]; exact h
section
variable {K : PySem.W.Frag} {F H F' H' : Hp} {vs : List V} {ws : List W} {N : List Str} {σ' : L2.St} {ρ' : En}
theorem start_rep (R : Rep K F H (vv vs) (ww ws)) : Rep K F H (start N vs) (ww ws ++ List.replicate (N.length - ws.length) none) := by
  have hl : vs.length = ws.length := by have := R.len; simpa [vv, ww] using this
  refine ⟨R.le, fun i w e => ?_, fun i j p q d e a h1 h2 h3 h4 => ?_, ?_⟩
  · obtain ⟨v, e1, h⟩ := R.at_ i w (app_some e)
    exact ⟨v, some_app e1, h⟩
  · exact R.inj i j p q d e a (app_some h1) (app_some h2) (app_some h3) (app_some h4)
  · simp [L2.start, ww, hl]
theorem start_own {a : Addr} : Own (start N vs) (ww ws ++ List.replicate (N.length - ws.length) none) a ↔ Own (vv vs) (ww ws) a :=
  ⟨fun ⟨i, p, d, h1, h2⟩ => ⟨i, p, d, app_some h1, app_some h2⟩, fun ⟨i, p, d, h1, h2⟩ => ⟨i, p, d, some_app h1, some_app h2⟩⟩
theorem end_ex (R : Rep K F H (vv vs) (ww ws)) (hp : Pins ws) (X : Ex K F H (start N vs) (ww ws ++ List.replicate (N.length - ws.length) none) F' H' σ' ρ') :
    Ex K F H (vv vs) (ww ws) F' H' (vv vs) (ww (wsB ws ρ')) ∧ ∀ (j : Nat) (w : W), ws[j]? = some w → w.own = true → σ'[j]? = (vv vs)[j]? ∧ ∃ u, ρ'[j]? = some (some u) ∧ (wsB ws ρ')[j]? = some u := by
  have hl : vs.length = ws.length := by have := R.len; simpa [vv, ww] using this
  have own1 : ∀ (j : Nat) (w : W), ws[j]? = some w → w.own = true → σ'[j]? = (vv vs)[j]? ∧ ∃ u, ρ'[j]? = some (some u) ∧ (wsB ws ρ')[j]? = some u := fun j w e ho => by
    obtain ⟨q1, u, q2, _⟩ := X.pin j w (some_app (ww_get.mpr e)) (hp j w e ho)
    have jl : j < ws.length := (List.getElem?_eq_some_iff.mp e).1
    obtain ⟨y, q3⟩ : ∃ y, (wsB ws ρ')[j]? = some y := ⟨_, List.getElem?_eq_getElem (by rw [wsB_len]; exact jl)⟩
    refine ⟨?_, u, q2, ?_⟩
    · rw [q1]
      unfold L2.start vv
      rw [List.getElem?_append_left (by simpa [hl] using jl)]
    · rcases wsB_get e q3 with ⟨_, z | z⟩ | ⟨_, z⟩
      · rw [ho] at z; cases z
      · exact absurd q2 (z u)
      · rw [q3, ← Option.some.inj (Option.some.inj (q2.symm.trans z))]
  -- a place behind it
  have slot : ∀ (j : Nat) (z : W), (wsB ws ρ')[j]? = some z → ∃ w, ws[j]? = some w ∧ ((w.own = false ∧ z = w) ∨ (w.own = true ∧ ρ'[j]? = some (some z) ∧ σ'[j]? = (vv vs)[j]?)) := fun j z q => by
    have jl : j < ws.length := by rw [← wsB_len (ws := ws) (ρ := ρ')]; exact (List.getElem?_eq_some_iff.mp q).1
    refine ⟨ws[j], List.getElem?_eq_getElem jl, ?_⟩
    by_cases ho : ws[j].own = true
    · obtain ⟨q1, u, q2, q3⟩ := own1 j _ (List.getElem?_eq_getElem jl) ho
      rw [q] at q3; cases q3
      exact .inr ⟨ho, q2, q1⟩
    · rcases wsB_get (List.getElem?_eq_getElem jl) q with ⟨e, _⟩ | ⟨z, _⟩
      · exact .inl ⟨by simpa using ho, e⟩
      · exact absurd z ho
  refine ⟨⟨⟨X.rep.le, fun j z q => ?_, fun i j p q d e a h1 h2 h3 h4 => ?_, by simp [vv, ww, wsB_len, hl]⟩, X.sub, fun a o q n => X.frame a o q fun z => n (start_own.mp z), X.live, fun a o q => ?_, fun j p d a h1 h2 => ?_, fun j w q => ?_, fun j w q p => ⟨rfl, ?_⟩, by simp [ww, wsB_len]⟩, own1⟩
  · obtain ⟨w, e, h⟩ := slot j z (ww_get.mp q)
    rcases h with ⟨ho, rfl⟩ | ⟨ho, e2, e3⟩
    · obtain ⟨v, e1, h1⟩ := R.at_ j z (ww_get.mpr e)
      exact ⟨v, e1, h1.ex X.sub fun a _ z => by rw [ho] at z; cases z⟩
    · obtain ⟨v, e1, h1⟩ := X.rep.at_ j z e2
      exact ⟨v, by rw [← e3]; exact e1, h1⟩
  · have go : ∀ (i : Nat) (p : Bool) (d : D), (ww (wsB ws ρ'))[i]? = some (some ⟨true, p, d⟩) → ρ'[i]? = some (some ⟨true, p, d⟩) ∧ σ'[i]? = (vv vs)[i]? := fun i p d q => by
      obtain ⟨w, e, h⟩ := slot i _ (ww_get.mp q)
      rcases h with ⟨ho, rfl⟩ | ⟨ho, e2, e3⟩
      · cases ho
      · exact ⟨e2, e3⟩
    obtain ⟨g1, g2⟩ := go i p d h1
    obtain ⟨g3, g4⟩ := go j q e h2
    exact X.rep.inj i j p q d e a g1 g3 (by rw [g2]; exact h3) (by rw [g4]; exact h4)
  · rcases X.newF a o q with z | z | z
    · exact .inl z
    · exact .inr (.inl z)
    · exact .inr (.inr (start_own.mp z))
  · obtain ⟨w, e, h⟩ := slot j _ (ww_get.mp h1)
    rcases h with ⟨ho, rfl⟩ | ⟨ho, e2, e3⟩
    · cases ho
    · rcases X.own j p d a e2 (by rw [e3]; exact h2) with ⟨d', q1, q2⟩ | q
      · exact .inl ⟨d', app_some q1, h2⟩
      · exact .inr q
  · have jl : j < ws.length := (List.getElem?_eq_some_iff.mp (ww_get.mp q)).1
    exact ⟨_, ww_get.mpr (List.getElem?_eq_getElem (by rw [wsB_len]; exact jl))⟩
  · have e := ww_get.mp q
    have jl : j < ws.length := (List.getElem?_eq_some_iff.mp e).1
    obtain ⟨y, q3⟩ : ∃ y, (wsB ws ρ')[j]? = some y := ⟨_, List.getElem?_eq_getElem (by rw [wsB_len]; exact jl)⟩
    refine ⟨_, ww_get.mpr q3, ?_⟩
    obtain ⟨w', e', h⟩ := slot j _ q3
    rw [e] at e'; cases e'
    rcases h with ⟨ho, e2⟩ | ⟨ho, e2, e3⟩
    · rw [e2]; exact p
    · obtain ⟨_, u, q4, pu⟩ := X.pin j w (some_app (ww_get.mpr e)) p
      rw [e2] at q4; cases q4
      exact pu
end

/-- the promise of a body -/
theorem body_ok {K : PySem.W.Frag} {N : List Str} {m : MS} {n : Nat} {vs : List V} {H : Hp} {Q : VK} {E : XK} (h : spM K n (gOf N.length m) vs H Q E) : tMS K m { nx := fun _ H' => Q .non H', rt := Q } (L2.start N vs) H := by
  obtain ⟨_, F, ws, r, ws', hp, R, e, k⟩ := h
  unfold gOf at e
  split at e
  · rename_i rv ρ' e1
    refine ⟨F, _, _, _, start_rep R, e1, fun σ' F' H' X v h1 nw => ?_⟩
    obtain ⟨X2, own1⟩ := end_ex R hp X
    cases rv with
    | sh d => cases e; exact k v F' H' X2 h1 trivial
    | ow d =>
      cases e
      refine k v F' H' X2 ?_ nw
      obtain ⟨a, ea, n, o, no⟩ := h1
      obtain ⟨b, eb, nb⟩ := nw
      rw [ea] at eb; cases eb
      refine ⟨a, ea, n, o, fun z => ?_⟩
      rcases X2.ownd z with z | z
      · obtain ⟨_, ob, eo⟩ := R.own_there z
        rw [nb] at eo; cases eo
      · obtain ⟨j, p, d', q1, q2⟩ := ‹Own (vv vs) (ww (wsB ws ρ')) a›
        have jl : j < ws.length := by rw [← wsB_len (ws := ws) (ρ := ρ')]; exact (List.getElem?_eq_some_iff.mp (ww_get.mp q1)).1
        by_cases ho : ws[j].own = true
        · obtain ⟨g1, u, g2, g3⟩ := own1 j _ (List.getElem?_eq_getElem jl) ho
          rw [ww_get.mp q1] at g3; cases g3
          exact no ⟨j, p, d', g2, by rw [g1]; exact q2⟩
        · rcases wsB_get (List.getElem?_eq_getElem jl) (ww_get.mp q1) with ⟨e', _⟩ | ⟨z', _⟩
          · rw [← e'] at ho; exact ho rfl
          · exact ho z'
    | «at» i =>
      obtain ⟨g1, w, g2⟩ := h1
      simp only [fin, g2] at e
      obtain ⟨v', g3, hw⟩ := X.rep.at_ i w g2
      rw [g1] at g3; cases g3
      unfold HW at hw
      split at e
      · rename_i ho
        rw [if_pos ho] at hw
        split at e
        · rename_i hi
          cases e
          obtain ⟨a, ea, n, o⟩ := hw
          have g2' : ρ'[i]? = some (some ⟨true, w.pin, w.d⟩) := by rw [← w_eta ho]; exact g2
          have hN : H a = none := by
            rcases X.own i w.pin w.d a g2' (by rw [g1, ea]) with ⟨d', q1, _⟩ | q
            · have := (List.getElem?_eq_some_iff.mp (app_some q1)).1
              simp [ww] at this
              omega
            · exact q
          refine k v F' H' X2 ⟨a, ea, n, o, fun z => ?_⟩ ⟨a, ea, hN⟩
          obtain ⟨j, p, d', q1, q2⟩ := z
          have jl : j < ws.length := by rw [← wsB_len (ws := ws) (ρ := ρ')]; exact (List.getElem?_eq_some_iff.mp (ww_get.mp q1)).1
          by_cases ho' : ws[j].own = true
          · obtain ⟨k1, u, k2, k3⟩ := own1 j _ (List.getElem?_eq_getElem jl) ho'
            rw [ww_get.mp q1] at k3; cases k3
            have := X.rep.inj i j w.pin p w.d d' a g2' k2 (by rw [g1, ea]) (by rw [k1]; exact q2)
            omega
          · rcases wsB_get (List.getElem?_eq_getElem jl) (ww_get.mp q1) with ⟨e', _⟩ | ⟨z', _⟩
            · rw [← e'] at ho'; exact ho' rfl
            · exact ho' z'
        · cases e
      · rename_i ho
        rw [if_neg ho] at hw
        cases e
        exact k v F' H' X2 hw trivial
  · rename_i ρ' e1
    cases e
    refine ⟨F, _, _, _, start_rep R, e1, fun σ' F' H' X => ?_⟩
    exact k _ F' H' (end_ex R hp X).1 .non trivial
  · cases e
/-- where a def stands -/
structure Dfn (K : PySem.W.Frag) (mg : Str → Option Value) (x : Str) (st : Stmt) : Prop where
  ex : ∃ f fd, FunD K x x (defArgs st) (defBody st) (defScope st) [] [] f fd ∧ mg x = some (.ref f)
theorem cal_of {P : Program} {w : World} {K : PySem.W.Frag} {mg : Str → Option Value} {base : Heap} {k : Nat} {x : Str} {st : Stmt} {N ps : List Str} {m : MS} (Df : Dfn K mg x st) (S : FnScope N ps (defScope st))
    (hbind : ∀ (kV doc pm : Value) (an : Option Addr) (cdv ct : Value) (us : List Value), us.length = ps.length → bindArgs (PySem.W.fnOf x x (defArgs st) (defBody st) (defScope st) .none kV doc pm an cdv ct) ⟨us, []⟩ = pure (ps.zip us))
    (hb : ∀ (f : Addr) (cdv : Value) (A : Around) (outer : List Env) (s : Shared) (H : Hp) (E : XK), Rm k (A.deeper (envOfC x (defScope st) s.heap.objs.size f cdv)) → SVs (cxOf CX0 P w K mg base N x (defScope st) f cdv A outer s H E).nox (defBody st) m) :
    Cal P w K mg base (k + 1) x st ps (gOf N.length m) := by
  obtain ⟨f, fd, F, hm⟩ := Df.ex
  refine ⟨⟨f, fd, ?_, hm, F⟩, hbind⟩
  exact FunD.okG F S (fun vs H Q E h => h.1) (fun cdv A outer s H vs Q E hr h => ⟨tMS K m, PSs.nox (hb f cdv A outer s H E hr), body_ok h⟩)
end Mi
set_option Elab.async false
set_option linter.all false
set_option maxRecDepth 100000
set_option maxHeartbeats 1000000
set_option autoImplicit false
namespace Mi
open PySem PySem.Spec PyProof.Rows L2

/-! ### blocks -/
def sNx : MS := fun ρ => some (.nx, ρ)
def sSeq (a b : MS) : MS := fun ρ => match a ρ with
  | some (.nx, ρ1) => b ρ1
  | some (o, ρ1) => some (o, ρ1)
  | none => none
def sDrop (m : ME) : MS := fun ρ => match m ρ with
  | some (_, ρ1) => some (.nx, ρ1)
  | none => none
def sRet (m : ME) : MS := fun ρ => match m ρ with
  | some (r, ρ1) => some (.rt r, ρ1)
  | none => none
def sRetN : MS := fun ρ => some (.rt (.sh .non), ρ)
def sBk : MS := fun ρ => some (.bk, ρ)
def sCt : MS := fun ρ => some (.ct, ρ)
def sIf (t : MT) (a b : MS) : MS := fun ρ => match t ρ with
  | some (true, ρ1) => a ρ1
  | some (false, ρ1) => b ρ1
  | none => none
section
variable {X : Cx} {st : Stmt} {sts : List Stmt} {a b : MS} {pos : Pos} {e : Expr} {m : ME}
theorem ss_nil : SVs X [] sNx := svs_of pss_nil fun D σ H ⟨F, ρ, o, ρ', R, e, k⟩ => by
  cases e
  exact k σ F H (Ex.refl R)
theorem seq_use {K : PySem.W.Frag} {D : Ends} {σ : L2.St} {H : Hp} (h : tMS K (sSeq a b) D σ H) : tSeq (tMS K a) (tMS K b) D σ H := by
  obtain ⟨F, ρ, o, ρ', R, e, k⟩ := h
  unfold sSeq at e
  split at e
  · rename_i ρ1 e1
    refine ⟨F, ρ, _, _, R, e1, fun σ1 F1 H1 X1 => ⟨F1, ρ1, o, ρ', X1.rep, e, fun σ2 F2 H2 X2 => ?_⟩⟩
    have := k σ2 F2 H2 (X1.trans X2)
    cases o with
    | nx => exact this
    | bk => exact this
    | ct => exact this
    | rt r => exact fun v h nw => this v h (nw.back X1)
  · rename_i hne e1
    cases e
    refine ⟨F, ρ, _, _, R, e1, fun σ1 F1 H1 X1 => ?_⟩
    have := k σ1 F1 H1 X1
    cases o with
    | nx => exact absurd rfl hne
    | bk => exact this
    | ct => exact this
    | rt r => exact this
  · cases e
theorem ss_cons (h1 : SV X st a) (h2 : SVs X sts b) : SVs X (st :: sts) (sSeq a b) := svs_of (pss_cons h1 h2) fun D σ H h => seq_use h
theorem ss_one (h1 : SV X st a) : SVs X [st] a := pss_one h1
theorem sv_pass : SV X (.Pass pos) sNx := sv_of ps_pass fun D σ H ⟨F, ρ, o, ρ', R, e, k⟩ => by
  cases e
  exact k σ F H (Ex.refl R)
theorem sv_break : SV X (.Break pos) sBk := sv_of ps_break fun D σ H ⟨F, ρ, o, ρ', R, e, k⟩ => by
  cases e
  exact k σ F H (Ex.refl R)
theorem sv_continue : SV X (.Continue pos) sCt := sv_of ps_continue fun D σ H ⟨F, ρ, o, ρ', R, e, k⟩ => by
  cases e
  exact k σ F H (Ex.refl R)
theorem sv_expr (he : EV X e m) (hs : swapsWith e none pos.line X.env = pure false := by rfl) : SV X (.Expr e pos) (sDrop m) := sv_of (ps_expr he hs) fun D σ H ⟨F, ρ, o, ρ', R, e, k⟩ => by
  unfold sDrop at e
  split at e
  · rename_i r ρ1 e1
    cases e
    exact ⟨F, ρ, _, _, R, e1, fun v F1 H1 X1 _ _ => k σ F1 H1 X1⟩
  · cases e
theorem sv_ret (he : EV X e m) : SV X (.Return (some e) pos) (sRet m) := sv_of (ps_ret he) fun D σ H ⟨F, ρ, o, ρ', R, e, k⟩ => by
  unfold sRet at e
  split at e
  · rename_i r ρ1 e1
    cases e
    exact ⟨F, ρ, _, _, R, e1, fun v F1 H1 X1 h nw => k σ F1 H1 X1 v h nw⟩
  · cases e
theorem sv_retN : SV X (.Return none pos) sRetN := sv_of ps_retN fun D σ H ⟨F, ρ, o, ρ', R, e, k⟩ => by
  cases e
  exact k σ F H (Ex.refl R) _ .non trivial
theorem out_trans {K : PySem.W.Frag} {F H F1 H1 : Hp} {σ σ1 : L2.St} {ρ ρ1 ρ' : En} {D : Ends} {o : Out} (X1 : Ex K F H σ ρ F1 H1 σ1 ρ1)
    (k : ∀ σ' F' H', Ex K F H σ ρ F' H' σ' ρ' → OutOk K H F' H' σ' ρ' D o) : ∀ σ' F' H', Ex K F1 H1 σ1 ρ1 F' H' σ' ρ' → OutOk K H1 F' H' σ' ρ' D o := fun σ2 F2 H2 X2 => by
  have := k σ2 F2 H2 (X1.trans X2)
  cases o with
  | nx => exact this
  | bk => exact this
  | ct => exact this
  | rt r => exact fun v h nw => this v h (nw.back X1)
theorem sv_if {c : Expr} {p q : List Stmt} {t : MT} (hc : TV X c t) (ha : SVs X p a) (hb : SVs X q b) : SV X (.If c p q pos) (sIf t a b) := sv_of (ps_if hc ha hb) fun D σ H ⟨F, ρ, o, ρ', R, e, k⟩ => by
  unfold sIf at e
  split at e
  · rename_i ρ1 e1
    exact ⟨F, ρ, _, _, R, e1, fun F1 H1 X1 => iteT ⟨F1, ρ1, o, ρ', X1.rep, e, out_trans X1 k⟩⟩
  · rename_i ρ1 e1
    exact ⟨F, ρ, _, _, R, e1, fun F1 H1 X1 => iteF ⟨F1, ρ1, o, ρ', X1.rep, e, out_trans X1 k⟩⟩
  · cases e
end

/-! ### names set -/
def setW (i : Nat) (w : W) (ρ : En) : Option En := match ρ[i]? with
  | some (some ⟨_, true, _⟩) => none
  | _ => some (ρ.set i (some w))
def bindR (ρ : En) : Rv → Option (W × En)
  | .sh d => some (⟨false, false, d⟩, ρ)
  | .ow d => some (⟨true, false, d⟩, ρ)
  | .at i => match shr ρ (.at i) with
    | some (d, ρ1) => some (⟨false, false, d⟩, ρ1)
    | none => none
def mSet (i : Nat) (m : ME) : MS := fun ρ => match m ρ with
  | some (r, ρ1) => match bindR ρ1 r with
    | some (w, ρ2) => match setW i w ρ2 with
      | some ρ3 => some (.nx, ρ3)
      | none => none
    | none => none
  | none => none
theorem setW_np {i : Nat} {w : W} {ρ ρ' : En} (h : setW i w ρ = some ρ') : ρ' = ρ.set i (some w) ∧ ∀ w : W, ρ[i]? = some (some w) → w.pin = false := by
  unfold setW at h
  split at h
  · cases h
  · rename_i hne
    cases h
    refine ⟨rfl, fun w e => ?_⟩
    cases q : w.pin with
    | false => rfl
    | true => exact absurd (by rw [e]; cases w; simp at q; rw [q]) (hne w.own w.d)
section
variable {K : PySem.W.Frag} {F H F0 H0 : Hp} {σ σ0 : L2.St} {ρ ρ0 ρ' : En} {v : V} {r : Rv} {w : W}
/-- what is bound -/
structure Bnd (K : PySem.W.Frag) (H0 F H : Hp) (σ : L2.St) (ρ : En) (v : V) (w : W) : Prop where
  np : w.pin = false
  hw : HW K F H v w
  ow : w.own = true → ∀ a, v = .ref a → ¬ Own σ ρ a ∧ H0 a = none
theorem bindR_step (X : Ex K F0 H0 σ ρ0 F H σ ρ) (h : HR K F H σ ρ v r) (nw : Nw H0 v r) (e : bindR ρ r = some (w, ρ')) : ∃ F', Ex K F0 H0 σ ρ0 F' H σ ρ' ∧ Bnd K H0 F' H σ ρ' v w ∧ Sub F F' ∧
    (∀ a o, F' a = some o → (∃ u, F a = some u) ∨ Own σ ρ a) ∧ (ρ' = ρ ∨ ∃ (i : Nat) (u : W), ρ[i]? = some (some u) ∧ ρ' = ρ.set i (some ⟨false, u.pin, u.d⟩)) := by
  cases r with
  | sh d =>
    cases e
    exact ⟨F, X, ⟨rfl, h, fun z => by cases z⟩, Sub.refl _, fun a o q => .inl ⟨o, q⟩, .inl rfl⟩
  | ow d =>
    cases e
    obtain ⟨a, ea, n, o, no⟩ := h
    obtain ⟨b, eb, nb⟩ := nw
    rw [ea] at eb; cases eb
    exact ⟨F, X, ⟨rfl, by unfold HW; rw [if_pos rfl]; exact ⟨a, ea, n, o⟩, fun _ c ec => by rw [ea] at ec; cases ec; exact ⟨no, nb⟩⟩, Sub.refl _, fun a o q => .inl ⟨o, q⟩, .inl rfl⟩
  | «at» i =>
    simp only [bindR] at e
    split at e
    · rename_i d ρ1 e1
      cases e
      obtain ⟨F', X', s, sb, h4⟩ := Rv.shr_step X h nw e1
      refine ⟨F', X', ⟨rfl, s, fun z => by cases z⟩, sb, fun a o q => ?_, ?_⟩
      · rcases h4 a o q with z | z | ⟨⟨d', z⟩, _⟩
        · exact .inl z
        · exact .inr z
        · cases z
      · obtain ⟨_, u, e2⟩ := h
        simp only [shr, e2] at e1
        cases e1
        exact .inr ⟨i, u, e2, rfl⟩
    · cases e
theorem bind_set (X : Ex K F0 H0 σ0 ρ0 F H σ ρ) {i : Nat} (b : Bnd K H0 F H σ ρ v w) (e : setW i w ρ = some ρ') : Ex K F0 H0 σ0 ρ0 F H (σ.set i (some v)) ρ' := by
  obtain ⟨rfl, np⟩ := setW_np e
  obtain ⟨o, p, d⟩ := w
  obtain rfl : p = false := b.np
  exact X.set np b.hw b.ow
end
section
variable {X : Cx} {e : Expr} {m : ME}
theorem asg_use {K : PySem.W.Frag} {t : TE} {i : Nat} (ht : ∀ σ H Q F ρ r ρ', Rep K F H σ ρ → m ρ = some (r, ρ') → (∀ v F' H', Ex K F H σ ρ F' H' σ ρ' → HR K F' H' σ ρ' v r → Nw H v r → Q v H') → t σ H Q)
    {D : Ends} {σ : L2.St} {H : Hp} (h : tMS K (mSet i m) D σ H) : tAsg t (gName i) D σ H := by
  obtain ⟨F, ρ, o, ρ', R, e, k⟩ := h
  unfold mSet at e
  split at e
  · rename_i r ρ1 e1
    split at e
    · rename_i w ρ2 e2
      split at e
      · rename_i ρ3 e3
        cases e
        refine ht σ H _ F ρ r ρ1 R e1 fun v F1 H1 X1 h1 nw => ?_
        obtain ⟨F2, X2, b, _⟩ := bindR_step X1 h1 nw e2
        exact k _ F2 H1 (bind_set X2 b e3)
      · cases e
    · cases e
  · cases e
theorem sv_set {i : Nat} {x : Str} {pos pos' : Pos} (hN : X.N.Nodup) (he : EV X e m) (hi : X.N[i]? = some x := by rfl) (hx : Loc X.env.scope x := by first | exact Or.inl rfl | exact Or.inr rfl) (hs : swapsWith e (some (.Name x pos')) pos.line X.env = pure false := by rfl) (hf : X.fn x = true ∨ X.env.scope.names.lookup x = some .local := by first | exact .inl rfl | exact .inr rfl | assumption) :
    SV X (.Assign [.Name x pos'] e pos) (mSet i m) :=
  sv_of (ps_set hN hi hx he hs hf) fun D σ H h => asg_use (fun σ H Q F ρ r ρ' R e k => ⟨F, ρ, r, ρ', R, e, k⟩) h
end

/-! ### a, b = x, y -/
def bindRs (ρ : En) : List Rv → Option (List W × En)
  | [] => some ([], ρ)
  | r :: rs => match bindR ρ r with
    | some (w, ρ1) => match bindRs ρ1 rs with
      | some (ws, ρ2) => some (w :: ws, ρ2)
      | none => none
    | none => none
def setWs : List Nat → List W → En → Option En
  | [], [], ρ => some ρ
  | i :: is, w :: ws, ρ => match setW i w ρ with
    | some ρ1 => setWs is ws ρ1
    | none => none
  | _, _, _ => none
def setVs : List Nat → List V → L2.St → L2.St
  | i :: is, v :: vs, σ => setVs is vs (σ.set i (some v))
  | _, _, σ => σ
/-- several bound, new ones unlike -/
def Bnds (K : PySem.W.Frag) (H0 F H : Hp) (σ : L2.St) (ρ : En) : List V → List W → Prop
  | [], [] => True
  | v :: vs, w :: ws => Bnd K H0 F H σ ρ v w ∧ Bnds K H0 F H σ ρ vs ws ∧ (w.own = true → ∀ (j : Nat) (u : W), ws[j]? = some u → u.own = true → vs[j]? ≠ some v)
  | _, _ => False
section
variable {K : PySem.W.Frag} {F H F0 H0 : Hp} {σ σ0 : L2.St} {ρ ρ0 ρ' : En} {v : V} {r : Rv} {w : W}
theorem Bnd.after {u : V} {z : W} {i : Nat} (b : Bnd K H0 F H σ ρ v w) (bz : Bnd K H0 F H σ ρ u z) (hl : σ.length = ρ.length) (ne : z.own = true → w.own = true → v ≠ u) : Bnd K H0 F H (σ.set i (some u)) (ρ.set i (some z)) v w := by
  refine ⟨b.np, b.hw, fun ho a ea => ⟨fun o => ?_, (b.ow ho a ea).2⟩⟩
  obtain ⟨j, p, d, q1, q2⟩ := o
  rcases set_get q1 with ⟨e1, e2, il⟩ | ⟨nij, q1⟩
  · subst e1
    rw [List.getElem?_set_self (by rw [hl]; exact il)] at q2
    have hz : z.own = true := by rw [← Option.some.inj e2]
    exact ne hz ho (by rw [ea]; exact (Option.some.inj (Option.some.inj q2)).symm)
  · rw [List.getElem?_set_ne nij] at q2
    exact (b.ow ho a ea).1 ⟨j, p, d, q1, q2⟩
theorem Bnds.after {u : V} {z : W} {i : Nat} (bz : Bnd K H0 F H σ ρ u z) (hl : σ.length = ρ.length) : ∀ {vs : List V} {ws : List W}, Bnds K H0 F H σ ρ vs ws → (z.own = true → ∀ (j : Nat) (y : W), ws[j]? = some y → y.own = true → vs[j]? ≠ some u) →
    Bnds K H0 F H (σ.set i (some u)) (ρ.set i (some z)) vs ws
  | [], [], _, _ => trivial
  | v :: vs, w :: ws, h, ne => ⟨h.1.after bz hl fun hz hw e => ne hz 0 w rfl hw (by rw [e]; rfl), Bnds.after bz hl h.2.1 fun hz j y e ho => by simpa using ne hz (j + 1) y (by simpa using e) ho, h.2.2⟩
theorem setWs_step : ∀ {is : List Nat} {vs : List V} {ws : List W} {σ : L2.St} {ρ ρ' : En}, Ex K F0 H0 σ0 ρ0 F H σ ρ → Bnds K H0 F H σ ρ vs ws → setWs is ws ρ = some ρ' → Ex K F0 H0 σ0 ρ0 F H (setVs is vs σ) ρ' ∧ is.length = vs.length
  | [], [], [], σ, ρ, ρ', X, b, e => by cases e; exact ⟨X, rfl⟩
  | i :: is, v :: vs, w :: ws, σ, ρ, ρ', X, b, e => by
    unfold setWs at e
    split at e
    · rename_i ρ1 e1
      have X1 := bind_set X b.1 e1
      obtain ⟨rfl, _⟩ := setW_np e1
      have := setWs_step (is := is) X1 (Bnds.after b.1 X.rep.len b.2.1 b.2.2) e
      exact ⟨this.1, by simp [this.2]⟩
    · cases e
  | [], [], _ :: _, σ, ρ, ρ', X, b, e => by cases e
  | [], _ :: _, [], σ, ρ, ρ', X, b, e => b.elim
  | [], _ :: _, _ :: _, σ, ρ, ρ', X, b, e => by cases e
  | _ :: _, [], [], σ, ρ, ρ', X, b, e => by cases e
  | _ :: _, [], _ :: _, σ, ρ, ρ', X, b, e => b.elim
  | _ :: _, _ :: _, [], σ, ρ, ρ', X, b, e => b.elim
/-- the others stay told -/
theorem HR.bind_keep {F' : Hp} {v' : V} {r' : Rv} (h : HR K F H σ ρ v' r') (s : Sub F F') (h4 : ∀ a o, F' a = some o → (∃ u, F a = some u) ∨ Own σ ρ a)
    (hr : ρ' = ρ ∨ ∃ (i : Nat) (u : W), ρ[i]? = some (some u) ∧ ρ' = ρ.set i (some ⟨false, u.pin, u.d⟩)) : HR K F' H σ ρ' v' r' := by
  cases r' with
  | sh d2 => exact Sh.sub s h
  | ow d2 =>
    obtain ⟨a, ea, n, o, no⟩ := h
    have hn : F' a = none := by
      cases q : F' a with
      | none => rfl
      | some z =>
        rcases h4 a z q with ⟨u, z⟩ | z
        · rw [n] at z; cases z
        · exact absurd z no
    refine ⟨a, ea, hn, o.sub s rfl, fun z => no ?_⟩
    obtain ⟨i, p, d3, q1, q2⟩ := z
    rcases hr with rfl | ⟨j, w, q3, rfl⟩
    · exact ⟨i, p, d3, q1, q2⟩
    · rcases set_get q1 with ⟨_, z, _⟩ | ⟨_, z⟩
      · cases z
      · exact ⟨i, p, d3, z, q2⟩
  | «at» i =>
    obtain ⟨e1, w, e2⟩ := h
    refine ⟨e1, ?_⟩
    rcases hr with rfl | ⟨j, w', q3, rfl⟩
    · exact ⟨w, e2⟩
    · by_cases hj : j = i
      · subst hj
        exact ⟨_, by rw [List.getElem?_set_self (List.getElem?_eq_some_iff.mp e2).1]⟩
      · exact ⟨w, by rw [List.getElem?_set_ne hj]; exact e2⟩
theorem HRs.bind_keep {F' : Hp} (s : Sub F F') (h4 : ∀ a o, F' a = some o → (∃ u, F a = some u) ∨ Own σ ρ a)
    (hr : ρ' = ρ ∨ ∃ (i : Nat) (u : W), ρ[i]? = some (some u) ∧ ρ' = ρ.set i (some ⟨false, u.pin, u.d⟩)) : ∀ {vs : List V} {rs : List Rv}, HRs K F H σ ρ vs rs → HRs K F' H σ ρ' vs rs
  | [], [], _ => trivial
  | v :: vs, r :: rs, h => ⟨h.1.bind_keep s h4 hr, HRs.bind_keep s h4 hr h.2.1, h.2.2⟩
theorem Bnd.keep {F' : Hp} (b : Bnd K H0 F H σ ρ v w) (R' : Rep K F' H σ ρ') (s : Sub F F') (h4 : ∀ a o, F' a = some o → (∃ u, F a = some u) ∨ Own σ ρ a)
    (hr : ρ' = ρ ∨ ∃ (i : Nat) (u : W), ρ[i]? = some (some u) ∧ ρ' = ρ.set i (some ⟨false, u.pin, u.d⟩)) : Bnd K H0 F' H σ ρ' v w := by
  refine ⟨b.np, b.hw.ex s fun a ea ho => ⟨?_, rfl⟩, fun ho a ea => ⟨fun z => ?_, (b.ow ho a ea).2⟩⟩
  · have hw := b.hw
    unfold HW at hw
    rw [if_pos ho] at hw
    obtain ⟨c, ec, n, _⟩ := hw
    rw [ea] at ec; cases ec
    cases q : F' a with
    | none => rfl
    | some z =>
      rcases h4 a z q with ⟨u, z⟩ | z
      · rw [n] at z; cases z
      · exact absurd z (b.ow ho a ea).1
  · obtain ⟨i, p, d3, q1, q2⟩ := z
    refine (b.ow ho a ea).1 ?_
    rcases hr with rfl | ⟨j, w, q3, rfl⟩
    · exact ⟨i, p, d3, q1, q2⟩
    · rcases set_get q1 with ⟨_, z, _⟩ | ⟨_, z⟩
      · cases z
      · exact ⟨i, p, d3, z, q2⟩
theorem bindR_own {ρ ρ' : En} {r : Rv} {w : W} (e : bindR ρ r = some (w, ρ')) (h : w.own = true) : ∃ d, r = .ow d := by
  cases r with
  | sh d => cases e; cases h
  | ow d => exact ⟨d, rfl⟩
  | «at» i =>
    simp only [bindR] at e
    split at e
    · cases e; cases h
    · cases e
theorem bindRs_own : ∀ {rs : List Rv} {ρ ρ' : En} {ws : List W}, bindRs ρ rs = some (ws, ρ') → ∀ (j : Nat) (w : W), ws[j]? = some w → w.own = true → ∃ d, rs[j]? = some (Rv.ow d)
  | [], ρ, ρ', ws, e, j, w, q, h => by cases e; simp at q
  | r :: rs, ρ, ρ', ws, e, j, w, q, h => by
    unfold bindRs at e
    split at e
    · rename_i w1 ρ1 e1
      split at e
      · rename_i ws2 ρ2 e2
        cases e
        cases j with
        | zero => simp at q; subst q; obtain ⟨d, rfl⟩ := bindR_own e1 h; exact ⟨d, rfl⟩
        | succ j =>
          obtain ⟨d, q'⟩ := bindRs_own e2 j w (by simpa using q) h
          exact ⟨d, by simpa using q'⟩
      · cases e
    · cases e
theorem bindRs_step : ∀ {vs : List V} {rs : List Rv} {F : Hp} {ρ ρ' : En} {ws : List W}, Ex K F0 H0 σ ρ0 F H σ ρ → HRs K F H σ ρ vs rs → Nws H0 vs rs → bindRs ρ rs = some (ws, ρ') → ∃ F', Ex K F0 H0 σ ρ0 F' H σ ρ' ∧ Bnds K H0 F' H σ ρ' vs ws ∧
    (∀ v w, Bnd K H0 F H σ ρ v w → Bnd K H0 F' H σ ρ' v w)
  | [], [], F, ρ, ρ', ws, X, h, nw, e => by cases e; exact ⟨F, X, trivial, fun _ _ b => b⟩
  | v :: vs, r :: rs, F, ρ, ρ', ws, X, h, nw, e => by
    unfold bindRs at e
    split at e
    · rename_i w ρ1 e1
      split at e
      · rename_i ws2 ρ2 e2
        cases e
        obtain ⟨F1, X1, b1, sb, h4, hr⟩ := bindR_step X h.1 nw.1 e1
        obtain ⟨F2, X2, b2, kp⟩ := bindRs_step X1 (HRs.bind_keep sb h4 hr h.2.1) nw.2 e2
        refine ⟨F2, X2, ⟨kp _ _ b1, b2, fun ho j u q hu => ?_⟩, fun v w b => kp v w (b.keep X1.rep sb h4 hr)⟩
        obtain ⟨d, rfl⟩ := bindR_own e1 ho
        obtain ⟨d', q'⟩ := bindRs_own e2 j u q hu
        exact h.2.2 d rfl j d' q'
      · cases e
    · cases e
end
def mPar (is : List Nat) (l : MA) : MS := fun ρ => match l ρ with
  | some (rs, ρ1) => match bindRs ρ1 rs with
    | some (ws, ρ2) => match setWs is ws ρ2 with
      | some ρ3 => some (.nx, ρ3)
      | none => none
    | none => none
  | none => none
theorem par_use {K : PySem.W.Frag} {l : MA} {is : List Nat} {D : Ends} {σ : L2.St} {H : Hp} (h : tMS K (mPar is l) D σ H) : tMA K l σ H fun vs H1 => is.length = vs.length ∧ D.nx (setVs is vs σ) H1 := by
  obtain ⟨F, ρ, o, ρ', R, e, k⟩ := h
  unfold mPar at e
  split at e
  · rename_i rs ρ1 e1
    split at e
    · rename_i ws ρ2 e2
      split at e
      · rename_i ρ3 e3
        cases e
        refine ⟨F, ρ, _, _, R, e1, fun vs F1 H1 X1 h1 nw => ?_⟩
        obtain ⟨F2, X2, b, _⟩ := bindRs_step X1 h1 nw e2
        have := setWs_step X2 b e3
        exact ⟨this.2, k _ F2 H1 this.1⟩
      · cases e
    · cases e
  · cases e
section
variable {X : Cx}
theorem sv_par {i j : Nat} {x y : Str} {a b : Expr} {l : MA} {px py pt pos : Pos} {kt k2 pt2} (hc : X.calm = true) (hN : X.N.Nodup) (hij : i ≠ j) (ha : AV X [a, b] l)
    (hi : X.N[i]? = some x := by rfl) (hj : X.N[j]? = some y := by rfl) (hx : X.env.scope.names.lookup x = some .local := by rfl) (hy : X.env.scope.names.lookup y = some .local := by rfl)
    (hw : swappedStores [.Tuple [.Name x px, .Name y py] kt pt] (.Tuple [a, b] k2 pt2) X.env = pure (some [x, y]) := by rfl)
    (hs : swapsWithSole [.Tuple [.Name x px, .Name y py] kt pt] (.Tuple [a, b] k2 pt2) pos.line X.env = pure false := by rfl) :
    SV X (.Assign [.Tuple [.Name x px, .Name y py] kt pt] (.Tuple [a, b] k2 pt2) pos) (mPar [i, j] l) :=
  sv_of (ps_par hc hN hi hj hij hx hy ha hw hs) fun D σ H h => by
    obtain ⟨F, ρ, r, ρ', R, e, k⟩ := par_use h
    refine ⟨F, ρ, r, ρ', R, e, fun vs F' H' X' h' nw => ?_⟩
    obtain ⟨hl, q⟩ := k vs F' H' X' h' nw
    match vs, hl, q with
    | [v, w], _, q => exact ⟨v, w, rfl, q⟩
theorem sv_par3 {i j l : Nat} {x y z : Str} {a b c : Expr} {ml : MA} {px py pz pt pos : Pos} {kt k2 pt2} (hc : X.calm = true) (hN : X.N.Nodup) (hij : i ≠ j) (hil : i ≠ l) (hjl : j ≠ l) (ha : AV X [a, b, c] ml)
    (hi : X.N[i]? = some x := by rfl) (hj : X.N[j]? = some y := by rfl) (hl : X.N[l]? = some z := by rfl) (hx : X.env.scope.names.lookup x = some .local := by rfl) (hy : X.env.scope.names.lookup y = some .local := by rfl) (hz : X.env.scope.names.lookup z = some .local := by rfl)
    (hw : swappedStores [.Tuple [.Name x px, .Name y py, .Name z pz] kt pt] (.Tuple [a, b, c] k2 pt2) X.env = pure (some [x, y, z]) := by rfl)
    (hs : swapsWithSole [.Tuple [.Name x px, .Name y py, .Name z pz] kt pt] (.Tuple [a, b, c] k2 pt2) pos.line X.env = pure false := by rfl) :
    SV X (.Assign [.Tuple [.Name x px, .Name y py, .Name z pz] kt pt] (.Tuple [a, b, c] k2 pt2) pos) (mPar [i, j, l] ml) :=
  sv_of (ps_par3 hc hN hi hj hl hij hil hjl hx hy hz ha hw hs) fun D σ H h => by
    obtain ⟨F, ρ, r, ρ', R, e, k⟩ := par_use h
    refine ⟨F, ρ, r, ρ', R, e, fun vs F' H' X' h' nw => ?_⟩
    obtain ⟨hl, q⟩ := k vs F' H' X' h' nw
    match vs, hl, q with
    | [v, w, u], _, q => exact ⟨v, w, u, rfl, q⟩
end
end Mi
set_option Elab.async false
set_option linter.all false
set_option maxRecDepth 100000
set_option maxHeartbeats 1000000
set_option autoImplicit false
namespace Mi
noncomputable section
open PySem PySem.Spec PyProof.Rows L2

/-! ### what is walked -/
abbrev MI := En → Option (List D × En)
structure ItOK (K : PySem.W.Frag) (J : It) (F H : Hp) (ds : List D) : Prop where
  go : ∀ (i : Nat) F2 H2 (d : D), Sub F F2 → Le F2 H2 → (∀ a o u, F a = some u → H a = some o → H2 a = some o) → ds[i]? = some d → J.go i H2 ∧ ∀ x H3, J.yld i H2 x H3 → ∃ F3, Gr F2 H2 F3 H3 ∧ Sh K F3 x d
  stop : ∀ (i : Nat) F2 H2, Sub F F2 → Le F2 H2 → (∀ a o u, F a = some u → H a = some o → H2 a = some o) → ds.length ≤ i → J.stop i H2
def tMI (K : PySem.W.Frag) (m : MI) : TI := fun σ H R => ∃ F ρ ds ρ', Rep K F H σ ρ ∧ m ρ = some (ds, ρ') ∧ ∀ J F' H', Ex K F H σ ρ F' H' σ ρ' → ItOK K J F' H' ds → R J H'
abbrev IV (X : Cx) (tg e : Expr) (m : MI) : Prop := PI X tg e (tMI X.K m)
theorem iv_of {X : Cx} {tg e : Expr} {m : MI} {t : TI} (h : PI X tg e t) (hi : ∀ σ H R, tMI X.K m σ H R → t σ H R) : IV X tg e m :=
  ⟨fun pins s σ H R I hw => h.run pins s σ H R I (hi σ H R hw)⟩
theorem Ex.kept {K : PySem.W.Frag} {F H F' H' : Hp} {σ σ' : L2.St} {ρ ρ' : En} (R : Rep K F H σ ρ) (X : Ex K F H σ ρ F' H' σ' ρ') : ∀ a o u, F a = some u → H a = some o → H' a = some o := fun a o u e h =>
  X.frame a o h fun z => by
    obtain ⟨n, _⟩ := R.own_there z
    rw [n] at e; cases e

/-! ### targets -/
def sw (d : D) : W := ⟨false, false, d⟩
def TgOk (K : PySem.W.Frag) (is : List Nat) (g : TG) (tg : D → En → Option En) : Prop := ∀ F0 H0 σ0 ρ0 F H σ ρ v d ρ' Q, Ex K F0 H0 σ0 ρ0 F H σ ρ → Sh K F v d → tg d ρ = some ρ' →
  (∀ σ' us, σ' = setVs is us σ → us.length = is.length → Ex K F0 H0 σ0 ρ0 F H σ' ρ' → Q σ' H) → g v σ H Q
def tgN (i : Nat) : D → En → Option En := fun d ρ => setW i (sw d) ρ
def tgT (is : List Nat) : D → En → Option En := fun d ρ => match d with
  | .tup ds => if ds.length = is.length then setWs is (ds.map sw) ρ else none
  | _ => none
theorem bnd_sh {K : PySem.W.Frag} {H0 F H : Hp} {σ : L2.St} {ρ : En} {v : V} {d : D} (h : Sh K F v d) : Bnd K H0 F H σ ρ v (sw d) := ⟨rfl, h, fun z => by cases z⟩
theorem bnds_sh {K : PySem.W.Frag} {H0 F H : Hp} {σ : L2.St} {ρ : En} : ∀ {vs : List V} {ds : List D}, Shs K F vs ds → Bnds K H0 F H σ ρ vs (ds.map sw)
  | _, _, .nil => trivial
  | _, _, .cons h r => ⟨bnd_sh h, bnds_sh r, fun z => by cases z⟩
theorem tgN_ok {K : PySem.W.Frag} {i : Nat} : TgOk K [i] (gName i) (tgN i) := fun F0 H0 σ0 ρ0 F H σ ρ v d ρ' Q X s e k =>
  k _ [v] rfl rfl (bind_set X (bnd_sh s) e)
def gNs : List Nat → TGs
  | [] => gNil
  | i :: is => gCons (gName i) (gNs is)
theorem gNs_use : ∀ {is : List Nat} {vs : List V} {σ : L2.St} {H : Hp} {Q : L2.St → Hp → Prop}, is.length = vs.length → Q (setVs is vs σ) H → gNs is vs σ H Q
  | [], [], σ, H, Q, _, q => ⟨rfl, q⟩
  | i :: is, v :: vs, σ, H, Q, hl, q => ⟨v, vs, rfl, gNs_use (is := is) (by simpa using hl) q⟩
theorem tgT_ok {K : PySem.W.Frag} {is : List Nat} : TgOk K is (gTup K is.length (gNs is)) (tgT is) := fun F0 H0 σ0 ρ0 F H σ ρ v d ρ' Q X s e k => by
  unfold tgT at e
  split at e
  · rename_i ds
    split at e
    · rename_i hl
      cases s with
      | tup hs r =>
        have b := setWs_step (is := is) X (bnds_sh r) e
        exact ⟨_, _, rfl, sqT_sub X.rep.le.sub hs.sq, by rw [r.length]; exact hl, gNs_use b.2 (k _ _ rfl b.2.symm b.1)⟩
    · cases e
  · cases e

/-! ### for -/
def forL (tg : D → En → Option En) (b : MS) : List D → MS
  | [], ρ => some (.nx, ρ)
  | d :: ds, ρ => match tg d ρ with
    | some ρ1 => match b ρ1 with
      | some (.nx, ρ2) => forL tg b ds ρ2
      | some (.ct, ρ2) => forL tg b ds ρ2
      | some (.bk, ρ2) => some (.nx, ρ2)
      | some (.rt r, ρ2) => some (.rt r, ρ2)
      | none => none
    | none => none
def mFor (mi : MI) (tg : D → En → Option En) (b : MS) : MS := fun ρ => match mi ρ with
  | some (ds, ρ1) => forL tg b ds ρ1
  | none => none
section
variable {K : PySem.W.Frag}
theorem for_core {is : List Nat} {g : TG} {tg : D → En → Option En} {b : MS} (hg : TgOk K is g tg) {E : Ends} {σ : L2.St} {F H F1 H1 : Hp} {ρ ρ1 ρe : En} {o : Out} {ds : List D} {J : It} (X1 : Ex K F H σ ρ F1 H1 σ ρ1) (it : ItOK K J F1 H1 ds) (e : forL tg b ds ρ1 = some (o, ρe))
    (k : ∀ σ' F' H', Ex K F H σ ρ F' H' σ' ρe → OutOk K H F' H' σ' ρe E o) : ∃ W : Nat → Nat → L2.St → Hp → Prop, (∃ m, W 0 m σ H1) ∧ ∀ i m σ H, W i m σ H →
      (J.stop i H ∧ E.nx σ H) ∨ (J.go i H ∧ ∃ N : L2.St → Hp → Prop, (∀ σ' H', N σ' H' → ∃ m', m' < m ∧ W (i + 1) m' σ' H') ∧ ∀ x H', J.yld i H x H' → g x σ H' fun σ2 H2 => tMS K b { E with nx := N, ct := N, bk := E.nx } σ2 H2) := by
  refine ⟨fun i m σ' H' => ∃ F' ρ', Ex K F1 H1 σ ρ1 F' H' σ' ρ' ∧ forL tg b (ds.drop i) ρ' = some (o, ρe) ∧ i + m = ds.length, ⟨ds.length, F1, ρ1, Ex.refl X1.rep, by simpa using e, by omega⟩, ?_⟩
  rintro i m σ2 H2 ⟨F2, ρ2, X2, e2, hm⟩
  have kept := X2.kept X1.rep
  by_cases hi : i < ds.length
  · have hd : ds[i]? = some ds[i] := List.getElem?_eq_getElem hi
    obtain ⟨hgo, hy⟩ := it.go i F2 H2 ds[i] X2.sub X2.rep.le kept hd
    rw [List.drop_eq_getElem_cons hi] at e2
    unfold forL at e2
    split at e2
    · rename_i ρ3 e3
      have turn : ∀ (N : L2.St → Hp → Prop), (∀ x H', J.yld i H2 x H' → ∀ σ4 F4 , Ex K F1 H1 σ ρ1 F4 H' σ4 ρ3 → tMS K b { E with nx := N, ct := N, bk := E.nx } σ4 H') → ∀ x H', J.yld i H2 x H' → g x σ2 H' fun σ2 H2 => tMS K b { E with nx := N, ct := N, bk := E.nx } σ2 H2 := fun N hN x H' y => by
        obtain ⟨F3, gr, sh⟩ := hy x H' y
        have X3 := X2.trans (Gr.ex X2.rep gr)
        exact hg F1 H1 σ ρ1 F3 H' σ2 ρ2 x ds[i] ρ3 _ X3 sh e3 fun σ' us _ _ X4 => hN x H' y σ' F3 X4
      split at e2
      · rename_i ρ4 e4
        refine .inr ⟨hgo, fun σ' H' => ∃ F', Ex K F1 H1 σ ρ1 F' H' σ' ρ4, fun σ' H' ⟨F', X'⟩ => ⟨m - 1, by omega, F', ρ4, X', e2, by omega⟩, turn _ fun x H' _ σ4 F4 X4 => ?_⟩
        exact ⟨F4, ρ3, _, _, X4.rep, e4, fun σ5 F5 H5 X5 => ⟨F5, X4.trans X5⟩⟩
      · rename_i ρ4 e4
        refine .inr ⟨hgo, fun σ' H' => ∃ F', Ex K F1 H1 σ ρ1 F' H' σ' ρ4, fun σ' H' ⟨F', X'⟩ => ⟨m - 1, by omega, F', ρ4, X', e2, by omega⟩, turn _ fun x H' _ σ4 F4 X4 => ?_⟩
        exact ⟨F4, ρ3, _, _, X4.rep, e4, fun σ5 F5 H5 X5 => ⟨F5, X4.trans X5⟩⟩
      · rename_i ρ4 e4
        cases e2
        refine .inr ⟨hgo, fun σ' H' => False, fun σ' H' z => z.elim, turn _ fun x H' _ σ4 F4 X4 => ?_⟩
        exact ⟨F4, ρ3, _, _, X4.rep, e4, fun σ5 F5 H5 X5 => k σ5 F5 H5 (X1.trans (X4.trans X5))⟩
      · rename_i r ρ4 e4
        cases e2
        refine .inr ⟨hgo, fun σ' H' => False, fun σ' H' z => z.elim, turn _ fun x H' _ σ4 F4 X4 => ?_⟩
        exact ⟨F4, ρ3, _, _, X4.rep, e4, fun σ5 F5 H5 X5 v hv nw => k σ5 F5 H5 (X1.trans (X4.trans X5)) v hv ((nw.back X4).back X1)⟩
      · cases e2
    · cases e2
  · rw [List.drop_eq_nil_of_le (by omega)] at e2
    cases e2
    exact .inl ⟨it.stop i F2 H2 X2.sub X2.rep.le kept (by omega), k σ2 F2 H2 (X1.trans X2)⟩
theorem for_use {mi : MI} {is : List Nat} {g : TG} {tg : D → En → Option En} {b : MS} (hg : TgOk K is g tg) {E : Ends} {σ : L2.St} {H : Hp} (h : tMS K (mFor mi tg b) E σ H) : tFor (tMI K mi) g (tMS K b) E σ H := by
  obtain ⟨F, ρ, o, ρe, R, e, k⟩ := h
  unfold mFor at e
  split at e
  · rename_i ds ρ1 e1
    exact ⟨F, ρ, ds, ρ1, R, e1, fun J F1 H1 X1 it => for_core hg X1 it e k⟩
  · cases e
end
section
variable {X : Cx}
theorem sv_for {tg iter : Expr} {body : List Stmt} {mi : MI} {is : List Nat} {g : TG} {mt : D → En → Option En} {b : MS} {pos : Pos} (hp : PassesOwn (model X.prog X.w) X.A X.env X.xe) (hc : X.calm = true) (ok : TgOk X.K is g mt) (hi : IV X tg iter mi) (hg : PG X tg g) (hb : SVs X body b)
    (hs : ∀ x, foldedSetIterable iter X.env x = pure x := by intro _; rfl) : SV X (.For tg iter body [] pos) (mFor mi mt b) :=
  sv_of (ps_for hp hc hi hg hb hs) fun E σ H h => for_use ok h

/-! ### while -/
def whL (t : MT) (b : MS) : Nat → MS
  | 0, _ => none
  | n + 1, ρ => match t ρ with
    | some (false, ρ1) => some (.nx, ρ1)
    | some (true, ρ1) => match b ρ1 with
      | some (.nx, ρ2) => whL t b n ρ2
      | some (.ct, ρ2) => whL t b n ρ2
      | some (.bk, ρ2) => some (.nx, ρ2)
      | some (.rt r, ρ2) => some (.rt r, ρ2)
      | none => none
    | none => none
theorem while_use {K : PySem.W.Frag} {n : Nat} {t : MT} {b : MS} {E : Ends} {σ : L2.St} {H : Hp} (h : tMS K (whL t b n) E σ H) : tWhile (tMT K t) (tMS K b) E σ H := by
  obtain ⟨F, ρ, o, ρe, R, e, k⟩ := h
  refine ⟨fun m σ' H' => ∃ F' ρ', Ex K F H σ ρ F' H' σ' ρ' ∧ whL t b m ρ' = some (o, ρe), ⟨n, F, ρ, Ex.refl R, e⟩, ?_⟩
  rintro m σ2 H2 ⟨F2, ρ2, X2, e2⟩
  cases m with
  | zero => cases e2
  | succ m =>
    unfold whL at e2
    split at e2
    · rename_i ρ3 e3
      cases e2
      exact ⟨F2, ρ2, _, _, X2.rep, e3, fun F3 H3 X3 => iteF (k σ2 F3 H3 (X2.trans X3))⟩
    · rename_i ρ3 e3
      split at e2
      · rename_i ρ4 e4
        refine ⟨F2, ρ2, _, _, X2.rep, e3, fun F3 H3 X3 => iteT ⟨fun σ' H' => ∃ F', Ex K F H σ ρ F' H' σ' ρ4, fun σ' H' ⟨F', X'⟩ => ⟨m, by omega, F', ρ4, X', e2⟩, ?_⟩⟩
        exact ⟨F3, ρ3, _, _, X3.rep, e4, fun σ5 F5 H5 X5 => ⟨F5, (X2.trans X3).trans X5⟩⟩
      · rename_i ρ4 e4
        refine ⟨F2, ρ2, _, _, X2.rep, e3, fun F3 H3 X3 => iteT ⟨fun σ' H' => ∃ F', Ex K F H σ ρ F' H' σ' ρ4, fun σ' H' ⟨F', X'⟩ => ⟨m, by omega, F', ρ4, X', e2⟩, ?_⟩⟩
        exact ⟨F3, ρ3, _, _, X3.rep, e4, fun σ5 F5 H5 X5 => ⟨F5, (X2.trans X3).trans X5⟩⟩
      · rename_i ρ4 e4
        cases e2
        refine ⟨F2, ρ2, _, _, X2.rep, e3, fun F3 H3 X3 => iteT ⟨fun σ' H' => False, fun σ' H' z => z.elim, ?_⟩⟩
        exact ⟨F3, ρ3, _, _, X3.rep, e4, fun σ5 F5 H5 X5 => k σ5 F5 H5 ((X2.trans X3).trans X5)⟩
      · rename_i r ρ4 e4
        cases e2
        refine ⟨F2, ρ2, _, _, X2.rep, e3, fun F3 H3 X3 => iteT ⟨fun σ' H' => False, fun σ' H' z => z.elim, ?_⟩⟩
        exact ⟨F3, ρ3, _, _, X3.rep, e4, fun σ5 F5 H5 X5 v hv nw => k σ5 F5 H5 ((X2.trans X3).trans X5) v hv (nw.back (X2.trans X3))⟩
      · cases e2
    · cases e2
theorem sv_while (n : Nat) {c : Expr} {body : List Stmt} {t : MT} {b : MS} {pos : Pos} (hp : PassesOwn (model X.prog X.w) X.A X.env X.xe) (hc : TV X c t) (hb : SVs X body b) : SV X (.While c body [] pos) (whL t b n) :=
  sv_of (ps_while hp hc hb) fun E σ H h => while_use h

/-! ### iterables -/
def iSh (m : ME) : MI := fun ρ => match m ρ with
  | some (r, ρ1) => match shr ρ1 r with
    | some (.lst ds, ρ2) => some (ds, ρ2)
    | some (.frl ds, ρ2) => some (ds, ρ2)
    | some (.tup ds, ρ2) => some (ds, ρ2)
    | some (.str x, ρ2) => some (x.cps.toList.map fun c => .str ⟨#[c]⟩, ρ2)
    | _ => none
  | none => none
theorem itl_ok {K : PySem.W.Frag} {F H : Hp} {a : Addr} {vs : List V} {ds : List D} (h : SqL K F a vs) (r : Shs K F vs ds) : ItOK K (Itl K a) F H ds := by
  refine ⟨fun i F2 H2 d s l _ e => ?_, fun i F2 H2 s l _ hi => ?_⟩
  · obtain ⟨v, e1, h1⟩ := r.get e
    have hs := sqL_sub (s.trans l.sub) h
    exact ⟨⟨vs, v, hs, e1⟩, fun x H3 ⟨e2, hy⟩ => ⟨F2, by rw [e2]; exact Gr.refl l, by
      have := hy vs hs
      rw [e1] at this; cases this
      exact h1.sub s⟩⟩
  · exact ⟨vs, sqL_sub (s.trans l.sub) h, by rw [r.length]; exact hi⟩
theorem itt_ok {K : PySem.W.Frag} {F H : Hp} {a : Addr} {vs : List V} {ds : List D} (h : SqT K F a vs) (r : Shs K F vs ds) : ItOK K (Itt K a) F H ds := by
  refine ⟨fun i F2 H2 d s l _ e => ?_, fun i F2 H2 s l _ hi => ?_⟩
  · obtain ⟨v, e1, h1⟩ := r.get e
    have hs := sqT_sub (s.trans l.sub) h
    exact ⟨⟨vs, v, hs, e1⟩, fun x H3 ⟨e2, hy⟩ => ⟨F2, by rw [e2]; exact Gr.refl l, by
      have := hy vs hs
      rw [e1] at this; cases this
      exact h1.sub s⟩⟩
  · exact ⟨vs, sqT_sub (s.trans l.sub) h, by rw [r.length]; exact hi⟩
theorem its_ok {K : PySem.W.Frag} {F H : Hp} {x : Str} : ItOK K (Its x) F H (x.cps.toList.map fun c => .str ⟨#[c]⟩) := by
  refine ⟨fun i F2 H2 d s l _ e => ?_, fun i F2 H2 s l _ hi => ?_⟩
  · rw [List.getElem?_map] at e
    cases q : x.cps.toList[i]? with
    | none => rw [q] at e; cases e
    | some c =>
      rw [q] at e; cases e
      have hi : i < x.cps.size := by
        have := (List.getElem?_eq_some_iff.mp q).1
        simpa using this
      refine ⟨hi, fun v H3 ⟨e2, c', e3, e4⟩ => ⟨F2, by rw [e2]; exact Gr.refl l, ?_⟩⟩
      have : c' = c := by
        rw [← Array.getElem?_toList] at e3
        rw [q] at e3; exact (Option.some.inj e3).symm
      subst this
      rw [e4]; exact .str _
  · show x.cps.size ≤ i
    simpa using hi
theorem PI.or {tg e : Expr} {t u : TI} (h : PI X tg e t) (h' : PI X tg e u) : PI X tg e (fun σ H R => t σ H R ∨ u σ H R) := ⟨fun pins s σ H R I hw => hw.elim (h.run pins s σ H R I) (h'.run pins s σ H R I)⟩
/-- a list, a tuple, a text -/
theorem iv_sh {tg e : Expr} {m : ME} (he : EV X e m) : IV X tg e (iSh m) := by
  refine iv_of (PI.or (pi_list he) (PI.or (pi_tup he) (pi_str he))) fun σ H R ⟨F, ρ, ds, ρ', Re, e, k⟩ => ?_
  unfold iSh at e
  split at e
  · rename_i r ρ1 e1
    split at e
    · rename_i ds' ρ2 e2
      cases e
      refine .inl ⟨F, ρ, _, _, Re, e1, fun v F1 H1 X1 h1 nw => ?_⟩
      obtain ⟨F2, X2, s, _⟩ := Rv.shr_step X1 h1 nw e2
      cases s with
      | lst hs r => exact ⟨_, rfl, ⟨_, .inl (.inl (X2.rep.le _ _ hs))⟩, k _ F2 H1 X2 (itl_ok (.inl (.inl hs)) r)⟩
    · rename_i ds' ρ2 e2
      cases e
      refine .inl ⟨F, ρ, _, _, Re, e1, fun v F1 H1 X1 h1 nw => ?_⟩
      obtain ⟨F2, X2, s, _⟩ := Rv.shr_step X1 h1 nw e2
      cases s with
      | frl hs r => exact ⟨_, rfl, ⟨_, sqL_sub X2.rep.le.sub hs⟩, k _ F2 H1 X2 (itl_ok hs r)⟩
    · rename_i ds' ρ2 e2
      cases e
      refine .inr (.inl ⟨F, ρ, _, _, Re, e1, fun v F1 H1 X1 h1 nw => ?_⟩)
      obtain ⟨F2, X2, s, _⟩ := Rv.shr_step X1 h1 nw e2
      cases s with
      | tup hs r => exact ⟨_, rfl, ⟨_, sqT_sub X2.rep.le.sub hs.sq⟩, k _ F2 H1 X2 (itt_ok hs.sq r)⟩
    · rename_i x ρ2 e2
      cases e
      refine .inr (.inr ⟨F, ρ, _, _, Re, e1, fun v F1 H1 X1 h1 nw => ?_⟩)
      obtain ⟨F2, X2, s, _⟩ := Rv.shr_step X1 h1 nw e2
      cases s with
      | str => exact ⟨x, rfl, k _ F2 H1 X2 its_ok⟩
    · cases e
  · cases e
/-- range(n), range(a, b) -/
def dRange (lo : Int) (n : Nat) : List D := (List.range n).map fun (i : Nat) => .int (lo + i)
def iR1 (l : MA) : MI := fun ρ => match l ρ with
  | some (rs, ρ1) => match peeks ρ1 rs with
    | some [.int j] => if big (-(2 ^ 62) ≤ j ∧ j < 2 ^ 62) then some (dRange 0 j.toNat, ρ1) else none
    | _ => none
  | none => none
def iR2 (l : MA) : MI := fun ρ => match l ρ with
  | some (rs, ρ1) => match peeks ρ1 rs with
    | some [.int i, .int j] => if big (-(2 ^ 62) ≤ i ∧ i < 2 ^ 62 ∧ -(2 ^ 62) ≤ j ∧ j < 2 ^ 62) then some (dRange i (j - i).toNat, ρ1) else none
    | _ => none
  | none => none
theorem itr_ok {K : PySem.W.Frag} {F H : Hp} {lo : Int} {n : Nat} : ItOK K (Itr lo n) F H (dRange lo n) := by
  refine ⟨fun i F2 H2 d s l _ e => ?_, fun i F2 H2 s l _ hi => by show n ≤ i; simpa [dRange] using hi⟩
  unfold dRange at e
  rw [List.getElem?_map] at e
  have hi : i < n := by
    cases q : (List.range n)[i]? with
    | none => rw [q] at e; cases e
    | some c =>
      have := (List.getElem?_eq_some_iff.mp q).1
      simpa using this
  rw [List.getElem?_range hi] at e
  cases e
  exact ⟨hi, fun x H3 ⟨e2, e3⟩ => ⟨F2, by rw [e2]; exact Gr.refl l, by rw [e3]; exact .int _⟩⟩
theorem iv_range1 {tg a : Expr} {l : MA} {p pos : Pos} (hm : X.mg "range" = none) (ha : AV X [a] l) (hg : Gl X "range" := by rfl) (hs : starEach [a] X.env = [(false, eval a X.env)] := by rfl) : IV X tg (.Call (.Name "range" p) [a] [] pos) (iR1 l) := by
  refine iv_of (pi_range1 hg hm ha hs) fun σ H R ⟨F, ρ, ds, ρ', Re, e, k⟩ => ?_
  unfold iR1 at e
  split at e
  · rename_i rs ρ1 e1
    split at e
    · rename_i j e2
      split at e
      · rename_i hz
        cases e
        refine ⟨F, ρ, _, _, Re, e1, fun vs F1 H1 X1 h1 nw => ?_⟩
        obtain ⟨v, rfl, b⟩ := (HRs.bos X1.rep h1 e2).one
        exact ⟨j, by rw [b.int], hz.1, hz.2, k _ F1 H1 X1 itr_ok⟩
      · cases e
    · cases e
  · cases e
theorem iv_range2 {tg a b : Expr} {l : MA} {p pos : Pos} (hm : X.mg "range" = none) (ha : AV X [a, b] l) (hg : Gl X "range" := by rfl) (hs : starEach [a, b] X.env = [(false, eval a X.env), (false, eval b X.env)] := by rfl) (hs2 : starEach [b] X.env = [(false, eval b X.env)] := by rfl) : IV X tg (.Call (.Name "range" p) [a, b] [] pos) (iR2 l) := by
  refine iv_of (pi_range2 hg hm ha hs hs2) fun σ H R ⟨F, ρ, ds, ρ', Re, e, k⟩ => ?_
  unfold iR2 at e
  split at e
  · rename_i rs ρ1 e1
    split at e
    · rename_i i j e2
      split at e
      · rename_i hz
        cases e
        refine ⟨F, ρ, _, _, Re, e1, fun vs F1 H1 X1 h1 nw => ?_⟩
        obtain ⟨v, u, rfl, b, b'⟩ := (HRs.bos X1.rep h1 e2).two
        exact ⟨i, j, by rw [b.int, b'.int], hz, k _ F1 H1 X1 itr_ok⟩
      · cases e
    · cases e
  · cases e
/-- enumerate(list) -/
def dEnum (i : Nat) : List D → List D
  | [] => []
  | d :: ds => .tup [.int i, d] :: dEnum (i + 1) ds
theorem dEnum_get : ∀ {ds : List D} {k i : Nat} {z : D}, (dEnum k ds)[i]? = some z → ∃ d, ds[i]? = some d ∧ z = .tup [.int ((k + i : Nat) : Int), d]
  | [], k, i, z, e => by simp [dEnum] at e
  | d :: ds, k, 0, z, e => by simp [dEnum] at e; exact ⟨d, rfl, e.symm⟩
  | d :: ds, k, i + 1, z, e => by
    obtain ⟨d', e1, e2⟩ := dEnum_get (ds := ds) (k := k + 1) (i := i) (z := z) (by simpa [dEnum] using e)
    exact ⟨d', by simpa using e1, by rw [e2, show k + 1 + i = k + (i + 1) by omega]⟩
theorem dEnum_len : ∀ {ds : List D} {k : Nat}, (dEnum k ds).length = ds.length
  | [], k => rfl
  | d :: ds, k => by simp [dEnum, dEnum_len (ds := ds)]
def iEn (l : MA) : MI := fun ρ => match l ρ with
  | some (rs, ρ1) => match shrs ρ1 rs with
    | some ([.lst ds], ρ2) => some (dEnum 0 ds, ρ2)
    | _ => none
  | none => none
theorem ite_ok {K : PySem.W.Frag} {F H : Hp} {a : Addr} {vs : List V} {ds : List D} (h : SqL K F a vs) (r : Shs K F vs ds) : ItOK K (Ite K a) F H (dEnum 0 ds) := by
  refine ⟨fun i F2 H2 z s l _ e => ?_, fun i F2 H2 s l _ hi => ?_⟩
  · obtain ⟨d, e1, rfl⟩ := dEnum_get e
    obtain ⟨v, e2, h1⟩ := r.get e1
    have hs := sqL_sub (s.trans l.sub) h
    refine ⟨⟨vs, v, hs, e2⟩, fun x H3 ⟨T, y, e3, hT, e4, hy⟩ => ⟨upd F2 T (.tup [.int (i : Nat), y]), by rw [e4]; exact Gr.new_sh l hT, ?_⟩⟩
    have := hy vs hs
    rw [e2] at this; cases this
    rw [e3, Nat.zero_add]
    have sb := (le_upd (o := .tup [.int (i : Nat), v]) (l.none hT)).sub
    exact .tup (.inl upd_same) (.cons (.int _) (.cons (h1.sub (s.trans sb)) .nil))
  · exact ⟨vs, sqL_sub (s.trans l.sub) h, by rw [r.length]; rw [dEnum_len] at hi; exact hi⟩
theorem iv_enum {e : Expr} {l : MA} {p pos tpos : Pos} {elts : List Expr} {kk : Nat} (hm : X.mg "enumerate" = none) (ha : AV X [e] l) (hg : Gl X "enumerate" := by rfl) (hs : starEach [e] X.env = [(false, eval e X.env)] := by rfl) :
    IV X (.Tuple elts kk tpos) (.Call (.Name "enumerate" p) [e] [] pos) (iEn l) := by
  refine iv_of (pi_enum hg hm ha hs) fun σ H R ⟨F, ρ, ds, ρ', Re, e, k⟩ => ?_
  unfold iEn at e
  split at e
  · rename_i rs ρ1 e1
    split at e
    · rename_i ds' ρ2 e2
      cases e
      refine ⟨F, ρ, _, _, Re, e1, fun vs F1 H1 X1 h1 nw => ?_⟩
      obtain ⟨F2, X2, s, _⟩ := shrs_step X1 h1 nw e2
      cases s with
      | cons s1 s2 =>
        cases s2
        cases s1 with
        | lst hs r => exact ⟨_, _, rfl, .inl (.inl (X2.rep.le _ _ hs)), k _ F2 H1 X2 (ite_ok (.inl (.inl hs)) r)⟩
    · cases e
  · cases e
/-- zip(list, list) -/
def dZip : List D → List D → List D
  | d :: ds, e :: es => .tup [d, e] :: dZip ds es
  | _, _ => []
theorem dZip_get : ∀ {ds es : List D} {i : Nat} {z : D}, (dZip ds es)[i]? = some z → ∃ d e, ds[i]? = some d ∧ es[i]? = some e ∧ z = .tup [d, e]
  | [], es, i, z, q => by simp [dZip] at q
  | d :: ds, [], i, z, q => by simp [dZip] at q
  | d :: ds, e :: es, 0, z, q => by simp [dZip] at q; exact ⟨d, e, rfl, rfl, q.symm⟩
  | d :: ds, e :: es, i + 1, z, q => by
    obtain ⟨d', e', h1, h2, h3⟩ := dZip_get (ds := ds) (es := es) (i := i) (z := z) (by simpa [dZip] using q)
    exact ⟨d', e', by simpa using h1, by simpa using h2, h3⟩
theorem dZip_len : ∀ {ds es : List D}, (dZip ds es).length = min ds.length es.length
  | [], es => by simp [dZip]
  | d :: ds, [] => by simp [dZip]
  | d :: ds, e :: es => by simp [dZip, dZip_len (ds := ds) (es := es)]
def iZp (l : MA) : MI := fun ρ => match l ρ with
  | some (rs, ρ1) => match shrs ρ1 rs with
    | some ([.lst ds, .lst es], ρ2) => some (dZip ds es, ρ2)
    | _ => none
  | none => none
theorem itz_ok {K : PySem.W.Frag} {F H : Hp} {a b : Addr} {vs us : List V} {ds es : List D} (h : SqL K F a vs) (r : Shs K F vs ds) (h' : SqL K F b us) (r' : Shs K F us es) : ItOK K (Itz K a b) F H (dZip ds es) := by
  refine ⟨fun i F2 H2 z s l _ e => ?_, fun i F2 H2 s l _ hi => ?_⟩
  · obtain ⟨d, d', e1, e1', rfl⟩ := dZip_get e
    obtain ⟨v, e2, h1⟩ := r.get e1
    obtain ⟨u, e2', h1'⟩ := r'.get e1'
    have hs := sqL_sub (s.trans l.sub) h
    have hs' := sqL_sub (s.trans l.sub) h'
    refine ⟨⟨vs, us, v, u, hs, hs', e2, e2'⟩, fun x H3 ⟨T, y, y', e3, hT, e4, hy, hy'⟩ => ⟨upd F2 T (.tup [y, y']), by rw [e4]; exact Gr.new_sh l hT, ?_⟩⟩
    have := hy vs hs
    rw [e2] at this; cases this
    have := hy' us hs'
    rw [e2'] at this; cases this
    rw [e3]
    have sb := (le_upd (o := .tup [v, u]) (l.none hT)).sub
    exact .tup (.inl upd_same) (.cons (h1.sub (s.trans sb)) (.cons (h1'.sub (s.trans sb)) .nil))
  · rw [dZip_len] at hi
    exact ⟨vs, us, sqL_sub (s.trans l.sub) h, sqL_sub (s.trans l.sub) h', by rw [r.length, r'.length]; omega⟩
theorem iv_zip {e e2 : Expr} {l : MA} {p pos tpos : Pos} {elts : List Expr} {kk : Nat} (hm : X.mg "zip" = none) (ha : AV X [e, e2] l) (hg : Gl X "zip" := by rfl) (hs : starEach [e, e2] X.env = (false, eval e X.env) :: starEach [e2] X.env := by rfl) (hpl : (backTo pos (starEach [e2] X.env)).any (·.1) = false := by rfl) :
    IV X (.Tuple elts kk tpos) (.Call (.Name "zip" p) [e, e2] [] pos) (iZp l) := by
  refine iv_of (pi_zip hg hm ha hs hpl) fun σ H R ⟨F, ρ, ds, ρ', Re, e, k⟩ => ?_
  unfold iZp at e
  split at e
  · rename_i rs ρ1 e1
    split at e
    · rename_i ds' es' ρ2 e2
      cases e
      refine ⟨F, ρ, _, _, Re, e1, fun vs F1 H1 X1 h1 nw => ?_⟩
      obtain ⟨F2, X2, s, _⟩ := shrs_step X1 h1 nw e2
      cases s with
      | cons s1 s2 =>
        cases s2 with
        | cons s2 s3 =>
          cases s3
          cases s1 with
          | lst hs r =>
            cases s2 with
            | lst hs' r' => exact ⟨_, _, _, _, rfl, .inl (.inl (X2.rep.le _ _ hs)), .inl (.inl (X2.rep.le _ _ hs')), k _ F2 H1 X2 (itz_ok (.inl (.inl hs)) r (.inl (.inl hs')) r')⟩
    · cases e
  · cases e
end
end
end Mi
set_option Elab.async false
set_option linter.all false
set_option maxRecDepth 100000
set_option maxHeartbeats 1000000
set_option autoImplicit false
namespace Mi
noncomputable section
open PySem PySem.Spec PyProof.Rows L2

/-! ### a comprehension -/
def wipeR (ρ : En) : List Nat → En
  | [] => ρ
  | v :: vs => (wipeR ρ vs).set v none
/-- the block's own slots as they were -/
def resto (ρ0 ρ : En) : List Nat → En
  | [] => ρ
  | v :: vs => (resto ρ0 ρ vs).set v ((ρ0[v]?).getD none)
theorem wipeR_len {ρ : En} : ∀ {vs : List Nat}, (wipeR ρ vs).length = ρ.length
  | [] => rfl
  | v :: vs => by rw [wipeR, List.length_set, wipeR_len]
theorem resto_len {ρ0 ρ : En} : ∀ {vs : List Nat}, (resto ρ0 ρ vs).length = ρ.length
  | [] => rfl
  | v :: vs => by rw [resto, List.length_set, resto_len]
theorem wipeR_out {ρ : En} {i : Nat} : ∀ {vs : List Nat}, i ∉ vs → (wipeR ρ vs)[i]? = ρ[i]?
  | [], _ => rfl
  | v :: vs, h => by
    rw [List.mem_cons, not_or] at h
    rw [wipeR, List.getElem?_set_ne (Ne.symm h.1), wipeR_out h.2]
theorem wipeR_in {ρ : En} {i : Nat} {w : W} : ∀ {vs : List Nat}, (wipeR ρ vs)[i]? = some (some w) → i ∉ vs ∧ ρ[i]? = some (some w)
  | [], h => ⟨by simp, h⟩
  | v :: vs, h => by
    rw [wipeR] at h
    rcases set_get h with ⟨_, z, _⟩ | ⟨n, h⟩
    · cases z
    · obtain ⟨h1, h2⟩ := wipeR_in h
      exact ⟨by rw [List.mem_cons, not_or]; exact ⟨Ne.symm n, h1⟩, h2⟩
theorem resto_out {ρ0 ρ : En} {i : Nat} : ∀ {vs : List Nat}, i ∉ vs → (resto ρ0 ρ vs)[i]? = ρ[i]?
  | [], _ => rfl
  | v :: vs, h => by
    rw [List.mem_cons, not_or] at h
    rw [resto, List.getElem?_set_ne (Ne.symm h.1), resto_out h.2]
theorem resto_in {ρ0 ρ : En} (hl : ρ.length = ρ0.length) {i : Nat} : ∀ {vs : List Nat}, i ∈ vs → (resto ρ0 ρ vs)[i]? = ρ0[i]?
  | [], h => by cases h
  | v :: vs, h => by
    rw [resto]
    by_cases e : v = i
    · subst e
      by_cases hv : v < ρ0.length
      · rw [List.getElem?_set_self (by rw [resto_len, hl]; exact hv), List.getElem?_eq_getElem hv]; rfl
      · rw [List.getElem?_eq_none (by rw [List.length_set, resto_len, hl]; omega), List.getElem?_eq_none (by omega)]
    · rw [List.getElem?_set_ne e]
      exact resto_in hl ((List.mem_cons.mp h).resolve_left (Ne.symm e))
theorem wipe_ne {σ : L2.St} {i : Nat} {vs : List Nat} (h : i ∉ vs) : (L2.wipe σ vs)[i]? = σ[i]? := wipe_out h
section
variable {K : PySem.W.Frag} {F H F' H' : Hp} {σ σ2 : L2.St} {ρ ρ' ρ1 : En} {vs : List Nat}
theorem wipe_own {a : Addr} (h : Own (L2.wipe σ vs) (wipeR ρ vs) a) : Own σ ρ a := by
  obtain ⟨i, p, d, h1, h2⟩ := h
  obtain ⟨n, h1⟩ := wipeR_in h1
  exact ⟨i, p, d, h1, by rw [wipe_ne n] at h2; exact h2⟩
theorem Rep.wipe (R : Rep K F H σ ρ) : Rep K F H (L2.wipe σ vs) (wipeR ρ vs) := by
  refine ⟨R.le, fun i w e => ?_, fun i j p q d e a h1 h2 h3 h4 => ?_, by rw [wipe_length, wipeR_len]; exact R.len⟩
  · obtain ⟨n, e⟩ := wipeR_in e
    obtain ⟨v, e1, h⟩ := R.at_ i w e
    exact ⟨v, by rw [wipe_ne n]; exact e1, h⟩
  · obtain ⟨n, h1⟩ := wipeR_in h1
    obtain ⟨n', h2⟩ := wipeR_in h2
    exact R.inj i j p q d e a h1 h2 (by rw [wipe_ne n] at h3; exact h3) (by rw [wipe_ne n'] at h4; exact h4)
/-- a turn's own slots are forgotten -/
theorem Ex.wipe (X : Ex K F H σ (wipeR ρ vs) F' H' σ2 ρ') : Ex K F H σ (wipeR ρ vs) F' H' (L2.wipe σ2 vs) (wipeR ρ' vs) := by
  refine ⟨X.rep.wipe, X.sub, X.frame, X.live, X.newF, fun i p d a h1 h2 => ?_, fun i w h => ?_, fun i w h p => ?_, by rw [wipeR_len]; exact X.len⟩
  · obtain ⟨n, h1⟩ := wipeR_in h1
    rw [wipe_ne n] at h2
    exact X.own i p d a h1 h2
  · obtain ⟨w', e⟩ := X.asg i w h
    exact ⟨w', by rw [wipeR_out (wipeR_in h).1]; exact e⟩
  · obtain ⟨e1, w', e2, p'⟩ := X.pin i w h p
    exact ⟨by rw [wipe_ne (wipeR_in h).1]; exact e1, w', by rw [wipeR_out (wipeR_in h).1]; exact e2, p'⟩
/-- an object that is new since is written -/
theorem Ex.upd_new (X : Ex K F H σ ρ F' H' σ2 ρ') {p : Addr} {o : HO} (n : H p = none) (f : F' p = none) (no : ¬ Own σ2 ρ' p) : Ex K F H σ ρ F' (upd H' p o) σ2 ρ' := by
  refine ⟨⟨fun a u e => ?_, fun i w e => ?_, X.rep.inj, X.rep.len⟩, X.sub, fun a u e no' => ?_, fun a u e => ?_, X.newF, X.own, X.asg, X.pin, X.len⟩
  · rw [upd_ne (fun z => by rw [z, f] at e; cases e)]; exact X.rep.le a u e
  · obtain ⟨v, e1, h⟩ := X.rep.at_ i w e
    refine ⟨v, e1, h.ex (Sub.refl _) fun a ea ho => ?_⟩
    have hw : Own σ2 ρ' a := ⟨i, w.pin, w.d, by rw [← w_eta ho]; exact e, by rw [e1, ea]⟩
    exact ⟨(X.rep.own_there hw).1, upd_ne fun z => by rw [z] at hw; exact no hw⟩
  · rw [upd_ne (fun z => by rw [z, n] at e; cases e)]; exact X.frame a u e no'
  · rw [upd_ne (fun z => by rw [z, n] at e; cases e)]; exact X.live a u e
/-- behind the block -/
theorem Ex.unwipe (R : Rep K F H σ ρ1) (X : Ex K F H (L2.wipe σ vs) (wipeR ρ1 vs) F' H' (L2.wipe σ vs) ρ') : Ex K F H σ ρ1 F' H' σ (resto ρ1 ρ' vs) := by
  have hl : ρ'.length = ρ1.length := by rw [X.len, wipeR_len]
  -- what is owned by the block's own slots
  have mine : ∀ (i : Nat) (w : W) (a : Addr), i ∈ vs → ρ1[i]? = some (some w) → w.own = true → σ[i]? = some (some (.ref a)) → F' a = none ∧ H' a = H a ∧ ¬ Own (L2.wipe σ vs) (wipeR ρ1 vs) a := fun i w a hi e ho es => by
    have e' : ρ1[i]? = some (some ⟨true, w.pin, w.d⟩) := by rw [← w_eta ho]; exact e
    have no : ¬ Own (L2.wipe σ vs) (wipeR ρ1 vs) a := fun z => by
      obtain ⟨j, p, d, h1, h2⟩ := z
      obtain ⟨n, h1⟩ := wipeR_in h1
      rw [wipe_ne n] at h2
      have := R.inj i j w.pin p w.d d a e' h1 es h2
      subst this
      exact n hi
    obtain ⟨fa, ob, eo⟩ := R.own_there (a := a) ⟨i, w.pin, w.d, e', es⟩
    refine ⟨?_, (X.frame a ob eo no).trans eo.symm, no⟩
    cases q : F' a with
    | none => rfl
    | some z =>
      rcases X.newF a z q with ⟨u, e'⟩ | e' | e'
      · rw [fa] at e'; cases e'
      · rw [eo] at e'; cases e'
      · exact absurd e' no
  have slot : ∀ (i : Nat) (w : W), (resto ρ1 ρ' vs)[i]? = some (some w) → (i ∈ vs ∧ ρ1[i]? = some (some w)) ∨ (i ∉ vs ∧ ρ'[i]? = some (some w)) := fun i w e => by
    by_cases hi : i ∈ vs
    · rw [resto_in hl hi] at e; exact .inl ⟨hi, e⟩
    · rw [resto_out hi] at e; exact .inr ⟨hi, e⟩
  -- what is owned behind it was so, or is new
  have old : ∀ (i : Nat) (p : Bool) (d : D) (a : Addr), i ∉ vs → ρ'[i]? = some (some ⟨true, p, d⟩) → σ[i]? = some (some (.ref a)) → (∃ d', ρ1[i]? = some (some ⟨true, p, d'⟩)) ∨ H a = none := fun i p d a n e es => by
    rcases X.own i p d a e (by rw [wipe_ne n]; exact es) with ⟨d', h1, _⟩ | h
    · exact .inl ⟨d', (wipeR_in h1).2⟩
    · exact .inr h
  refine ⟨⟨X.rep.le, fun i w e => ?_, fun i j p q d e a h1 h2 h3 h4 => ?_, by rw [resto_len, hl]; exact R.len⟩, X.sub, fun a o h n => X.frame a o h fun z => n (wipe_own z), X.live, fun a o h => ?_, fun i p d a h1 h2 => ?_, fun i w h => ?_, fun i w h p => ⟨rfl, ?_⟩, by rw [resto_len, hl]⟩
  · rcases slot i w e with ⟨hi, e⟩ | ⟨n, e⟩
    · obtain ⟨v, e1, h⟩ := R.at_ i w e
      exact ⟨v, e1, h.ex X.sub fun a ea ho => ⟨(mine i w a hi e ho (by rw [e1, ea])).1, (mine i w a hi e ho (by rw [e1, ea])).2.1⟩⟩
    · obtain ⟨v, e1, h⟩ := X.rep.at_ i w e
      exact ⟨v, by rw [wipe_ne n] at e1; exact e1, h⟩
  · rcases slot i _ h1 with ⟨hi, e1⟩ | ⟨ni, e1⟩
    · rcases slot j _ h2 with ⟨hj, e2⟩ | ⟨nj, e2⟩
      · exact R.inj i j p q d e a e1 e2 h3 h4
      · rcases old j q e a nj e2 h4 with ⟨d', e3⟩ | e3
        · exact R.inj i j p q d d' a e1 e3 h3 h4
        · obtain ⟨_, ob, eo⟩ := R.own_there (a := a) ⟨i, p, d, e1, h3⟩
          rw [e3] at eo; cases eo
    · rcases slot j _ h2 with ⟨hj, e2⟩ | ⟨nj, e2⟩
      · rcases old i p d a ni e1 h3 with ⟨d', e3⟩ | e3
        · exact R.inj i j p q d' e a e3 e2 h3 h4
        · obtain ⟨_, ob, eo⟩ := R.own_there (a := a) ⟨j, q, e, e2, h4⟩
          rw [e3] at eo; cases eo
      · exact X.rep.inj i j p q d e a e1 e2 (by rw [wipe_ne ni]; exact h3) (by rw [wipe_ne nj]; exact h4)
  · rcases X.newF a o h with z | z | z
    · exact .inl z
    · exact .inr (.inl z)
    · exact .inr (.inr (wipe_own z))
  · rcases slot i _ h1 with ⟨hi, e1⟩ | ⟨ni, e1⟩
    · exact .inl ⟨d, e1, h2⟩
    · rcases old i p d a ni e1 h2 with ⟨d', e3⟩ | e3
      · exact .inl ⟨d', e3, h2⟩
      · exact .inr e3
  · by_cases hi : i ∈ vs
    · exact ⟨w, by rw [resto_in hl hi]; exact h⟩
    · obtain ⟨w', e⟩ := X.asg i w (by rw [wipeR_out hi]; exact h)
      exact ⟨w', by rw [resto_out hi]; exact e⟩
  · by_cases hi : i ∈ vs
    · exact ⟨w, by rw [resto_in hl hi]; exact h, p⟩
    · obtain ⟨_, w', e, p'⟩ := X.pin i w (by rw [wipeR_out hi]; exact h) p
      exact ⟨w', by rw [resto_out hi]; exact e, p'⟩
end
theorem wipe_set {σ : L2.St} {i : Nat} {x : Option V} : ∀ {vs : List Nat}, i ∈ vs → L2.wipe (σ.set i x) vs = L2.wipe σ vs
  | [], h => by cases h
  | v :: vs, h => by
    rw [L2.wipe, L2.wipe]
    by_cases hi : i ∈ vs
    · rw [wipe_set hi]
    · have : i = v := (List.mem_cons.mp h).resolve_right hi
      subst this
      apply List.ext_getElem?
      intro j
      by_cases hj : i = j
      · subst hj
        by_cases hl : i < σ.length
        · rw [List.getElem?_set_self (by rw [wipe_length]; simpa using hl), List.getElem?_set_self (by rw [wipe_length]; exact hl)]
        · rw [List.getElem?_eq_none (by rw [List.length_set, wipe_length, List.length_set]; omega), List.getElem?_eq_none (by rw [List.length_set, wipe_length]; omega)]
      · rw [List.getElem?_set_ne hj, List.getElem?_set_ne hj]
        by_cases hjv : j ∈ vs
        · -- both wiped at j
          have both : ∀ {τ : L2.St} {us : List Nat}, j ∈ us → (L2.wipe τ us)[j]? = if j < τ.length then some none else none := by
            intro τ us
            induction us with
            | nil => intro h; cases h
            | cons u us ih =>
              intro h
              rw [L2.wipe]
              by_cases hu : u = j
              · subst hu
                rw [List.getElem?_set]
                rw [if_pos rfl, wipe_length]
              · rw [List.getElem?_set_ne hu]
                exact ih ((List.mem_cons.mp h).resolve_left (Ne.symm hu))
          rw [both hjv, both hjv, List.length_set]
        · rw [wipe_ne hjv, wipe_ne hjv, List.getElem?_set_ne hj]
theorem wipe_setVs {vs : List Nat} : ∀ {is : List Nat} {us : List V} {σ : L2.St}, (∀ i ∈ is, i ∈ vs) → L2.wipe (setVs is us σ) vs = L2.wipe σ vs
  | [], us, σ, _ => by simp [setVs]
  | i :: is, [], σ, _ => by simp [setVs]
  | i :: is, u :: us, σ, h => by
    rw [setVs, wipe_setVs (is := is) fun j hj => h j (List.mem_cons_of_mem _ hj), wipe_set (h i List.mem_cons_self)]
theorem wipe_wipe {σ : L2.St} {vs : List Nat} : L2.wipe (L2.wipe σ vs) vs = L2.wipe σ vs := by
  have key : ∀ (us : List Nat), (∀ u ∈ us, u ∈ vs) → L2.wipe (L2.wipe σ us) vs = L2.wipe σ vs := by
    intro us
    induction us with
    | nil => intro _; rfl
    | cons u us ih =>
      intro h
      rw [show L2.wipe σ (u :: us) = (L2.wipe σ us).set u none from rfl, wipe_set (h u List.mem_cons_self)]
      exact ih fun x hx => h x (List.mem_cons_of_mem _ hx)
  exact key vs fun _ h => h

def lcL (tg : D → En → Option En) (tt : MT) (te : ME) (vs : List Nat) : List D → List D → En → Option (List D × En)
  | [], acc, ρ => some (acc, ρ)
  | d :: ds, acc, ρ => match tg d ρ with
    | some ρ1 => match tt ρ1 with
      | some (true, ρ2) => match te ρ2 with
        | some (r, ρ3) => match shr ρ3 r with
          | some (y, ρ4) => if acc.length < sizeLine then lcL tg tt te vs ds (acc ++ [y]) (wipeR ρ4 vs) else none
          | none => none
        | none => none
      | some (false, ρ2) => lcL tg tt te vs ds acc (wipeR ρ2 vs)
      | none => none
    | none => none
def mLc (mi : MI) (tg : D → En → Option En) (tt : MT) (te : ME) (vs : List Nat) : ME := fun ρ => match mi ρ with
  | some (ds, ρ1) => match lcL tg tt te vs ds [] (wipeR ρ1 vs) with
    | some (acc, ρ2) => some (.ow (.lst acc), resto ρ1 ρ2 vs)
    | none => none
  | none => none
theorem lc_core' {K : PySem.W.Frag} {is vs : List Nat} {g : TG} {tg : D → En → Option En} {tt : MT} {te : ME} (hg : TgOk K is g tg) (hv : ∀ i ∈ is, i ∈ vs) {σ : L2.St} {H F F1 H1 : Hp} {ρ ρ1 ρE : En} {ds accE : List D} {J : It} {Q : VK} (X1 : Ex K F H σ ρ F1 H1 σ ρ1) (it : ItOK K J F1 H1 ds) (e2 : lcL tg tt te vs ds [] (wipeR ρ1 vs) = some (accE, ρE))
    (k : ∀ v F' H', Ex K F H σ ρ F' H' σ (resto ρ1 ρE vs) → HR K F' H' σ (resto ρ1 ρE vs) v (.ow (.lst accE)) → Nw H v (.ow (.lst accE)) → Q v H') (D : Addr) (hD : H1 D = none) :
    ∃ W : Nat → Nat → Hp → Prop, (∃ m, W 0 m (upd H1 D (.lst []))) ∧ ∀ i m H, W i m H → (J.stop i H ∧ Q (.ref D) H) ∨ (J.go i H ∧ ∃ Nx : Hp → Prop, (∀ H', Nx H' → ∃ m', m' < m ∧ W (i + 1) m' H') ∧ ∀ x H', J.yld i H x H' → g x (L2.wipe σ vs) H' fun σ2 H2 => L2.wipe σ2 vs = L2.wipe σ vs ∧ tMT K tt σ2 H2 fun b H3 =>
      if b = true then tM K te σ2 H3 fun y H4 => ∃ acc, H4 D = some (.lst acc) ∧ acc.length < sizeLine ∧ Nx (upd H4 D (.lst (acc ++ [y]))) else Nx H3) := by
  have R1 := X1.rep
  have Rw : Rep K F1 H1 (L2.wipe σ vs) (wipeR ρ1 vs) := R1.wipe
  have fD : F1 D = none := R1.le.none hD
  refine ⟨fun i m H' => ∃ F' ρ' acc us, Ex K F1 H1 (L2.wipe σ vs) (wipeR ρ1 vs) F' H' (L2.wipe σ vs) ρ' ∧ lcL tg tt te vs (ds.drop i) acc ρ' = some (accE, ρE) ∧ i + m = ds.length ∧ H' D = some (.lst us) ∧ Shs K F' us acc ∧ F' D = none ∧ ¬ Own (L2.wipe σ vs) ρ' D,
    ⟨ds.length, F1, wipeR ρ1 vs, [], [], ?_, by simpa using e2, by omega, upd_same, .nil, fD, fun o => ?_⟩, ?_⟩
  · exact (Ex.refl Rw).upd_new hD fD fun o => by
      obtain ⟨_, ob, eo⟩ := Rw.own_there o
      rw [hD] at eo; cases eo
  · obtain ⟨_, ob, eo⟩ := Rw.own_there o
    rw [hD] at eo; cases eo
  rintro i m H2 ⟨F2, ρ2, acc, us, X2, e3, hm, eD, sD, f2, no2⟩
  have kept := X2.kept Rw
  by_cases hi : i < ds.length
  · have hd : ds[i]? = some ds[i] := List.getElem?_eq_getElem hi
    obtain ⟨hgo, hy⟩ := it.go i F2 H2 ds[i] X2.sub X2.rep.le kept hd
    rw [List.drop_eq_getElem_cons hi] at e3
    unfold lcL at e3
    split at e3
    · rename_i ρ3 e4
      -- a turn: what stays of the list
      have pre : ∀ x H', J.yld i H2 x H' → ∀ (Q' : L2.St → Hp → Prop), (∀ F3 σ3, Ex K F2 H2 (L2.wipe σ vs) ρ2 F3 H' σ3 ρ3 → L2.wipe σ3 vs = L2.wipe σ vs → Q' σ3 H') → g x (L2.wipe σ vs) H' Q' := fun x H' y Q' hQ => by
        obtain ⟨F3, gr, sh⟩ := hy x H' y
        have X3 := Gr.ex X2.rep gr
        exact hg F2 H2 (L2.wipe σ vs) ρ2 F3 H' (L2.wipe σ vs) ρ2 x ds[i] ρ3 Q' X3 sh e4 fun σ' us hs _ X4 => hQ F3 σ' X4 (by rw [hs, wipe_setVs hv, wipe_wipe])
      -- D is kept by what the turn does
      have keepD : ∀ {F' H' : Hp} {σ' : L2.St} {ρ' : En}, Ex K F2 H2 (L2.wipe σ vs) ρ2 F' H' σ' ρ' → H' D = some (.lst us) ∧ Shs K F' us acc ∧ F' D = none ∧ ¬ Own σ' ρ' D := fun {F' H' σ' ρ'} X' => by
        refine ⟨X'.frame D _ eD no2, sD.sub X'.sub, ?_, fun z => ?_⟩
        · cases q : F' D with
          | none => rfl
          | some z =>
            rcases X'.newF D z q with ⟨u, e'⟩ | e' | e'
            · rw [f2] at e'; cases e'
            · rw [eD] at e'; cases e'
            · exact absurd e' no2
        · rcases X'.ownd z with z | z
          · exact no2 z
          · rw [eD] at z; cases z
      split at e3
      · rename_i ρ4 e5
        split at e3
        · rename_i r ρ5 e6
          split at e3
          · rename_i y ρ6 e7
            split at e3
            · rename_i hz
              refine .inr ⟨hgo, fun H' => ∃ F' us', Ex K F1 H1 (L2.wipe σ vs) (wipeR ρ1 vs) F' H' (L2.wipe σ vs) (wipeR ρ6 vs) ∧ H' D = some (.lst us') ∧ Shs K F' us' (acc ++ [y]) ∧ F' D = none ∧ ¬ Own (L2.wipe σ vs) (wipeR ρ6 vs) D,
                fun H' ⟨F', us', X', q1, q2, q3, q4⟩ => ⟨m - 1, by omega, F', wipeR ρ6 vs, acc ++ [y], us', X', e3, by omega, q1, q2, q3, q4⟩, fun x H' hy' => pre x H' hy' _ fun F3 σ3 X3 hw => ⟨hw, F3, ρ3, _, _, X3.rep, e5, fun F4 H4 X4 => iteT ?_⟩⟩
              refine ⟨F4, ρ4, _, _, X4.rep, e6, fun v F5 H5 X5 h5 nw => ?_⟩
              obtain ⟨F6, X6, s6, sb6, _⟩ := Rv.shr_step X5 h5 nw e7
              have X26 := (X3.trans X4).trans X6
              obtain ⟨d1, d2, d3, d4⟩ := keepD X26
              refine ⟨us, d1, by rw [sD.length]; exact hz, F6, us ++ [v], ?_, upd_same, d2.append (.one s6), d3, fun z => ?_⟩
              · have := ((X2.trans X26).upd_new (p := D) (o := .lst (us ++ [v])) hD d3 d4).wipe (vs := vs)
                rw [hw] at this
                exact this
              · rw [← hw] at z
                exact d4 (wipe_own z)
            · cases e3
          · cases e3
        · cases e3
      · rename_i ρ4 e5
        refine .inr ⟨hgo, fun H' => ∃ F', Ex K F1 H1 (L2.wipe σ vs) (wipeR ρ1 vs) F' H' (L2.wipe σ vs) (wipeR ρ4 vs) ∧ H' D = some (.lst us) ∧ Shs K F' us acc ∧ F' D = none ∧ ¬ Own (L2.wipe σ vs) (wipeR ρ4 vs) D,
          fun H' ⟨F', X', q1, q2, q3, q4⟩ => ⟨m - 1, by omega, F', wipeR ρ4 vs, acc, us, X', e3, by omega, q1, q2, q3, q4⟩, fun x H' hy' => pre x H' hy' _ fun F3 σ3 X3 hw => ⟨hw, F3, ρ3, _, _, X3.rep, e5, fun F4 H4 X4 => iteF ?_⟩⟩
        have X24 := X3.trans X4
        obtain ⟨d1, d2, d3, d4⟩ := keepD X24
        have := (X2.trans X24).wipe (vs := vs)
        rw [hw] at this
        exact ⟨F4, this, d1, d2, d3, fun z => by rw [← hw] at z; exact d4 (wipe_own z)⟩
      · cases e3
    · cases e3
  · rw [List.drop_eq_nil_of_le (by omega)] at e3
    cases e3
    refine .inl ⟨it.stop i F2 H2 X2.sub X2.rep.le kept (by omega), ?_⟩
    have X3 := Ex.unwipe R1 X2
    have nw : H D = none := X1.none_back hD
    refine k _ F2 H2 (X1.trans X3) ⟨D, rfl, f2, ⟨us, eD, sD⟩, fun z => ?_⟩ ⟨D, rfl, nw⟩
    obtain ⟨j, p, d, q1, q2⟩ := z
    rcases X3.own j p d D q1 q2 with ⟨d', q3, q4⟩ | _
    · obtain ⟨_, ob, eo⟩ := R1.own_there ⟨j, p, d', q3, q4⟩
      rw [hD] at eo; cases eo
    · by_cases hj : j ∈ vs
      · rw [resto_in (by rw [X2.len, wipeR_len]) hj] at q1
        obtain ⟨_, ob, eo⟩ := R1.own_there ⟨j, p, d, q1, q2⟩
        rw [hD] at eo; cases eo
      · rw [resto_out hj] at q1
        exact no2 ⟨j, p, d, q1, by rw [wipe_ne hj]; exact q2⟩
theorem lc_use {K : PySem.W.Frag} {mi : MI} {is vs : List Nat} {g : TG} {tg : D → En → Option En} {tt : MT} {te : ME} (hg : TgOk K is g tg) (hv : ∀ i ∈ is, i ∈ vs) {σ : L2.St} {H : Hp} {Q : VK} {F ρ z ρe} (R : Rep K F H σ ρ) (e : mLc mi tg tt te vs ρ = some (z, ρe))
    (k : ∀ v F' H', Ex K F H σ ρ F' H' σ ρe → HR K F' H' σ ρe v z → Nw H v z → Q v H') : tLc (tMI K mi) g (tMT K tt) (tM K te) vs σ H Q := by
  unfold mLc at e
  split at e
  · rename_i ds ρ1 e1
    split at e
    · rename_i accE ρE e2
      cases e
      exact ⟨F, ρ, ds, ρ1, R, e1, fun J F1 H1 X1 it D hD => lc_core' hg hv X1 it e2 k D hD⟩
    · cases e
  · cases e
section
variable {X : Cx} {elt tg iter : Expr} {ifs : List Expr} {scope : Scope} {own : List (Str × Nat)} {pos : Pos} {mi : MI} {is : List Nat} {g : TG} {mt : D → En → Option En} {tt : MT} {te : ME}
abbrev TVs (X : Cx) (es : List Expr) (m : MT) : Prop := PTs X es (tMT X.K m)
def mYes : MT := fun ρ => some (true, ρ)
theorem tvs_nil : TVs X [] mYes := ⟨fun pins s σ H Q I ⟨F, ρ, b, ρ', R, e, k⟩ => by
  cases e
  exact pts_nil.run pins s σ H Q I (k F H (Ex.refl R))⟩
theorem tvs_one {c : Expr} {t : MT} (h : TV X c t) : TVs X [c] t := pts_one h
theorem ev_lc (hc : X.calm = true) (hN : X.N.Nodup) (okt : TgOk X.K is g mt) (hv : ∀ i ∈ is, i ∈ own.map (·.2)) (hi : IV X tg iter mi) (ok : BlkOk X.N X.env.scope scope own)
    (hg : ∀ (s : Shared) (H : Hp) (C : Addr) (cl : List (Str × Addr)) (fp : List Addr), PG (X.blk s H scope (compEnvC scope cl C X.env) fp) tg g) (ht : ∀ (s : Shared) (H : Hp) (C : Addr) (cl : List (Str × Addr)) (fp : List Addr), TVs (X.blk s H scope (compEnvC scope cl C X.env) fp) ifs tt)
    (he : ∀ (s : Shared) (H : Hp) (C : Addr) (cl : List (Str × Addr)) (fp : List Addr), EV (X.blk s H scope (compEnvC scope cl C X.env) fp) elt te) (hs : ∀ x, foldedSetIterable iter X.env x = pure x := by intro _; rfl) :
    EV X (.ListComp elt [⟨tg, iter, ifs, 0⟩] scope pos) (mLc mi mt tt te (own.map (·.2))) :=
  ev_of (pe_lc hc hN hi ok hg ht he hs) fun σ H Q F ρ r ρ' R e k => lc_use okt hv R e k
theorem sv_setLc {i : Nat} {y : Str} {py spos : Pos} (hc : X.calm = true) (hN : X.N.Nodup) (okt : TgOk X.K is g mt) (hv : ∀ i ∈ is, i ∈ own.map (·.2)) (hi : IV X tg iter mi) (ok : BlkOk X.N X.env.scope scope own)
    (hg : ∀ (s : Shared) (H : Hp) (C : Addr) (cl : List (Str × Addr)) (fp : List Addr), PG (X.blk s H scope (compEnvC scope cl C X.env) fp) tg g) (ht : ∀ (s : Shared) (H : Hp) (C : Addr) (cl : List (Str × Addr)) (fp : List Addr), TVs (X.blk s H scope (compEnvC scope cl C X.env) fp) ifs tt)
    (he : ∀ (s : Shared) (H : Hp) (C : Addr) (cl : List (Str × Addr)) (fp : List Addr), EV (X.blk s H scope (compEnvC scope cl C X.env) fp) elt te)
    (hsw : swapsWith (.ListComp elt [⟨tg, iter, ifs, 0⟩] scope pos) (some (.Name y py)) spos.line X.env = pure true) (hy : X.N[i]? = some y := by rfl) (hyl : X.env.scope.names.lookup y = some .local := by rfl) (hs : ∀ x, foldedSetIterable iter X.env x = pure x := by intro _; rfl) :
    SV X (.Assign [.Name y py] (.ListComp elt [⟨tg, iter, ifs, 0⟩] scope pos) spos) (mSet i (mLc mi mt tt te (own.map (·.2)))) :=
  sv_of (ps_setLc hc hN hy hyl hsw hi ok hg ht he hs) fun E σ H h => asg_use (fun σ H Q F ρ r ρ' R e k => lc_use okt hv R e k) h
end
end
end Mi
set_option Elab.async false
set_option linter.all false
set_option maxRecDepth 100000
set_option maxHeartbeats 1000000
set_option autoImplicit false
namespace Mi
noncomputable section
open PySem PySem.Spec PyProof.Rows L2

/-! ### what a rule of values is, as data -/
theorem Ok2.or {K : PySem.W.Frag} {r r' : R2} {f f' : D → D → Option Rs} (h : Ok2 K r f) (h' : Ok2 K r' f') : Ok2 K (fun x y H Q => r x y H Q ∨ r' x y H Q) (fun d e => match f d e with
    | some z => some z
    | none => f' d e) := fun F H x y d e z Q l b1 b2 q k => by
  dsimp only at q
  split at q
  · rename_i z' e1
    cases q
    exact .inl (h F H x y d e z Q l b1 b2 e1 k)
  · exact .inr (h' F H x y d e z Q l b1 b2 q k)
theorem OkC.or {K : PySem.W.Frag} {r r' : List V → Hp → VK → Prop} {f f' : List D → Option Rs} (h : OkC K r f) (h' : OkC K r' f') : OkC K (fun x H Q => r x H Q ∨ r' x H Q) (fun d => match f d with
    | some z => some z
    | none => f' d) := fun F H x d z Q l b1 q k => by
  dsimp only at q
  split at q
  · rename_i z' e1
    cases q
    exact .inl (h F H x d z Q l b1 e1 k)
  · exact .inr (h' F H x d z Q l b1 q k)
/-- f where it tells as g does -/
theorem Ok2.of {K : PySem.W.Frag} {r : R2} {f g : D → D → Option Rs} (h : Ok2 K r f) (e : ∀ d d' z, g d d' = some z → f d d' = some z) : Ok2 K r g := fun F H x y d e' z Q l b1 b2 q k => h F H x y d e' z Q l b1 b2 (e d e' z q) k
theorem OkC.of {K : PySem.W.Frag} {r : List V → Hp → VK → Prop} {f g : List D → Option Rs} (h : OkC K r f) (e : ∀ d z, g d = some z → f d = some z) : OkC K r g := fun F H x d z Q l b1 q k => h F H x d z Q l b1 (e d z q) k
section
variable {K : PySem.W.Frag}
theorem ok_sc {F H : Hp} {v : V} {d : D} {Q : VK} (l : Le F H) (s : ∀ F, Sh K F v d) (k : ∀ v F' H', Gr F H F' H' → HN K H F' H' v (.sh d) → Q v H') : Q v H := k v F H (Gr.refl l) (s F)
/-- ints -/
theorem ok_ii {C : Int → Int → Prop} {g : Int → Int → V} {gd : Int → Int → D} {f : D → D → Option Rs} (hf : ∀ d e z, f d e = some z → ∃ i j, d = .int i ∧ e = .int j ∧ C i j ∧ z = .sh (gd i j)) (hg : ∀ i j F, Sh K F (g i j) (gd i j)) : Ok2 K (rI C g) f :=
  fun F H x y d e z Q l b1 b2 q k => by
    obtain ⟨i, j, rfl, rfl, c, rfl⟩ := hf d e z q
    exact ⟨i, j, b1.int, b2.int, c, ok_sc l (hg i j) k⟩
theorem ok_ii0 {g : Int → Int → V} {gd : Int → Int → D} {f : D → D → Option Rs} (hf : ∀ d e z, f d e = some z → ∃ i j, d = .int i ∧ e = .int j ∧ z = .sh (gd i j)) (hg : ∀ i j F, Sh K F (g i j) (gd i j)) : Ok2 K (rI0 g) f :=
  fun F H x y d e z Q l b1 b2 q k => by
    obtain ⟨i, j, rfl, rfl, rfl⟩ := hf d e z q
    exact ⟨i, j, b1.int, b2.int, ok_sc l (hg i j) k⟩
end
/-! ### + -/
def addI : D → D → Option Rs
  | .int a, .int b => some (.sh (.int (a + b)))
  | _, _ => none
def addS : D → D → Option Rs
  | .str a, .str b => if a.length + b.length ≤ sizeLine then some (.sh (.str (a ++ b))) else none
  | _, _ => none
def addL : D → D → Option Rs
  | .lst a, .lst b => if a.length + b.length ≤ sizeLine then some (.ow (.lst (a ++ b))) else none
  | _, _ => none
def addT : D → D → Option Rs
  | .tup a, .tup b => if a.length + b.length ≤ sizeLine then some (.sh (.tup (a ++ b))) else none
  | _, _ => none
def addD : D → D → Option Rs
  | .int a, .int b => some (.sh (.int (a + b)))
  | .str a, .str b => if a.length + b.length ≤ sizeLine then some (.sh (.str (a ++ b))) else none
  | .lst a, .lst b => if a.length + b.length ≤ sizeLine then some (.ow (.lst (a ++ b))) else none
  | .tup a, .tup b => if a.length + b.length ≤ sizeLine then some (.sh (.tup (a ++ b))) else none
  | _, _ => none
section
variable {X : Cx} {K : PySem.W.Frag}
theorem ok_addI : Ok2 K (rI0 fun i j => .int (i + j)) addI := ok_ii0 (gd := fun i j => .int (i + j)) (fun d e z q => by
  unfold addI at q
  split at q
  · cases q; exact ⟨_, _, rfl, rfl, rfl⟩
  · cases q) fun i j F => .int _
theorem ok_addS : Ok2 K (fun x y H Q => ∃ i j, x = .str i ∧ y = .str j ∧ i.length + j.length ≤ sizeLine ∧ Q (.str (i ++ j)) H) addS := fun F H x y d e z Q l b1 b2 q k => by
  unfold addS at q
  split at q
  · split at q
    · rename_i hz
      cases q
      exact ⟨_, _, b1.str, b2.str, hz, ok_sc l (fun F => .str _) k⟩
    · cases q
  · cases q
/-- a new list -/
theorem new_lst {F H : Hp} {Q : VK} {vs : List V} {ds : List D} (l : Le F H) (r : Shs K F vs ds) (k : ∀ v F' H', Gr F H F' H' → HN K H F' H' v (.ow (.lst ds)) → Q v H') : ∀ p, H p = none → Q (.ref p) (upd H p (.lst vs)) := fun p hp =>
  k _ F _ (Gr.new_own l hp) ⟨p, rfl, hp, l.none hp, vs, upd_same, r⟩
theorem new_tup {F H : Hp} {Q : VK} {vs : List V} {ds : List D} (l : Le F H) (r : Shs K F vs ds) (k : ∀ v F' H', Gr F H F' H' → HN K H F' H' v (.sh (.tup ds)) → Q v H') : ∀ p, H p = none → Q (.ref p) (upd H p (.tup vs)) := fun p hp =>
  k _ _ _ (Gr.new_sh l hp) (.tup (.inl upd_same) (r.sub (le_upd (l.none hp)).sub))
theorem ok_addL : Ok2 K rCat addL := fun F H x y d e z Q l b1 b2 q k => by
  unfold addL at q
  split at q
  · split at q
    · rename_i hz
      cases q
      obtain ⟨a, vs, e1, h1, r1⟩ := b1.lis l
      obtain ⟨b, us, e2, h2, r2⟩ := b2.lis l
      exact ⟨a, b, vs, us, e1, e2, h1, h2, by rw [r1.length, r2.length]; exact hz, new_lst l (r1.append r2) k⟩
    · cases q
  · cases q
theorem Shs.nil_iff {F : Hp} {vs : List V} {ds : List D} (r : Shs K F vs ds) : vs = [] ↔ ds = [] := by
  cases r <;> simp
theorem ok_addT : Ok2 K (rCatA K) addT := fun F H x y d e z Q l b1 b2 q k => by
  unfold addT at q
  split at q
  · split at q
    · rename_i xs ys hz
      cases q
      obtain ⟨a, vs, e1, s1, h1, r1⟩ := b1.tupl l
      obtain ⟨b, us, e2, s2, h2, r2⟩ := b2.tupl l
      refine ⟨a, b, vs, us, e1, e2, h1, h2, by rw [r1.length, r2.length]; exact hz, fun e => ?_, fun _ e => ?_, fun _ _ => new_tup l (r1.append r2) k⟩
      · have := r1.nil_iff.mp e
        subst this
        exact k _ F H (Gr.refl l) (.tup s2 r2)
      · have := r2.nil_iff.mp e
        subst this
        exact k _ F H (Gr.refl l) (by rw [List.append_nil]; exact .tup s1 r1)
    · cases q
  · cases q
theorem addD_eq (d e : D) : addD d e = match addI d e with
    | some z => some z
    | none => match addS d e with
      | some z => some z
      | none => match addL d e with
        | some z => some z
        | none => addT d e := by
  cases d <;> cases e <;> simp [addD, addI, addS, addL, addT] <;> split <;> simp_all
theorem ev_add {a b : Expr} {m n : ME} {pos : Pos} (ha : EV X a m) (hb : EV X b n) : EV X (.BinOp a .Add b pos) (m2 addD m n) :=
  ev_op (OpR.or op_add (OpR.or op_add_str (OpR.or op_cat op_catA))) (Ok2.of (Ok2.or ok_addI (Ok2.or ok_addS (Ok2.or ok_addL ok_addT))) fun d e z q => by rw [addD_eq] at q; exact q) ha hb
end

/-! ### other arithmetic -/
def subD : D → D → Option Rs
  | .int a, .int b => some (.sh (.int (a - b)))
  | _, _ => none
def small (i : Int) : Bool := decide (big (-(2 ^ 64) < i ∧ i < 2 ^ 64))
def mulI : D → D → Option Rs
  | .int a, .int b => if small a || small b then some (.sh (.int (a * b))) else none
  | _, _ => none
def modD : D → D → Option Rs
  | .int a, .int b => if 0 < b then some (.sh (.int (a % b))) else none
  | _, _ => none
def divD : D → D → Option Rs
  | .int a, .int b => if big (0 < b ∧ b < 18446744073709551616) then some (.sh (.int (a / b))) else none
  | _, _ => none
def powD : D → D → Option Rs
  | .int a, .int b => if big (0 ≤ b ∧ b ≤ 1000000 ∧ a.natAbs < 2 ^ 64) then some (.sh (.int (a ^ b.toNat))) else none
  | _, _ => none
def strRep (x : Str) (n : Int) : Str := ⟨(List.replicate n.toNat x.cps.toList).flatten.toArray⟩
def mulS : D → D → Option Rs
  | .str x, .int n => if big (-(2 ^ 63) ≤ n ∧ n < 2 ^ 31 ∧ x.length < 2 ^ 31 ∧ x.length * n.toNat ≤ sizeLine) then some (.sh (.str (strRep x n))) else none
  | _, _ => none
def mulL : D → D → Option Rs
  | .lst x, .int n => if big (-(2 ^ 63) ≤ n ∧ n < 2 ^ 63 ∧ x.length * n.toNat ≤ sizeLine) then some (.ow (.lst (List.replicate n.toNat x).flatten)) else none
  | _, _ => none
def mulD : D → D → Option Rs
  | .int a, .int b => if small a || small b then some (.sh (.int (a * b))) else none
  | .str x, .int n => if big (-(2 ^ 63) ≤ n ∧ n < 2 ^ 31 ∧ x.length < 2 ^ 31 ∧ x.length * n.toNat ≤ sizeLine) then some (.sh (.str (strRep x n))) else none
  | .lst x, .int n => if big (-(2 ^ 63) ≤ n ∧ n < 2 ^ 63 ∧ x.length * n.toNat ≤ sizeLine) then some (.ow (.lst (List.replicate n.toNat x).flatten)) else none
  | _, _ => none
section
variable {X : Cx} {K : PySem.W.Frag} {a b : Expr} {m n : ME} {pos : Pos}
theorem ok_sub : Ok2 K (rI0 fun i j => .int (i - j)) subD := ok_ii0 (gd := fun i j => .int (i - j)) (fun d e z q => by
  unfold subD at q
  split at q
  · cases q; exact ⟨_, _, rfl, rfl, rfl⟩
  · cases q) fun i j F => .int _
theorem ok_mul : Ok2 K (rI CMul fun i j => .int (i * j)) mulI := ok_ii (gd := fun i j => .int (i * j)) (fun d e z q => by
  unfold mulI at q
  split at q
  · split at q
    · rename_i h
      cases q
      refine ⟨_, _, rfl, rfl, ?_, rfl⟩
      simp only [small, Bool.or_eq_true, decide_eq_true_eq] at h
      exact h
    · cases q
  · cases q) fun i j F => .int _
theorem ok_mod : Ok2 K (rI (fun _ j => 0 < j) fun i j => .int (i % j)) modD := ok_ii (gd := fun i j => .int (i % j)) (fun d e z q => by
  unfold modD at q
  split at q
  · split at q
    · rename_i h; cases q; exact ⟨_, _, rfl, rfl, h, rfl⟩
    · cases q
  · cases q) fun i j F => .int _
theorem ok_div : Ok2 K (rI CDivW fun i j => .int (i / j)) divD := ok_ii (gd := fun i j => .int (i / j)) (fun d e z q => by
  unfold divD at q
  split at q
  · split at q
    · rename_i h; cases q; unfold big at h; exact ⟨_, _, rfl, rfl, ⟨h.1, Nat.lt_of_lt_of_le ((Nat.log2_lt (by omega)).mpr (show _ < 2 ^ 64 by omega)) (by decide)⟩, rfl⟩
    · cases q
  · cases q) fun i j F => .int _
theorem ok_pow : Ok2 K (rI CPow fun i j => .int (i ^ j.toNat)) powD := ok_ii (gd := fun i j => .int (i ^ j.toNat)) (fun d e z q => by
  unfold powD at q
  split at q
  · split at q
    · rename_i h; cases q; exact ⟨_, _, rfl, rfl, h, rfl⟩
    · cases q
  · cases q) fun i j F => .int _
theorem ev_sub (ha : EV X a m) (hb : EV X b n) : EV X (.BinOp a .Sub b pos) (m2 subD m n) := ev_op op_sub ok_sub ha hb
theorem ev_mod (ha : EV X a m) (hb : EV X b n) : EV X (.BinOp a .Mod b pos) (m2 modD m n) := ev_op op_mod ok_mod ha hb
theorem ev_div (ha : EV X a m) (hb : EV X b n) : EV X (.BinOp a .FloorDiv b pos) (m2 divD m n) := ev_op op_fdivW ok_div ha hb
theorem ev_pow (ha : EV X a m) (hb : EV X b n) : EV X (.BinOp a .Pow b pos) (m2 powD m n) := ev_op op_pow ok_pow ha hb
theorem rep_fold (x : Array Nat) : ∀ (n : Nat) (acc : Array Nat), (List.replicate n x).foldl (· ++ ·) acc = acc ++ (List.replicate n x.toList).flatten.toArray
  | 0, acc => by simp
  | n + 1, acc => by
    rw [List.replicate_succ, List.foldl_cons, rep_fold x n, List.replicate_succ, List.flatten_cons]
    apply Array.toList_inj.mp
    simp
theorem rep_len {α : Type} (l : List α) : ∀ n : Nat, (List.replicate n l).flatten.length = n * l.length
  | 0 => by simp
  | n + 1 => by
    rw [List.replicate_succ, List.flatten_cons, List.length_append, rep_len l n, Nat.succ_mul]
    omega
def rRepS : R2 := fun x y H Q => ∃ (z : Str) (k : Int), x = .str z ∧ y = .int k ∧ -(2 ^ 63) ≤ k ∧ k < 2 ^ 31 ∧ z.length < 2 ^ 31 ∧ z.length * k.toNat ≤ sizeLine ∧ Q (.str (strRep z k)) H
theorem op_repS : OpR X (binaryOp .Mult) rRepS := by
  intro pins s σ H x y v u Q I rx ry h
  obtain ⟨z, k, rfl, rfl, h1, h2, h4, h3, q⟩ := h
  obtain ⟨t, rfl⟩ := rx
  obtain ⟨t', rfl⟩ := ry
  refine PySem.P.mul_str ?_ ?_ ?_ ?_
  · simp only [Bool.or_eq_false_iff, decide_eq_false_iff_not]
    omega
  · intro g1 g2 g3
    have hk : (0 : Int) < k := by omega
    have : (z.length : Int) * k ≤ 2 ^ 63 - 1 := by
      have a1 : (z.length : Int) < 2 ^ 31 := by omega
      have a2 : (z.length : Int) * k ≤ 2 ^ 31 * 2 ^ 31 := Int.mul_le_mul (by omega) (by omega) (by omega) (by omega)
      omega
    have := (Int.le_ediv_iff_mul_le hk).mpr this
    omega
  · intro _ _
    simp only [Builtin.Str.tooLong, decide_eq_false_iff_not]
    omega
  · by_cases g1 : k < 1
    · rw [if_pos g1]
      have e : strRep z k = Str.empty := by
        unfold strRep
        rw [show k.toNat = 0 by omega]
        rfl
      rw [e] at q
      exact ⟨by decide, .str Str.empty, H, I.tok _, ⟨_, rfl⟩, q⟩
    · rw [if_neg g1]
      by_cases g2 : (k == 1 || z.length == 0) = true
      · rw [if_pos g2]
        have e : strRep z k = z := by
          unfold strRep
          simp only [Bool.or_eq_true, beq_iff_eq] at g2
          rcases g2 with g2 | g2
          · subst g2
            simp
          · have : z.cps.toList = [] := by
              have : z.cps.size = 0 := g2
              simpa using this
            rw [this]
            have e2 : (List.replicate k.toNat ([] : List Nat)).flatten = [] := by simp
            rw [e2]
            exact Str.ext' (Array.toList_inj.mp this.symm)
        rw [e] at q
        exact ⟨.str z, H, I, ⟨_, rfl⟩, q⟩
      · rw [if_neg g2]
        have e : strRep z k = ⟨(List.replicate k.toNat z.cps).foldl (· ++ ·) #[]⟩ := by
          rw [rep_fold]
          simp [strRep]
        have hz : (strRep z k).length ≤ sizeLine := by
          show (List.replicate k.toNat z.cps.toList).flatten.toArray.size ≤ sizeLine
          rw [List.size_toArray, rep_len, show z.cps.toList.length = z.length by simp [Str.length], Nat.mul_comm]
          exact h3
        rw [e] at q hz
        exact ⟨hz, .str _, H, I.tok _, ⟨_, rfl⟩, q⟩
theorem ok_mulS : Ok2 K rRepS mulS := fun F H x y d e z Q l b1 b2 q k => by
  unfold mulS at q
  split at q
  · split at q
    · rename_i h
      cases q
      exact ⟨_, _, b1.str, b2.int, h.1, h.2.1, h.2.2.1, h.2.2.2, ok_sc l (fun F => .str _) k⟩
    · cases q
  · cases q
theorem Shs.rep {F : Hp} {vs : List V} {ds : List D} (r : Shs K F vs ds) : ∀ n : Nat, Shs K F (List.replicate n vs).flatten (List.replicate n ds).flatten
  | 0 => by simpa using Shs.nil
  | n + 1 => by
    rw [List.replicate_succ, List.flatten_cons, List.replicate_succ, List.flatten_cons]
    exact r.append (Shs.rep r n)
theorem ok_mulL : Ok2 K rRep mulL := fun F H x y d e z Q l b1 b2 q k => by
  unfold mulL at q
  split at q
  · split at q
    · rename_i h
      cases q
      obtain ⟨a, vs, e1, h1, r1⟩ := b1.lis l
      exact ⟨a, _, vs, e1, b2.int, h1, h.1, h.2.1, by rw [r1.length]; exact h.2.2, new_lst l (r1.rep _) k⟩
    · cases q
  · cases q
theorem mulD_eq (d e : D) : mulD d e = match mulI d e with
    | some z => some z
    | none => match mulS d e with
      | some z => some z
      | none => mulL d e := by
  cases d <;> cases e <;> simp [mulD, mulI, mulS, mulL] <;> split <;> simp_all
theorem ev_mul (ha : EV X a m) (hb : EV X b n) : EV X (.BinOp a .Mult b pos) (m2 mulD m n) :=
  ev_op (OpR.or op_mul (OpR.or op_repS op_rep)) (Ok2.of (Ok2.or ok_mul (Ok2.or ok_mulS ok_mulL)) fun d e z q => by rw [mulD_eq] at q; exact q) ha hb
def negD : D → Option Rs
  | .int a => some (.sh (.int (-a)))
  | _ => none
theorem ev_neg (ha : EV X a m) : EV X (.UnaryOp .USub a pos) (mU negD m) := ev_un un_neg (fun F H x d z Q l b q k => by
  unfold negD at q
  split at q
  · cases q; exact ⟨_, b.int, ok_sc l (fun F => .int _) k⟩
  · cases q) ha
end

/-! ### comparisons -/
/-- code points in order -/
def ltS (a b : Str) : Bool := decide (a.cps.toList < b.cps.toList)
def ltI : D → D → Option Rs
  | .int a, .int b => some (.sh (.bl (decide (a < b))))
  | _, _ => none
def ltSD : D → D → Option Rs
  | .str a, .str b => some (.sh (.bl (ltS a b)))
  | _, _ => none
def ltD : D → D → Option Rs
  | .int a, .int b => some (.sh (.bl (decide (a < b))))
  | .str a, .str b => some (.sh (.bl (ltS a b)))
  | _, _ => none
def leD : D → D → Option Rs
  | .int a, .int b => some (.sh (.bl (decide (a ≤ b))))
  | _, _ => none
def gtD : D → D → Option Rs
  | .int a, .int b => some (.sh (.bl (decide (b < a))))
  | _, _ => none
def geD : D → D → Option Rs
  | .int a, .int b => some (.sh (.bl (decide (b ≤ a))))
  | _, _ => none
section
variable {X : Cx} {K : PySem.W.Frag}
theorem ok_ltI : Ok2 K (rI0 fun i j => .bl (decide (i < j))) ltI := ok_ii0 (gd := fun i j => .bl (decide (i < j))) (fun d e z q => by
  unfold ltI at q
  split at q
  · cases q; exact ⟨_, _, rfl, rfl, rfl⟩
  · cases q) fun i j F => .bl _
theorem ok_ltS : Ok2 K (fun x y H Q => ∃ i j, x = .str i ∧ y = .str j ∧ Q (.bl (decide (i.cps.toList < j.cps.toList))) H) ltSD := fun F H x y d e z Q l b1 b2 q k => by
  unfold ltSD at q
  split at q
  · cases q
    exact ⟨_, _, b1.str, b2.str, ok_sc l (fun F => .bl _) k⟩
  · cases q
theorem ok_lt : Ok2 K (fun x y H Q => rI0 (fun i j => .bl (decide (i < j))) x y H Q ∨ ∃ i j, x = .str i ∧ y = .str j ∧ Q (.bl (decide (i.cps.toList < j.cps.toList))) H) ltD :=
  Ok2.of (Ok2.or ok_ltI ok_ltS) fun d e z q => by
    cases d <;> cases e <;> simp [ltD, ltI, ltSD] at q ⊢ <;> exact q
theorem ok_le : Ok2 K (rI0 fun i j => .bl (decide (i ≤ j))) leD := ok_ii0 (gd := fun i j => .bl (decide (i ≤ j))) (fun d e z q => by
  unfold leD at q
  split at q
  · cases q; exact ⟨_, _, rfl, rfl, rfl⟩
  · cases q) fun i j F => .bl _
theorem ok_gt : Ok2 K (rI0 fun i j => .bl (decide (j < i))) gtD := ok_ii0 (gd := fun i j => .bl (decide (j < i))) (fun d e z q => by
  unfold gtD at q
  split at q
  · cases q; exact ⟨_, _, rfl, rfl, rfl⟩
  · cases q) fun i j F => .bl _
theorem ok_ge : Ok2 K (rI0 fun i j => .bl (decide (j ≤ i))) geD := ok_ii0 (gd := fun i j => .bl (decide (j ≤ i))) (fun d e z q => by
  unfold geD at q
  split at q
  · cases q; exact ⟨_, _, rfl, rfl, rfl⟩
  · cases q) fun i j F => .bl _
theorem op_ltA : OpR X (compareOp .Lt) (fun x y H Q => rI0 (fun i j => .bl (decide (i < j))) x y H Q ∨ ∃ i j, x = .str i ∧ y = .str j ∧ Q (.bl (decide (i.cps.toList < j.cps.toList))) H) := OpR.or op_lt op_lt_str
/-- is None -/
def isND : D → D → Option Rs
  | .non, .non => some (.sh (.bl true))
  | _, .non => some (.sh (.bl false))
  | _, _ => none
def notND : D → D → Option Rs
  | .non, .non => some (.sh (.bl false))
  | _, .non => some (.sh (.bl true))
  | _, _ => none
theorem Bo.ne_non {F H : Hp} {v : V} {d : D} (h : Bo K F H v d) (n : d ≠ .non) : v ≠ .non := by
  rcases h with h | ⟨a, e, _⟩
  · cases h <;> first | exact absurd rfl n | exact fun z => nomatch z
  · rw [e]; exact fun z => nomatch z
theorem ok_isN : Ok2 K (fun x y H Q => y = .non ∧ Q (.bl (decide (x = .non))) H) isND := fun F H x y d e z Q l b1 b2 q k => by
  unfold isND at q
  split at q
  · cases q
    rw [b1.non]
    exact ⟨b2.non, ok_sc l (fun F => .bl _) k⟩
  · rename_i hn
    cases q
    rw [decide_eq_false (b1.ne_non hn)]
    exact ⟨b2.non, ok_sc l (fun F => .bl _) k⟩
  · cases q
theorem ok_notN : Ok2 K (fun x y H Q => y = .non ∧ Q (.bl (!decide (x = .non))) H) notND := fun F H x y d e z Q l b1 b2 q k => by
  unfold notND at q
  split at q
  · cases q
    rw [b1.non]
    exact ⟨b2.non, ok_sc l (fun F => .bl _) k⟩
  · rename_i hn
    cases q
    rw [decide_eq_false (b1.ne_non hn)]
    exact ⟨b2.non, ok_sc l (fun F => .bl _) k⟩
  · cases q
end
end
end Mi
set_option Elab.async false
set_option linter.all false
set_option maxRecDepth 100000
set_option maxHeartbeats 1000000
set_option autoImplicit false
namespace Mi
noncomputable section
open PySem PySem.Spec PyProof.Rows L2

/-! ### ==, != -/
mutual
def toP : D → Option PyData
  | .non => some .none
  | .bl b => some (.bool b)
  | .int i => some (.int i)
  | .str x => some (.str x)
  | .lst ds => (toPs ds).map .list
  | .frl ds => (toPs ds).map .list
  | .tup ds => (toPs ds).map .tuple
  | _ => none
def toPs : List D → Option (List PyData)
  | [] => some []
  | d :: ds => match toP d, toPs ds with
    | some p, some ps => some (p :: ps)
    | _, _ => none
end
mutual
theorem Sh.dp {K : PySem.W.Frag} {F H : Hp} (l : Le F H) : ∀ {v : V} {d : D} {p : PyData}, Sh K F v d → toP d = some p → Dp K H v p
  | _, _, _, .non, e => by cases e; exact .non
  | _, _, _, .bl b, e => by cases e; exact .bl b
  | _, _, _, .int b, e => by cases e; exact .int b
  | _, _, _, .str b, e => by cases e; exact .str b
  | _, _, _, .ty b, e => by cases e
  | _, _, _, .dic h r, e => by cases e
  | _, _, _, .tup h r, e => by
    simp only [toP, Option.map_eq_some_iff] at e
    obtain ⟨ps, e1, rfl⟩ := e
    exact .tup (sqT_sub l.sub h.sq) (Shs.dp l r e1)
  | _, _, _, .lst h r, e => by
    simp only [toP, Option.map_eq_some_iff] at e
    obtain ⟨ps, e1, rfl⟩ := e
    exact .lst (.inl (.inl (l _ _ h))) (Shs.dp l r e1)
  | _, _, _, .frl h r, e => by
    simp only [toP, Option.map_eq_some_iff] at e
    obtain ⟨ps, e1, rfl⟩ := e
    exact .lst (sqL_sub l.sub h) (Shs.dp l r e1)
theorem Shs.dp {K : PySem.W.Frag} {F H : Hp} (l : Le F H) : ∀ {vs : List V} {ds : List D} {ps : List PyData}, Shs K F vs ds → toPs ds = some ps → DpAll K H vs ps
  | _, _, _, .nil, e => by cases e; exact .nil
  | _, _, _, .cons h r, e => by
    simp only [toPs] at e
    split at e
    · rename_i p ps e1 e2
      cases e
      exact .cons (Sh.dp l h e1) (Shs.dp l r e2)
    · cases e
end
theorem Bo.dp {K : PySem.W.Frag} {F H : Hp} {v : V} {d : D} {p : PyData} (l : Le F H) (h : Bo K F H v d) (e : toP d = some p) : Dp K H v p := by
  rcases h with h | ⟨a, ea, n, o⟩
  · exact Sh.dp l h e
  · cases d with
    | lst ds =>
      obtain ⟨vs, q, r⟩ := o
      simp only [toP, Option.map_eq_some_iff] at e
      obtain ⟨ps, e1, rfl⟩ := e
      rw [ea]
      exact .lst (.inl (.inl q)) (Shs.dp l r e1)
    | dic _ => cases e
    | _ => exact o.elim
def scD : D → D → Option Bool
  | .int a, .int b => some (decide (a = b))
  | .str a, .str b => some (decide (a = b))
  | .bl a, .bl b => some (decide (a = b))
  | .non, .non => some true
  | .non, .int _ => some false
  | .int _, .non => some false
  | .non, .bl _ => some false
  | .bl _, .non => some false
  | .non, .str _ => some false
  | .str _, .non => some false
  | .int _, .str _ => some false
  | .str _, .int _ => some false
  | .bl _, .str _ => some false
  | .str _, .bl _ => some false
  | _, _ => none
def eqP (d e : D) : Option Bool := match toP d, toP e with
  | some p, some q => if SeqAt.shaped p && SeqAt.shaped q then some (PyData.eqv p q) else none
  | _, _ => none
def eqB (d e : D) : Option Bool := match scD d e with
  | some b => some b
  | none => eqP d e
def eqD (d e : D) : Option Rs := (eqB d e).map fun b => .sh (.bl b)
def neD (d e : D) : Option Rs := (eqB d e).map fun b => .sh (.bl (!b))
section
variable {X : Cx} {K : PySem.W.Frag}
theorem scD_ok {F H : Hp} {x y : V} {d e : D} {b : Bool} (b1 : Bo K F H x d) (b2 : Bo K F H y e) (q : scD d e = some b) : scal x y = true ∧ decide (x = y) = b := by
  unfold scD at q
  split at q <;> first
    | (cases q; rw [b1.int, b2.int]; exact ⟨rfl, by simp⟩)
    | (cases q; rw [b1.str, b2.str]; exact ⟨rfl, by simp⟩)
    | (cases q; rw [b1.bl, b2.bl]; exact ⟨rfl, by simp⟩)
    | (cases q; rw [b1.non, b2.non]; exact ⟨rfl, by simp⟩)
    | (cases q; rw [b1.non, b2.int]; exact ⟨rfl, by simp⟩)
    | (cases q; rw [b1.int, b2.non]; exact ⟨rfl, by simp⟩)
    | (cases q; rw [b1.non, b2.bl]; exact ⟨rfl, by simp⟩)
    | (cases q; rw [b1.bl, b2.non]; exact ⟨rfl, by simp⟩)
    | (cases q; rw [b1.non, b2.str]; exact ⟨rfl, by simp⟩)
    | (cases q; rw [b1.str, b2.non]; exact ⟨rfl, by simp⟩)
    | (cases q; rw [b1.int, b2.str]; exact ⟨rfl, by simp⟩)
    | (cases q; rw [b1.str, b2.int]; exact ⟨rfl, by simp⟩)
    | (cases q; rw [b1.bl, b2.str]; exact ⟨rfl, by simp⟩)
    | (cases q; rw [b1.str, b2.bl]; exact ⟨rfl, by simp⟩)
    | cases q
theorem eqP_ok {F H : Hp} {x y : V} {d e : D} {b : Bool} (l : Le F H) (b1 : Bo K F H x d) (b2 : Bo K F H y e) (q : eqP d e = some b) : ∃ p p', Dp K H x p ∧ Dp K H y p' ∧ SeqAt.shaped p = true ∧ SeqAt.shaped p' = true ∧ PyData.eqv p p' = b := by
  unfold eqP at q
  split at q
  · rename_i p p' e1 e2
    split at q
    · rename_i h
      cases q
      simp only [Bool.and_eq_true] at h
      exact ⟨p, p', b1.dp l e1, b2.dp l e2, h.1, h.2, rfl⟩
    · cases q
  · cases q
theorem ok_eq : Ok2 K (fun x y H Q => rEq x y H Q ∨ rEqD K x y H Q) eqD := fun F H x y d e z Q l b1 b2 q k => by
  simp only [eqD, Option.map_eq_some_iff] at q
  obtain ⟨b, q, rfl⟩ := q
  unfold eqB at q
  split at q
  · rename_i b' e1
    cases q
    obtain ⟨h1, h2⟩ := scD_ok b1 b2 e1
    refine .inl ⟨h1, ?_⟩
    rw [h2]
    exact ok_sc l (fun F => .bl _) k
  · obtain ⟨p, p', h1, h2, h3, h4, h5⟩ := eqP_ok l b1 b2 q
    refine .inr ⟨p, p', h1, h2, h3, h4, ?_⟩
    rw [h5]
    exact ok_sc l (fun F => .bl _) k
theorem ok_ne : Ok2 K (fun x y H Q => rNe x y H Q ∨ rNeD K x y H Q) neD := fun F H x y d e z Q l b1 b2 q k => by
  simp only [neD, Option.map_eq_some_iff] at q
  obtain ⟨b, q, rfl⟩ := q
  unfold eqB at q
  split at q
  · rename_i b' e1
    cases q
    obtain ⟨h1, h2⟩ := scD_ok b1 b2 e1
    refine .inl ⟨h1, ?_⟩
    rw [h2]
    exact ok_sc l (fun F => .bl _) k
  · obtain ⟨p, p', h1, h2, h3, h4, h5⟩ := eqP_ok l b1 b2 q
    refine .inr ⟨p, p', h1, h2, h3, h4, ?_⟩
    rw [h5]
    exact ok_sc l (fun F => .bl _) k
theorem op_eqA {k : Nat} (hr : Rm k X.A) : OpR X (compareOp .Eq) (fun x y H Q => rEq x y H Q ∨ rEqD X.K x y H Q) := OpR.or op_eq (op_eqD hr.room.units)
theorem op_neA {k : Nat} (hr : Rm k X.A) : OpR X (compareOp .NotEq) (fun x y H Q => rNe x y H Q ∨ rNeD X.K x y H Q) := OpR.or op_ne (op_neD hr.room.units)

/-! ### in, not in -/
def vOf : D → V
  | .bl b => .bl b
  | .int i => .int i
  | .str x => .str x
  | _ => .non
def flatD : D → Bool
  | .non => true
  | .bl _ => true
  | .int _ => true
  | .str _ => true
  | _ => false
theorem Sh.flat {F : Hp} {v : V} {d : D} (h : Sh K F v d) (f : flatD d = true) : v = vOf d ∧ flatV v = true := by
  cases h <;> first | exact ⟨rfl, rfl⟩ | cases f
theorem Bo.flat {F H : Hp} {v : V} {d : D} (h : Bo K F H v d) (f : flatD d = true) : v = vOf d ∧ flatV v = true := by
  rcases h with h | ⟨a, _, _, o⟩
  · exact h.flat f
  · cases d <;> first | exact o.elim | cases f
theorem Shs.flat {F : Hp} : ∀ {vs : List V} {ds : List D}, Shs K F vs ds → ds.all flatD = true → vs = ds.map vOf ∧ vs.all flatV = true
  | _, _, .nil, _ => ⟨rfl, rfl⟩
  | _, _, .cons h r, f => by
    simp only [List.all_cons, Bool.and_eq_true] at f
    obtain ⟨e1, e2⟩ := h.flat f.1
    obtain ⟨e3, e4⟩ := Shs.flat r f.2
    exact ⟨by rw [e1, e3]; rfl, by simp [e2, e4]⟩
/-- a key -/
def keyD : D → Option Key
  | .int i => some (.inl i)
  | .str x => some (.inr x)
  | _ => none
def valD (kvs : List (Key × D)) (k : Key) : Option D := (kvs.find? fun kv => decide (kv.1 = k)).map (·.2)
theorem Bo.key {F H : Hp} {v : V} {d : D} {k : Key} (h : Bo K F H v d) (e : keyD d = some k) : v = kV k := by
  unfold keyD at e
  split at e
  · cases e; exact h.int
  · cases e; exact h.str
  · cases e
theorem Shk.val {F : Hp} {k : Key} : ∀ {vs : List (Key × V)} {ds : List (Key × D)}, Shk K F vs ds → (∀ d, valD ds k = some d → ∃ v, valV vs k = some v ∧ Sh K F v d) ∧ (valD ds k = none → valV vs k = none)
  | _, _, .nil => ⟨fun d e => by simp [valD] at e, fun _ => rfl⟩
  | _, _, .cons (k := k') (v := v') (d := d') (vs := vs) (ds := ds) h r => by
    obtain ⟨g1, g2⟩ := Shk.val (k := k) r
    by_cases hk : k' = k
    · subst hk
      constructor
      · intro d e
        have : d = d' := by simpa [valD] using e.symm
        subst this
        exact ⟨v', by simp [valV], h⟩
      · intro e
        simp [valD] at e
    · constructor
      · intro d e
        obtain ⟨v, e1, e2⟩ := g1 d (by simpa [valD, List.find?_cons, hk] using e)
        exact ⟨v, by rw [valV_neg (by exact hk)]; exact e1, e2⟩
      · intro e
        rw [valV_neg (by exact hk)]
        exact g2 (by simpa [valD, List.find?_cons, hk] using e)
def inB : D → D → Option Bool
  | d, .lst ds => if flatD d && ds.all flatD then some (inV (vOf d) (ds.map vOf)) else none
  | d, .frl ds => if flatD d && ds.all flatD then some (inV (vOf d) (ds.map vOf)) else none
  | d, .tup ds => if flatD d && ds.all flatD then some (inV (vOf d) (ds.map vOf)) else none
  | .str x, .str y => some (!(Builtin.Str.occurrences y x 0 y.length 1).isEmpty)
  | d, .dic kvs => match keyD d with
    | some k => some (valD kvs k).isSome
    | none => none
  | _, _ => none
/-- a sequence, by data -/
def inP (d : D) : D → Option Bool
  | .lst ds => match toP d, toPs ds with
    | some p, some ps => if SeqAt.shaped p && SeqAt.shaped (.list ps) then some (ps.any fun z => PyData.eqv z p) else none
    | _, _ => none
  | _ => none
def inA (d e : D) : Option Bool := match inB d e with
  | some b => some b
  | none => inP d e
def inD (d e : D) : Option Rs := (inA d e).map fun b => .sh (.bl b)
def notInD (d e : D) : Option Rs := (inA d e).map fun b => .sh (.bl (!b))
def rDIn (neg : Bool) : R2 := fun x y H Q => ∃ a o, y = .ref a ∧ DGet H a x o ∧ Q (.bl (if neg then !o.isSome else o.isSome)) H
theorem op_din {k : Nat} (hr : Rm k X.A) : OpR X (compareOp .In) (rDIn false) := by
  intro pins s σ H x y v u Q I rx ry h
  obtain ⟨a, o, rfl, g, q⟩ := h
  cases ry
  exact d_in (hu_of hr.room) I g rx fun s' I' => ⟨.bl _, H, I', rfl, q⟩
theorem op_dnotIn {k : Nat} (hr : Rm k X.A) : OpR X (compareOp .NotIn) (rDIn true) := by
  intro pins s σ H x y v u Q I rx ry h
  obtain ⟨a, o, rfl, g, q⟩ := h
  cases ry
  exact d_notIn (hu_of hr.room) I g rx fun s' I' => ⟨.bl _, H, I', rfl, q⟩
def rInA (K : PySem.W.Frag) : R2 := fun x y H Q => (rIn K false x y H Q ∨ (∃ i j, x = .str i ∧ y = .str j ∧ Q (.bl (!(Builtin.Str.occurrences j i 0 j.length 1).isEmpty)) H) ∨ rDIn false x y H Q) ∨ rInD K x y H Q
def rNotInA (K : PySem.W.Frag) : R2 := fun x y H Q => (rIn K true x y H Q ∨ (∃ i j, x = .str i ∧ y = .str j ∧ Q (.bl (!(!(Builtin.Str.occurrences j i 0 j.length 1).isEmpty))) H) ∨ rDIn true x y H Q) ∨ rNotInD K x y H Q
theorem op_inA {k : Nat} (hr : Rm k X.A) : OpR X (compareOp .In) (rInA X.K) := OpR.or (OpR.or op_in_seq (OpR.or op_in_str (op_din hr))) (op_inD (by have := hr.room.un; omega))
theorem op_notInA {k : Nat} (hr : Rm k X.A) : OpR X (compareOp .NotIn) (rNotInA X.K) := OpR.or (OpR.or op_notIn_seq (OpR.or op_notin_str (op_dnotIn hr))) (op_notInD (by have := hr.room.un; omega))
theorem inB_ok {F H : Hp} {x y : V} {d e : D} {b : Bool} {Q : V → Prop} (l : Le F H) (b1 : Bo K F H x d) (b2 : Bo K F H y e) (q : inB d e = some b) :
    (∃ p xs, y = .ref p ∧ (SqL K H p xs ∨ SqT K H p xs) ∧ flatV x = true ∧ xs.all flatV = true ∧ inV x xs = b) ∨ (∃ i j, x = .str i ∧ y = .str j ∧ (!(Builtin.Str.occurrences j i 0 j.length 1).isEmpty) = b) ∨ ∃ a o, y = .ref a ∧ DGet H a x o ∧ o.isSome = b := by
  unfold inB at q
  split at q
  · split at q
    · rename_i h
      cases q
      simp only [Bool.and_eq_true] at h
      obtain ⟨a, vs, e1, h1, r⟩ := b2.list l
      obtain ⟨e2, f2⟩ := b1.flat h.1
      obtain ⟨e3, f3⟩ := r.flat h.2
      exact .inl ⟨a, vs, e1, .inl h1, f2, f3, by rw [e2, e3]⟩
    · cases q
  · split at q
    · rename_i h
      cases q
      simp only [Bool.and_eq_true] at h
      obtain ⟨a, vs, e1, h1, r⟩ := b2.frl l
      obtain ⟨e2, f2⟩ := b1.flat h.1
      obtain ⟨e3, f3⟩ := r.flat h.2
      exact .inl ⟨a, vs, e1, .inl h1, f2, f3, by rw [e2, e3]⟩
    · cases q
  · split at q
    · rename_i h
      cases q
      simp only [Bool.and_eq_true] at h
      obtain ⟨a, vs, e1, _, h1, r⟩ := b2.tupl l
      obtain ⟨e2, f2⟩ := b1.flat h.1
      obtain ⟨e3, f3⟩ := r.flat h.2
      exact .inl ⟨a, vs, e1, .inr h1, f2, f3, by rw [e2, e3]⟩
    · cases q
  · cases q
    exact .inr (.inl ⟨_, _, b1.str, b2.str, rfl⟩)
  · split at q
    · rename_i k e1
      cases q
      obtain ⟨a, vs, e2, h1, r⟩ := b2.dict l
      refine .inr (.inr ⟨a, _, e2, .inl ⟨vs, k, h1, b1.key e1, rfl⟩, ?_⟩)
      obtain ⟨g1, g2⟩ := Shk.val (k := k) r
      cases q : valD _ k with
      | none => rw [g2 q]; rfl
      | some d' => obtain ⟨v, e3, _⟩ := g1 d' q; rw [e3]; rfl
    · cases q
  · cases q
theorem inP_ok {F H : Hp} {x y : V} {d e : D} {b : Bool} (l : Le F H) (b1 : Bo K F H x d) (b2 : Bo K F H y e) (q : inP d e = some b) : ∃ p ps, Dp K H x p ∧ Dp K H y (.list ps) ∧ SeqAt.shaped p = true ∧ SeqAt.shaped (.list ps) = true ∧ (ps.any fun z => PyData.eqv z p) = b := by
  unfold inP at q
  split at q
  · rename_i ds
    split at q
    · rename_i p ps e1 e2
      split at q
      · rename_i h
        cases q
        simp only [Bool.and_eq_true] at h
        exact ⟨p, ps, b1.dp l e1, b2.dp l (by simp [toP, e2]), h.1, h.2, rfl⟩
      · cases q
    · cases q
  · cases q
theorem ok_in : Ok2 K (rInA K) inD := fun F H x y d e z Q l b1 b2 q k => by
  simp only [inD, Option.map_eq_some_iff] at q
  obtain ⟨b, q, rfl⟩ := q
  have hq : Q (.bl b) H := ok_sc l (fun F => .bl _) k
  unfold inA at q
  split at q
  · rename_i b' e1
    cases q
    refine .inl ?_
    rcases inB_ok (Q := fun _ => True) l b1 b2 e1 with ⟨p, xs, h1, h2, h3, h4, h5⟩ | ⟨i, j, h1, h2, h3⟩ | ⟨a, o, h1, h2, h3⟩
    · exact .inl ⟨p, xs, h1, h2, h3, h4, by rw [if_neg (by simp), h5]; exact hq⟩
    · exact .inr (.inl ⟨i, j, h1, h2, by rw [h3]; exact hq⟩)
    · exact .inr (.inr ⟨a, o, h1, h2, by rw [if_neg (by simp), h3]; exact hq⟩)
  · obtain ⟨p, ps, h1, h2, h3, h4, h5⟩ := inP_ok l b1 b2 q
    exact .inr ⟨p, ps, h1, h2, h3, h4, by rw [h5]; exact hq⟩
theorem ok_notIn : Ok2 K (rNotInA K) notInD := fun F H x y d e z Q l b1 b2 q k => by
  simp only [notInD, Option.map_eq_some_iff] at q
  obtain ⟨b, q, rfl⟩ := q
  have hq : Q (.bl (!b)) H := ok_sc l (fun F => .bl _) k
  unfold inA at q
  split at q
  · rename_i b' e1
    cases q
    refine .inl ?_
    rcases inB_ok (Q := fun _ => True) l b1 b2 e1 with ⟨p, xs, h1, h2, h3, h4, h5⟩ | ⟨i, j, h1, h2, h3⟩ | ⟨a, o, h1, h2, h3⟩
    · exact .inl ⟨p, xs, h1, h2, h3, h4, by rw [if_pos rfl, h5]; exact hq⟩
    · exact .inr (.inl ⟨i, j, h1, h2, by rw [h3]; exact hq⟩)
    · exact .inr (.inr ⟨a, o, h1, h2, by rw [if_pos rfl, h3]; exact hq⟩)
  · obtain ⟨p, ps, h1, h2, h3, h4, h5⟩ := inP_ok l b1 b2 q
    exact .inr ⟨p, ps, h1, h2, h3, h4, by rw [h5]; exact hq⟩
end

/-! ### x[i] -/
def ixD : D → D → Option Rs
  | .lst ds, .int i => (atI ds i).map .sh
  | .frl ds, .int i => (atI ds i).map .sh
  | .tup ds, .int i => (atI ds i).map .sh
  | .str z, .int i => if z.length ≤ sizeLine then (atI z.cps.toList i).map fun c => .sh (.str ⟨#[c]⟩) else none
  | .dic kvs, e => match keyD e with
    | some k => (valD kvs k).map .sh
    | none => none
  | _, _ => none
section
variable {X : Cx} {K : PySem.W.Frag}
theorem Shs.atI {F : Hp} {vs : List V} {ds : List D} (r : Shs K F vs ds) {i : Int} {d : D} (e : atI ds i = some d) : ∃ v, L2.atI vs i = some v ∧ Sh K F v d := by
  unfold L2.atI at e ⊢
  rw [r.length]
  cases q : ixN ds.length i with
  | none => rw [q] at e; cases e
  | some j =>
    rw [q] at e
    obtain ⟨v, e1, h⟩ := r.get (i := j) e
    exact ⟨v, e1, h⟩
def rDGet : R2 := fun x y H Q => ∃ a v, x = .ref a ∧ DGet H a y (some v) ∧ Q v H
theorem PE.or {e : Expr} {t u : TE} (h : PE X e t) (h' : PE X e u) : PE X e (fun σ H Q => t σ H Q ∨ u σ H Q) := ⟨fun pins s σ H Q I hw => hw.elim (h.run pins s σ H Q I) (h'.run pins s σ H Q I)⟩
def ixS : D → D → Option Rs
  | .dic _, _ => none
  | d, e => ixD d e
def ixK : D → D → Option Rs
  | .dic kvs, e => ixD (.dic kvs) e
  | _, _ => none
theorem ok_ixS : Ok2 K (rIx K) ixS := fun F H x y d e z Q l b1 b2 q k => by
  unfold ixS at q
  split at q
  · cases q
  · unfold ixD at q
    split at q
    · simp only [Option.map_eq_some_iff] at q
      obtain ⟨d', q, rfl⟩ := q
      obtain ⟨a, vs, e1, h1, r⟩ := b1.list l
      obtain ⟨v, e2, h2⟩ := r.atI q
      exact .inl ⟨a, vs, _, v, e1, b2.int, h1, e2, k v F H (Gr.refl l) h2⟩
    · simp only [Option.map_eq_some_iff] at q
      obtain ⟨d', q, rfl⟩ := q
      obtain ⟨a, vs, e1, h1, r⟩ := b1.frl l
      obtain ⟨v, e2, h2⟩ := r.atI q
      exact .inl ⟨a, vs, _, v, e1, b2.int, h1, e2, k v F H (Gr.refl l) h2⟩
    · simp only [Option.map_eq_some_iff] at q
      obtain ⟨d', q, rfl⟩ := q
      obtain ⟨a, vs, e1, _, h1, r⟩ := b1.tupl l
      obtain ⟨v, e2, h2⟩ := r.atI q
      exact .inr (.inl ⟨a, vs, _, v, e1, b2.int, h1, e2, k v F H (Gr.refl l) h2⟩)
    · split at q
      · rename_i hz
        simp only [Option.map_eq_some_iff] at q
        obtain ⟨c, q, rfl⟩ := q
        exact .inr (.inr ⟨_, _, c, b1.str, b2.int, hz, q, ok_sc l (fun F => .str _) k⟩)
      · cases q
    · first
      | (exfalso; simp_all; done)
      | (trace_state; cases q)
    · cases q
theorem ok_ixK : Ok2 K rDGet ixK := fun F H x y d e z Q l b1 b2 q k => by
  unfold ixK at q
  split at q
  · simp only [ixD] at q
    split at q
    · rename_i kk e1
      simp only [Option.map_eq_some_iff] at q
      obtain ⟨d', q, rfl⟩ := q
      obtain ⟨a, vs, e2, h1, r⟩ := b1.dict l
      obtain ⟨v, e3, h3⟩ := (Shk.val (k := kk) r).1 d' q
      exact ⟨a, v, e2, .inl ⟨vs, kk, h1, b2.key e1, e3.symm⟩, k v F H (Gr.refl l) h3⟩
    · cases q
  · cases q
theorem m2_or {f f1 f2 : D → D → Option Rs} (h : ∀ d e z, f d e = some z → f1 d e = some z ∨ f2 d e = some z) {m n : ME} {ρ ρ' : En} {r : Rv} (e : m2 f m n ρ = some (r, ρ')) : m2 f1 m n ρ = some (r, ρ') ∨ m2 f2 m n ρ = some (r, ρ') := by
  unfold m2 at e ⊢
  split at e
  · rename_i r1 ρ1 e1
    split at e
    · rename_i r2 ρ2 e2
      split at e
      · rename_i d e3
        split at e
        · rename_i d' e4
          split at e
          · rename_i z e5
            cases e
            rcases h d d' z e5 with q | q
            · left; simp only [q]
            · right; simp only [q]
          · cases e
        · cases e
      · cases e
    · cases e
  · cases e
theorem ev_sub_ix {a b : Expr} {m n : ME} {pos : Pos} {k : Nat} (hr : Rm k X.A) (ha : EV X a m) (hb : EV X b n) (hs : PlainIx b := by exact fun _ _ => rfl) : EV X (.Subscript a b pos) (m2 ixD m n) := by
  refine ev_of (PE.or (pe_ix ix_seq ha hb hs) (pe_dget (hu_of hr.room) ha hb hs)) fun σ H Q F ρ r ρ' R e k => ?_
  rcases m2_or (f1 := ixS) (f2 := ixK) (fun d e z q => by cases d <;> first | exact .inl q | exact .inr q) e with e | e
  · exact .inl (use2 ok_ixS R e k)
  · exact .inr (use2 ok_ixK R e k)
end

/-! ### x[a:b] -/
abbrev MO := En → Option (Option Int × En)
def tMO (K : PySem.W.Frag) (m : MO) : TO := fun σ H Q => ∃ F ρ o ρ', Rep K F H σ ρ ∧ m ρ = some (o, ρ') ∧ ∀ F' H', Ex K F H σ ρ F' H' σ ρ' → Q o H'
abbrev OV (X : Cx) (e : Option Expr) (m : MO) : Prop := PO X e (tMO X.K m)
def oNo : MO := fun ρ => some (none, ρ)
def oSo (m : ME) : MO := fun ρ => match m ρ with
  | some (.sh (.int i), ρ1) => some (some i, ρ1)
  | _ => none
def cutA {α : Type} (xs : List α) (lo hi : Option Int) : List α := (xs.drop (HT.sIx xs.length 0 lo)).take (HT.sIx xs.length xs.length hi - HT.sIx xs.length 0 lo)
def slD : D → Option Int → Option Int → Option Rs
  | .lst ds, lo, hi => some (.ow (.lst (cutA ds lo hi)))
  | .frl ds, lo, hi => some (.ow (.lst (cutA ds lo hi)))
  | .str z, lo, hi => if z.length ≤ sizeLine then some (.sh (.str (cutS z lo hi))) else none
  | .tup ds, lo, hi => if HT.sIx ds.length 0 lo = 0 ∧ HT.sIx ds.length ds.length hi = ds.length then none else some (.sh (.tup (cutA ds lo hi)))
  | _, _, _ => none
def mSl (m : ME) (lo hi : MO) : ME := fun ρ => match m ρ with
  | some (r, ρ1) => match lo ρ1 with
    | some (a, ρ2) => match hi ρ2 with
      | some (b, ρ3) => match peek ρ3 r with
        | some d => match slD d a b with
          | some z => some (z.rv, ρ3)
          | none => none
        | none => none
      | none => none
    | none => none
  | none => none
section
variable {X : Cx} {K : PySem.W.Frag}
theorem ov_none : OV X none oNo := ⟨fun σ H Q s I I' ⟨F, ρ, o, ρ', R, e, k⟩ => by
  cases e
  exact po_none.run _ _ _ _ _ (by assumption) (k F _ (Ex.refl R))⟩
theorem ov_some {e : Expr} {m : ME} (h : EV X e m) : OV X (some e) (oSo m) := ⟨fun pins s σ H Q I ⟨F, ρ, o, ρ', R, e, k⟩ => by
  refine (po_some h).run pins s σ H Q I ?_
  unfold oSo at e
  split at e
  · rename_i i ρ1 e1
    cases e
    exact ⟨F, ρ, _, _, R, e1, fun v F1 H1 X1 h1 _ => ⟨i, (by cases (show Sh X.K F1 v (.int i) from h1); rfl), k F1 H1 X1⟩⟩
  · cases e⟩
theorem Shs.cut {F : Hp} {vs : List V} {ds : List D} (r : Shs K F vs ds) (lo hi : Option Int) : Shs K F (cutV vs lo hi) (cutA ds lo hi) := by
  unfold cutV cutA
  rw [r.length]
  exact (r.drop _).take _
def rSlA (K : PySem.W.Frag) : V → Option Int → Option Int → Hp → VK → Prop := fun x lo hi H Q => rSlL K x lo hi H Q ∨ rSlS x lo hi H Q ∨ rSlT K x lo hi H Q
theorem slD_ok {F H : Hp} {x : V} {d : D} {lo hi : Option Int} {z : Rs} {Q : VK} (l : Le F H) (b : Bo K F H x d) (q : slD d lo hi = some z) (k : ∀ v F' H', Gr F H F' H' → HN K H F' H' v z → Q v H') : rSlA K x lo hi H Q := by
  unfold slD at q
  split at q
  · cases q
    obtain ⟨a, vs, e1, h1, r⟩ := b.list l
    exact .inl ⟨a, vs, e1, h1, new_lst l (r.cut lo hi) k⟩
  · cases q
    obtain ⟨a, vs, e1, h1, r⟩ := b.frl l
    exact .inl ⟨a, vs, e1, h1, new_lst l (r.cut lo hi) k⟩
  · split at q
    · rename_i hz
      cases q
      exact .inr (.inl ⟨_, b.str, hz, ok_sc l (fun F => .str _) k⟩)
    · cases q
  · split at q
    · cases q
    · rename_i hz
      cases q
      obtain ⟨a, vs, e1, _, h1, r⟩ := b.tupl l
      exact .inr (.inr ⟨a, vs, e1, h1, by rw [r.length]; exact hz, new_tup l (r.cut lo hi) k⟩)
  · cases q
theorem ev_slice {e : Expr} {m : ME} {lo hi : Option Expr} {ml mh : MO} {p2 pos : Pos} (he : EV X e m) (hl : OV X lo ml) (hu : OV X hi mh) : EV X (.Subscript e (.Slice lo hi none p2) pos) (mSl m ml mh) := by
  refine ev_of (pe_slice (SlR.or sl_list (SlR.or sl_str sl_tup)) he hl hu) fun σ H Q F ρ r ρ' R e k => ?_
  unfold mSl at e
  split at e
  · rename_i r1 ρ1 e1
    split at e
    · rename_i a ρ2 e2
      split at e
      · rename_i b ρ3 e3
        split at e
        · rename_i d e4
          split at e
          · rename_i z e5
            cases e
            refine ⟨F, ρ, _, _, R, e1, fun v F1 H1 X1 h1 _ => ⟨F1, ρ1, _, _, X1.rep, e2, fun F2 H2 X2 => ⟨F2, ρ2, _, _, X2.rep, e3, fun F3 H3 X3 => ?_⟩⟩⟩
            have X123 := (X1.trans X2).trans X3
            refine slD_ok X3.rep.le (HR.bo X3.rep ((h1.ex X2).ex X3) e4) e5 fun v2 F4 H4 g h4 => ?_
            have q := h4.hr X3.rep
            exact k v2 F4 H4 (X123.trans (Gr.ex X3.rep g)) q.1 (q.2.back X123)
          · cases e
        · cases e
      · cases e
    · cases e
  · cases e
end
end
end Mi
set_option Elab.async false
set_option linter.all false
set_option maxRecDepth 100000
set_option maxHeartbeats 1000000
set_option autoImplicit false
namespace Mi
noncomputable section
open PySem PySem.Spec PyProof.Rows L2

/-! ### built-ins -/
def lenD : List D → Option Rs
  | [.lst ds] => some (.sh (.int ds.length))
  | [.frl ds] => some (.sh (.int ds.length))
  | [.tup ds] => some (.sh (.int ds.length))
  | [.str z] => if z.length ≤ sizeLine then some (.sh (.int z.length)) else none
  | [.dic kvs] => some (.sh (.int kvs.length))
  | _ => none
def absD : List D → Option Rs
  | [.int i] => some (.sh (.int (if i < 0 then -i else i)))
  | _ => none
def intD : List D → Option Rs
  | [.int i] => some (.sh (.int i))
  | [.bl b] => some (.sh (.int (if b then 1 else 0)))
  | [.str a] => match PySem.intText? a with
    | some n => if a.length ≤ 640 then some (.sh (.int n)) else none
    | none => none
  | _ => none
def strD : List D → Option Rs
  | [.int i] => if i.natAbs.log2 < 1920 then some (.sh (.str (toString i))) else none
  | [.str a] => some (.sh (.str a))
  | _ => none
def listD : List D → Option Rs
  | [.lst ds] => some (.ow (.lst ds))
  | [.frl ds] => some (.ow (.lst ds))
  | [.tup ds] => some (.ow (.lst ds))
  | _ => none
def tupleD : List D → Option Rs
  | [.lst ds] => some (.sh (.tup ds))
  | [.frl ds] => some (.sh (.tup ds))
  | [.tup ds] => some (.sh (.tup ds))
  | _ => none
def maxD : List D → Option Rs
  | [.int i, .int j] => some (.sh (.int (if j > i then j else i)))
  | _ => none
def minD : List D → Option Rs
  | [.int i, .int j] => some (.sh (.int (if j < i then j else i)))
  | _ => none
def bls : List D → Option (List Bool)
  | [] => some []
  | .bl b :: ds => match bls ds with
    | some bs => some (b :: bs)
    | none => none
  | _ => none
def allD : List D → Option Rs
  | [.lst ds] => match bls ds with
    | some bs => some (.sh (.bl (bs.all id)))
    | none => none
  | _ => none
def anyD : List D → Option Rs
  | [.lst ds] => match bls ds with
    | some bs => some (.sh (.bl (bs.any id)))
    | none => none
  | _ => none
def intsD : List D → Option (List Int)
  | [] => some []
  | .int b :: ds => match intsD ds with
    | some bs => some (b :: bs)
    | none => none
  | _ => none
def sumD : List D → Option Rs
  | [.lst ds] => match intsD ds with
    | some bs => some (.sh (.int bs.sum))
    | none => none
  | _ => none
section
variable {X : Cx} {K : PySem.W.Frag}
theorem Shs.bls {F : Hp} : ∀ {vs : List V} {ds : List D} {bs : List Bool}, Shs K F vs ds → Mi.bls ds = some bs → vs = bs.map V.bl
  | _, _, _, .nil, e => by cases e; rfl
  | _, _, _, .cons h r, e => by
    unfold Mi.bls at e
    split at e
    · rename_i he; cases he
    · rename_i b ds2 he
      cases he
      split at e
      · rename_i bs2 e2
        cases e
        cases h
        rw [Shs.bls r e2]; rfl
      · cases e
    · cases e
theorem Shs.ints {F : Hp} : ∀ {vs : List V} {ds : List D} {bs : List Int}, Shs K F vs ds → Mi.intsD ds = some bs → vs = bs.map V.int
  | _, _, _, .nil, e => by cases e; rfl
  | _, _, _, .cons h r, e => by
    unfold Mi.intsD at e
    split at e
    · rename_i he; cases he
    · rename_i b ds2 he
      cases he
      split at e
      · rename_i bs2 e2
        cases e
        cases h
        rw [Shs.ints r e2]; rfl
      · cases e
    · cases e
def rLenA (K : PySem.W.Frag) : List V → Hp → VK → Prop := fun xs H Q => (∃ p ys, xs = [.ref p] ∧ (SqL K H p ys ∨ SqT K H p ys) ∧ Q (.int ys.length) H) ∨ (∃ z, xs = [.str z] ∧ z.length ≤ sizeLine ∧ Q (.int z.length) H) ∨ ∃ a kvs, xs = [V.ref a] ∧ Rd H a (.dK kvs) ∧ Q (.int kvs.length) H
theorem call_lenR : CallR X (.builtin "len") (fun xs H Q => ∃ a kvs, xs = [V.ref a] ∧ Rd H a (.dK kvs) ∧ Q (.int kvs.length) H) := by
  intro pins s σ H xs us Q I r h
  obtain ⟨a, kvs, rfl, ha, q⟩ := h
  obtain ⟨u, rfl, ru⟩ := vals1 r
  cases ru
  exact d_len I ha fun t s' I' => ⟨.int kvs.length, H, I', ⟨t, rfl⟩, q⟩
theorem ok_len : OkC K (rLenA K) lenD := fun F H vs ds z Q l bb q k => by
  unfold lenD at q
  split at q
  · cases q
    obtain ⟨v, rfl, b⟩ := bb.one
    obtain ⟨a, us, e1, h1, r⟩ := b.list l
    exact .inl ⟨a, us, by rw [e1], .inl h1, by rw [r.length]; exact ok_sc l (fun F => .int _) k⟩
  · cases q
    obtain ⟨v, rfl, b⟩ := bb.one
    obtain ⟨a, us, e1, h1, r⟩ := b.frl l
    exact .inl ⟨a, us, by rw [e1], .inl h1, by rw [r.length]; exact ok_sc l (fun F => .int _) k⟩
  · cases q
    obtain ⟨v, rfl, b⟩ := bb.one
    obtain ⟨a, us, e1, _, h1, r⟩ := b.tupl l
    exact .inl ⟨a, us, by rw [e1], .inr h1, by rw [r.length]; exact ok_sc l (fun F => .int _) k⟩
  · split at q
    · rename_i hz
      cases q
      obtain ⟨v, rfl, b⟩ := bb.one
      exact .inr (.inl ⟨_, by rw [b.str], hz, ok_sc l (fun F => .int _) k⟩)
    · cases q
  · cases q
    obtain ⟨v, rfl, b⟩ := bb.one
    obtain ⟨a, us, e1, h1, r⟩ := b.dict l
    exact .inr (.inr ⟨a, us, by rw [e1], h1, by rw [r.length]; exact ok_sc l (fun F => .int _) k⟩)
  · cases q
theorem cr_len : CallR X (.builtin "len") (rLenA X.K) := CallR.or call_len_seq (CallR.or call_len_str call_lenR)
theorem ok_abs : OkC K (fun xs H Q => ∃ i, xs = [.int i] ∧ Q (.int (if i < 0 then -i else i)) H) absD := fun F H vs ds z Q l bb q k => by
  unfold absD at q
  split at q
  · cases q
    obtain ⟨v, rfl, b⟩ := bb.one
    exact ⟨_, by rw [b.int], ok_sc l (fun F => .int _) k⟩
  · cases q
theorem cr_int : CallR X (.type "int") (fun xs H Q => ((∃ i, xs = [.int i] ∧ Q (.int i) H) ∨ ∃ k, xs = [.bl k] ∧ Q (.int (if k then 1 else 0)) H) ∨ ∃ a n, xs = [.str a] ∧ PySem.intText? a = some n ∧ a.length ≤ 640 ∧ Q (.int n) H) := CallR.or call_int1 call_int_str
theorem ok_int : OkC K (fun xs H Q => ((∃ i, xs = [.int i] ∧ Q (.int i) H) ∨ ∃ k, xs = [.bl k] ∧ Q (.int (if k then 1 else 0)) H) ∨ ∃ a n, xs = [.str a] ∧ PySem.intText? a = some n ∧ a.length ≤ 640 ∧ Q (.int n) H) intD := fun F H vs ds z Q l bb q k => by
  unfold intD at q
  split at q
  · cases q
    obtain ⟨v, rfl, b⟩ := bb.one
    exact .inl (.inl ⟨_, by rw [b.int], ok_sc l (fun F => .int _) k⟩)
  · cases q
    obtain ⟨v, rfl, b⟩ := bb.one
    exact .inl (.inr ⟨_, by rw [b.bl], ok_sc l (fun F => .int _) k⟩)
  · split at q
    · rename_i n e
      split at q
      · rename_i hz
        cases q
        obtain ⟨v, rfl, b⟩ := bb.one
        exact .inr ⟨_, n, by rw [b.str], e, hz, ok_sc l (fun F => .int _) k⟩
      · cases q
    · cases q
  · cases q
theorem cr_str : CallR X (.type "str") (fun xs H Q => (∃ i, xs = [.int i] ∧ i.natAbs.log2 < 1920 ∧ Q (.str (toString i)) H) ∨ ∃ a, xs = [.str a] ∧ Q (.str a) H) := CallR.or call_str_int SkE.call_str_str
theorem ok_str : OkC K (fun xs H Q => (∃ i, xs = [.int i] ∧ i.natAbs.log2 < 1920 ∧ Q (.str (toString i)) H) ∨ ∃ a, xs = [.str a] ∧ Q (.str a) H) strD := fun F H vs ds z Q l bb q k => by
  unfold strD at q
  split at q
  · split at q
    · rename_i hz
      cases q
      obtain ⟨v, rfl, b⟩ := bb.one
      exact .inl ⟨_, by rw [b.int], hz, ok_sc l (fun F => .str _) k⟩
    · cases q
  · cases q
    obtain ⟨v, rfl, b⟩ := bb.one
    exact .inr ⟨_, by rw [b.str], ok_sc l (fun F => .str _) k⟩
  · cases q
theorem ok_list : OkC K (fun xs H Q => ∃ p ys, xs = [.ref p] ∧ (SqL K H p ys ∨ SqT K H p ys) ∧ ∀ l, H l = none → Q (.ref l) (upd H l (.lst ys))) listD := fun F H vs ds z Q l bb q k => by
  unfold listD at q
  split at q
  · cases q
    obtain ⟨v, rfl, b⟩ := bb.one
    obtain ⟨a, us, e1, h1, r⟩ := b.list l
    exact ⟨a, us, by rw [e1], .inl h1, new_lst l r k⟩
  · cases q
    obtain ⟨v, rfl, b⟩ := bb.one
    obtain ⟨a, us, e1, h1, r⟩ := b.frl l
    exact ⟨a, us, by rw [e1], .inl h1, new_lst l r k⟩
  · cases q
    obtain ⟨v, rfl, b⟩ := bb.one
    obtain ⟨a, us, e1, _, h1, r⟩ := b.tupl l
    exact ⟨a, us, by rw [e1], .inr h1, new_lst l r k⟩
  · cases q
theorem ok_tuple : OkC K (fun xs H Q => ∃ p ys, xs = [.ref p] ∧ ((SqL K H p ys ∧ ∀ l, H l = none → Q (.ref l) (upd H l (.tup ys))) ∨ (SqT K H p ys ∧ Q (.ref p) H))) tupleD := fun F H vs ds z Q l bb q k => by
  unfold tupleD at q
  split at q
  · cases q
    obtain ⟨v, rfl, b⟩ := bb.one
    obtain ⟨a, us, e1, h1, r⟩ := b.list l
    exact ⟨a, us, by rw [e1], .inl ⟨h1, new_tup l r k⟩⟩
  · cases q
    obtain ⟨v, rfl, b⟩ := bb.one
    obtain ⟨a, us, e1, h1, r⟩ := b.frl l
    exact ⟨a, us, by rw [e1], .inl ⟨h1, new_tup l r k⟩⟩
  · cases q
    obtain ⟨v, rfl, b⟩ := bb.one
    obtain ⟨a, us, e1, s1, h1, r⟩ := b.tupl l
    exact ⟨a, us, by rw [e1], .inr ⟨h1, k _ F H (Gr.refl l) (.tup s1 r)⟩⟩
  · cases q
theorem ok_max : OkC K (fun xs H Q => ∃ i j, xs = [.int i, .int j] ∧ Q (.int (if j > i then j else i)) H) maxD := fun F H vs ds z Q l bb q k => by
  unfold maxD at q
  split at q
  · cases q
    obtain ⟨v, u, rfl, b1, b2⟩ := bb.two
    exact ⟨_, _, by rw [b1.int, b2.int], ok_sc l (fun F => .int _) k⟩
  · cases q
theorem ok_min : OkC K (fun xs H Q => ∃ i j, xs = [.int i, .int j] ∧ Q (.int (if j < i then j else i)) H) minD := fun F H vs ds z Q l bb q k => by
  unfold minD at q
  split at q
  · cases q
    obtain ⟨v, u, rfl, b1, b2⟩ := bb.two
    exact ⟨_, _, by rw [b1.int, b2.int], ok_sc l (fun F => .int _) k⟩
  · cases q
theorem ok_all : OkC K (rAll K) allD := fun F H vs ds z Q l bb q k => by
  unfold allD at q
  split at q
  · split at q
    · rename_i bs e
      cases q
      obtain ⟨v, rfl, b⟩ := bb.one
      obtain ⟨a, us, e1, h1, r⟩ := b.list l
      exact ⟨a, bs, by rw [e1], by rw [← r.bls e]; exact h1, ok_sc l (fun F => .bl _) k⟩
    · cases q
  · cases q
theorem ok_any : OkC K (rAny K) anyD := fun F H vs ds z Q l bb q k => by
  unfold anyD at q
  split at q
  · split at q
    · rename_i bs e
      cases q
      obtain ⟨v, rfl, b⟩ := bb.one
      obtain ⟨a, us, e1, h1, r⟩ := b.list l
      exact ⟨a, bs, by rw [e1], by rw [← r.bls e]; exact h1, ok_sc l (fun F => .bl _) k⟩
    · cases q
  · cases q
theorem ok_sum : OkC K (rSum K) sumD := fun F H vs ds z Q l bb q k => by
  unfold sumD at q
  split at q
  · split at q
    · rename_i bs e
      cases q
      obtain ⟨v, rfl, b⟩ := bb.one
      obtain ⟨a, us, e1, h1, r⟩ := b.list l
      exact ⟨a, bs, by rw [e1], by rw [← r.ints e]; exact h1, ok_sc l (fun F => .int _) k⟩
    · cases q
  · cases q
/-! ### isinstance -/
def tyN : D → String
  | .non => "NoneType"
  | .bl _ => "bool"
  | .int _ => "int"
  | .str _ => "str"
  | .lst _ => "list"
  | .frl _ => "list"
  | .tup _ => "tuple"
  | .dic _ => "dict"
  | .ty _ => "type"
def isTy : D → Bool
  | .ty _ => true
  | _ => false
def kitT (a : String) : List D → Option Bool
  | [] => some false
  | .ty b :: r => match kitB a b with
    | some true => some true
    | some false => kitT a r
    | none => none
  | _ => none
def isiD : List D → Option Rs
  | [d, .ty n] => if isTy d then none else (kitB (tyN d) n).map fun b => .sh (.bl b)
  | [d, .tup cs] => if isTy d || !cs.all isTy then none else (kitT (tyN d) cs).map fun b => .sh (.bl b)
  | _ => none
theorem Bo.tyx {F H : Hp} {v : V} {d : D} (l : Le F H) (h : Bo K F H v d) (n : isTy d = false) : TyX K H v (.type (tyN d)) := by
  cases d with
  | non => rw [h.non]; exact .base .non
  | bl _ => rw [h.bl]; exact .base (.bl _)
  | int _ => rw [h.int]; exact .base (.int _)
  | str _ => rw [h.str]; exact .base (.str _)
  | lst _ => obtain ⟨a, vs, rfl, h, _⟩ := h.lis l; exact .base (.lst h)
  | frl _ =>
    obtain ⟨a, vs, rfl, h, _⟩ := h.frl l
    rcases h with (h | ⟨o, h⟩) | ⟨o, _, _, h, c, _⟩
    · exact .base (.lst h)
    · exact .base (.frz h)
    · exact .kList h c
  | tup _ =>
    obtain ⟨a, vs, rfl, _, h, _⟩ := h.tupl l
    rcases h with (h | ⟨o, h⟩) | ⟨o, _, _, h, c, _⟩
    · exact .base (.tup h)
    · exact .fTuple h
    · exact .kTuple h c
  | dic _ =>
    obtain ⟨a, vs, rfl, h, _⟩ := h.dict l
    rcases h with h | ⟨o, h⟩
    · exact .base (.dK h)
    · exact .fDict h
  | ty _ => cases n
theorem clsv_all {F : Hp} : ∀ {vs : List V} {cs : List D}, Shs K F vs cs → cs.all isTy = true → ∃ us, Paired ClsV vs us
  | _, _, .nil, _ => ⟨[], .nil⟩
  | _, _, .cons h r, e => by
    simp only [List.all_cons, Bool.and_eq_true] at e
    obtain ⟨us, p⟩ := clsv_all r e.2
    cases h <;> first | exact ⟨_ :: us, .cons (.ty _) p⟩ | exact absurd e.1 (by simp [isTy])
theorem kitT_ok {F : Hp} {a : String} : ∀ {vs : List V} {cs : List D} {b : Bool}, Shs K F vs cs → cs.all isTy = true → kitT a cs = some b → ∃ us, Paired ClsV vs us ∧ PySem.W.kitAny K (.type a) us = some b
  | _, _, _, .nil, _, e => by cases e; exact ⟨[], .nil, rfl⟩
  | _, _, _, .cons h r, al, e => by
    simp only [List.all_cons, Bool.and_eq_true] at al
    unfold kitT at e
    split at e
    · rename_i he; cases he
    · rename_i n ds2 he
      cases he
      cases h
      split at e
      · rename_i e1
        cases e
        obtain ⟨us, p⟩ := clsv_all r al.2
        exact ⟨.type n :: us, .cons (.ty n) p, kitAny_cons (kit_ty e1) (fun z => by cases z) fun _ => rfl⟩
      · rename_i e1
        obtain ⟨us, p, q⟩ := kitT_ok r al.2 e
        exact ⟨.type n :: us, .cons (.ty n) p, kitAny_cons (kit_ty e1) (fun _ => q) fun z => by cases z⟩
      · cases e
    · cases e
def rIsiA (K : PySem.W.Frag) : List V → Hp → VK → Prop := fun xs H Q => rIsi K xs H Q ∨ rIsiT K xs H Q ∨ rIsiK K xs H Q
theorem cr_isi : CallR X (.builtin "isinstance") (rIsiA X.K) := CallR.or call_isi (CallR.or call_isiT call_isiK)
theorem vals_cls : ∀ {cs : List V} {us ws : List Value}, Paired ClsV cs us → Vals cs ws → ws = us := ClsV.all
theorem ok_isi : OkC K (rIsiA K) isiD := fun F H vs ds z Q l bb q k => by
  unfold isiD at q
  split at q
  · split at q
    · cases q
    · rename_i hn
      simp only [Option.map_eq_some_iff] at q
      obtain ⟨b, q, rfl⟩ := q
      obtain ⟨v, u, rfl, b1, b2⟩ := bb.two
      rw [b2.ty]
      exact .inl ⟨v, .ty _, _, _, b, rfl, .ty _, b1.tyx l (by simpa using hn), kit_ty q, ok_sc l (fun F => .bl _) k⟩
  · split at q
    · cases q
    · rename_i hn
      simp only [Option.map_eq_some_iff] at q
      obtain ⟨b, q, rfl⟩ := q
      obtain ⟨v, u, rfl, b1, b2⟩ := bb.two
      simp only [Bool.or_eq_true, Bool.not_eq_true', not_or, Bool.not_eq_true, Bool.not_eq_false] at hn
      obtain ⟨a, us, e1, t1, h1, r⟩ := b2.tupl l
      obtain ⟨ws, p, q2⟩ := kitT_ok r hn.2 q
      have hq : Q (.bl b) H := ok_sc l (fun F => .bl _) k
      rcases t1 with t1 | (t1 | ⟨o, t1⟩) | ⟨o, its, n, hk, hc, hd, hz, rv⟩
      · exact .inr (.inl ⟨v, a, us, _, ws, b, by rw [e1], l _ _ t1, p, b1.tyx l hn.1, q2, hq⟩)
      · cases t1
      · cases t1
      · have ew := vals_cls p rv
        obtain ⟨oc, od, odt, osl⟩ := o
        obtain rfl : oc = .type "tuple" := hc
        obtain rfl : odt = .seq its n := hd
        refine .inr (.inr ⟨v, a, od, ws, n, osl, _, b, by rw [e1], ?_, b1.tyx l hn.1, q2, hq⟩)
        rw [hk, ← ew]
  · cases q
end

/-! ### methods that change nothing -/
def tyOk (T : String) (d : D) : Bool := (tyN d == T) && (match d with
  | .str _ => true
  | .lst _ => true
  | _ => false)
def mMt (T : String) (f : D → List D → Option Rs) (m : ME) (l : MA) : ME := fun ρ => match m ρ with
  | some (r, ρ1) => match peek ρ1 r with
    | some d0 => if tyOk T d0 then match l ρ1 with
      | some (rs, ρ2) => match peek ρ2 r with
        | some d => match peeks ρ2 rs with
          | some ds => match f d ds with
            | some z => some (z.rv, ρ2)
            | none => none
          | none => none
        | none => none
      | none => none
      else none
    | none => none
  | none => none
def OkM (K : PySem.W.Frag) (r : V → List V → Hp → VK → Prop) (f : D → List D → Option Rs) : Prop := ∀ F H x vs d ds z Q, Le F H → Bo K F H x d → Bos K F H vs ds → f d ds = some z → (∀ v F' H', Gr F H F' H' → HN K H F' H' v z → Q v H') → r x vs H Q
section
variable {X : Cx} {K : PySem.W.Frag} {o e : Expr} {es : List Expr} {m : ME} {l : MA} {T id : String} {name : Str} {apos cpos : Pos} {r : V → List V → Hp → VK → Prop} {f : D → List D → Option Rs}
theorem tyOk_v {F H : Hp} {v : V} {d : D} (lh : Le F H) (h : Bo K F H v d) (e : tyOk T d = true) : tyV K T v H := by
  unfold tyOk at e
  simp only [Bool.and_eq_true, beq_iff_eq] at e
  obtain ⟨e1, e2⟩ := e
  subst e1
  cases d with
  | str x => rw [h.str]; rfl
  | lst ds => obtain ⟨a, vs, rfl, h, _⟩ := h.list lh; exact .inl ⟨rfl, vs, h⟩
  | _ => cases e2
theorem mt_use (ok : OkM K r f) {F H σ ρ z ρ'} {Q : VK} (R : Rep K F H σ ρ) (e : mMt T f m l ρ = some (z, ρ')) (k : ∀ v F' H', Ex K F H σ ρ F' H' σ ρ' → HR K F' H' σ ρ' v z → Nw H v z → Q v H') : tBM K T r (tM K m) (tMA K l) σ H Q := by
  unfold mMt at e
  split at e
  · rename_i r1 ρ1 e1
    split at e
    · rename_i d0 e2
      split at e
      · rename_i ht
        split at e
        · rename_i rs ρ2 e3
          split at e
          · rename_i d e4
            split at e
            · rename_i ds e5
              split at e
              · rename_i zz e6
                cases e
                refine ⟨F, ρ, _, _, R, e1, fun v F1 H1 X1 h1 _ => ⟨tyOk_v X1.rep.le (HR.bo X1.rep h1 e2) ht, F1, ρ1, _, _, X1.rep, e3, fun vs F2 H2 X2 h2 _ => ?_⟩⟩
                refine ok F2 H2 v vs d ds zz Q X2.rep.le (HR.bo X2.rep (h1.ex X2) e4) (HRs.bos X2.rep h2 e5) e6 fun v2 F3 H3 g h3 => ?_
                have q := h3.hr X2.rep
                exact k v2 F3 H3 ((X1.trans X2).trans (Gr.ex X2.rep g)) q.1 (q.2.back (X1.trans X2))
              · cases e
            · cases e
          · cases e
        · cases e
      · cases e
    · cases e
  · cases e
theorem ev_meth (pa : PlainAttrs T) (slot : Slot T name id) (hty : typeOf (.builtin id) = pure (.type "method_descriptor")) (hm : MtR X id r) (ok : OkM X.K r f) (ho : EV X o m) (ha : AV X (e :: es) l)
    (hbase : attributeBase o name X.env (eval o X.env) = eval o X.env := by rfl)
    (hfew : ((backTo cpos (starEach (e :: es) X.env)).all (fun x => !x.1) && (backToKw cpos (keywordEach [] X.env)).all (fun x => x.1.isSome) && decide ((e :: es).length + ([] : List Keyword).length + (if ([] : List Keyword).isEmpty then 0 else 1) < 30)) = true := by rfl)
    (hline : (apos.endLine == cpos.line) = true := by rfl) (hs : starEach (e :: es) X.env = (false, eval e X.env) :: starEach es X.env := by rfl) (hplain : (backTo cpos (starEach es X.env)).any (·.1) = false := by rfl) :
    EV X (.Call (.Attribute o name apos) (e :: es) [] cpos) (mMt T f m l) :=
  ev_of (pe_bm pa slot hty hm ho ha hbase hfew hline hs hplain) fun σ H Q F ρ r ρ' R e k => mt_use ok R e k
theorem ev_meth0 (pa : PlainAttrs T) (slot : Slot T name id) (hty : typeOf (.builtin id) = pure (.type "method_descriptor")) (hm : MtR X id r) (ok : OkM X.K r f) (ho : EV X o m)
    (hbase : attributeBase o name X.env (eval o X.env) = eval o X.env := by rfl) (hline : (apos.endLine == cpos.line) = true := by rfl) :
    EV X (.Call (.Attribute o name apos) [] [] cpos) (mMt T f m mNil) :=
  ev_of (pe_bm0 pa slot hty hm ho hbase hline) fun σ H Q F ρ r ρ' R e k => by
    obtain ⟨F1, ρ1, r1, ρ1', R1, e1, k1⟩ := mt_use ok R e k
    refine ⟨F1, ρ1, r1, ρ1', R1, e1, fun v F' H' X' h nw => ?_⟩
    obtain ⟨t, F2, ρ2, rs, ρ2', R2, e2, k2⟩ := k1 v F' H' X' h nw
    cases e2
    exact ⟨t, k2 [] F2 H' (Ex.refl R2) trivial trivial⟩
/-! texts -/
def strsD : List D → Option (List Str)
  | [] => some []
  | .str b :: ds => match strsD ds with
    | some bs => some (b :: bs)
    | none => none
  | _ => none
theorem Shs.strs {F : Hp} : ∀ {vs : List V} {ds : List D} {bs : List Str}, Shs K F vs ds → strsD ds = some bs → vs = bs.map V.str
  | _, _, _, .nil, e => by cases e; rfl
  | _, _, _, .cons h r, e => by
    unfold strsD at e
    split at e
    · rename_i he; cases he
    · rename_i b ds2 he
      cases he
      split at e
      · rename_i bs2 e2
        cases e
        cases h
        rw [Shs.strs r e2]; rfl
      · cases e
    · cases e
def joinD : D → List D → Option Rs
  | .str a, [.lst ds] => match strsD ds with
    | some ys => if (ys.map (·.length)).sum + ys.length * a.length ≤ 16777216 then some (.sh (.str (Txt.join a ys))) else none
    | none => none
  | _, _ => none
def splitD : D → List D → Option Rs
  | .str a, [.str b] => if (b.length == 0) = false ∧ a.length + 2 ≤ sizeLine then some (.ow (.lst ((Txt.split a b).map .str))) else none
  | _, _ => none
def countD : D → List D → Option Rs
  | .str a, [.str b] => some (.sh (.int (Txt.count a b)))
  | _, _ => none
theorem ok_join : OkM K (fun x xs H Q => ∃ a p, ∃ ys : List Str, x = .str a ∧ xs = [.ref p] ∧ (SqL K H p (ys.map V.str) ∨ SqT K H p (ys.map V.str)) ∧ (ys.map (·.length)).sum + ys.length * a.length ≤ 16777216 ∧ Q (.str (Txt.join a ys)) H) joinD := fun F H x vs d ds z Q l b1 bb q k => by
  unfold joinD at q
  split at q
  · split at q
    · rename_i ys e
      split at q
      · rename_i hz
        cases q
        obtain ⟨v, rfl, b⟩ := bb.one
        obtain ⟨a, us, e1, h1, r⟩ := b.list l
        exact ⟨_, a, ys, b1.str, by rw [e1], .inl (by rw [← r.strs e]; exact h1), hz, ok_sc l (fun F => .str _) k⟩
      · cases q
    · cases q
  · cases q
theorem shs_strs {F : Hp} : ∀ ys : List Str, Shs K F (ys.map V.str) (ys.map D.str)
  | [] => .nil
  | y :: ys => .cons (.str y) (shs_strs ys)
theorem ok_split : OkM K (fun x xs H Q => ∃ a b, x = .str a ∧ xs = [.str b] ∧ (b.length == 0) = false ∧ a.length + 2 ≤ sizeLine ∧ rNewStrs (Txt.split a b) H Q) splitD := fun F H x vs d ds z Q l b1 bb q k => by
  unfold splitD at q
  split at q
  · split at q
    · rename_i hz
      cases q
      obtain ⟨v, rfl, b⟩ := bb.one
      exact ⟨_, _, b1.str, by rw [b.str], hz.1, hz.2, new_lst l (shs_strs _) k⟩
    · cases q
  · cases q
theorem ok_count : OkM K (fun x xs H Q => ∃ a b, x = .str a ∧ xs = [.str b] ∧ Q (.int (Txt.count a b)) H) countD := fun F H x vs d ds z Q l b1 bb q k => by
  unfold countD at q
  split at q
  · cases q
    obtain ⟨v, rfl, b⟩ := bb.one
    exact ⟨_, _, b1.str, by rw [b.str], ok_sc l (fun F => .int _) k⟩
  · cases q
theorem ev_join (ho : EV X o m) (ha : AV X [e] l) {apos cpos : Pos}
    (hbase : attributeBase o "join" X.env (eval o X.env) = eval o X.env := by rfl)
    (hfew : ((backTo cpos (starEach [e] X.env)).all (fun x => !x.1) && (backToKw cpos (keywordEach [] X.env)).all (fun x => x.1.isSome) && decide ([e].length + ([] : List Keyword).length + (if ([] : List Keyword).isEmpty then 0 else 1) < 30)) = true := by rfl)
    (hline : (apos.endLine == cpos.line) = true := by rfl) (hs : starEach [e] X.env = (false, eval e X.env) :: starEach [] X.env := by rfl) (hplain : (backTo cpos (starEach [] X.env)).any (·.1) = false := by rfl) :
    EV X (.Call (.Attribute o "join" apos) [e] [] cpos) (mMt "str" joinD m l) := ev_meth PySem.F.plainAttrs_str PySem.F.slot_str_join PySem.F.type_str_join mt_join ok_join ho ha hbase hfew hline hs hplain
theorem ev_split (ho : EV X o m) (ha : AV X [e] l) {apos cpos : Pos}
    (hbase : attributeBase o "split" X.env (eval o X.env) = eval o X.env := by rfl)
    (hfew : ((backTo cpos (starEach [e] X.env)).all (fun x => !x.1) && (backToKw cpos (keywordEach [] X.env)).all (fun x => x.1.isSome) && decide ([e].length + ([] : List Keyword).length + (if ([] : List Keyword).isEmpty then 0 else 1) < 30)) = true := by rfl)
    (hline : (apos.endLine == cpos.line) = true := by rfl) (hs : starEach [e] X.env = (false, eval e X.env) :: starEach [] X.env := by rfl) (hplain : (backTo cpos (starEach [] X.env)).any (·.1) = false := by rfl) :
    EV X (.Call (.Attribute o "split" apos) [e] [] cpos) (mMt "str" splitD m l) := ev_meth PySem.F.plainAttrs_str PySem.F.slot_str_split PySem.F.type_str_split mt_split ok_split ho ha hbase hfew hline hs hplain
theorem ev_count (ho : EV X o m) (ha : AV X [e] l) {apos cpos : Pos}
    (hbase : attributeBase o "count" X.env (eval o X.env) = eval o X.env := by rfl)
    (hfew : ((backTo cpos (starEach [e] X.env)).all (fun x => !x.1) && (backToKw cpos (keywordEach [] X.env)).all (fun x => x.1.isSome) && decide ([e].length + ([] : List Keyword).length + (if ([] : List Keyword).isEmpty then 0 else 1) < 30)) = true := by rfl)
    (hline : (apos.endLine == cpos.line) = true := by rfl) (hs : starEach [e] X.env = (false, eval e X.env) :: starEach [] X.env := by rfl) (hplain : (backTo cpos (starEach [] X.env)).any (·.1) = false := by rfl) :
    EV X (.Call (.Attribute o "count" apos) [e] [] cpos) (mMt "str" countD m l) := ev_meth PySem.F.plainAttrs_str PySem.F.slot_str_count PySem.F.type_str_count mt_count ok_count ho ha hbase hfew hline hs hplain
end
end
end Mi
set_option Elab.async false
set_option linter.all false
set_option maxRecDepth 100000
set_option maxHeartbeats 1000000
set_option autoImplicit false
namespace Mi
noncomputable section
open PySem PySem.Spec PyProof.Rows L2

/-! ### methods that change what a slot owns -/
def mMm (T : String) (f : D → List D → Option (D × D)) (i : Nat) (l : MA) : ME := fun ρ => match ρ[i]? with
  | some (some ⟨true, _, d0⟩) => if tyOk T d0 then match l ρ with
    | some (rs, ρ1) => match shrs ρ1 rs with
      | some (ds, ρ2) => match ρ2[i]? with
        | some (some ⟨true, p, d⟩) => match f d ds with
          | some (z, d') => some (.sh z, ρ2.set i (some ⟨true, p, d'⟩))
          | none => none
        | _ => none
      | none => none
    | none => none
    else none
  | _ => none
def OkMm (K : PySem.W.Frag) (r : V → List V → Hp → VK → Prop) (f : D → List D → Option (D × D)) : Prop := ∀ F H a vs d ds z d' Q, Le F H → OwO K F H a d → Shs K F vs ds → f d ds = some (z, d') →
  (∀ v o, OwO K F (upd H a o) a d' → Sh K F v z → Q v (upd H a o)) → r (.ref a) vs H Q
section
variable {X : Cx} {K : PySem.W.Frag} {e : Expr} {es : List Expr} {l : MA} {T id : String} {name x : Str} {apos cpos npos : Pos} {r : V → List V → Hp → VK → Prop} {f : D → List D → Option (D × D)} {i : Nat}
theorem mm_use (ok : OkMm K r f) {F H σ ρ z ρ'} {Q : VK} (R : Rep K F H σ ρ) (e : mMm T f i l ρ = some (z, ρ')) (k : ∀ v F' H', Ex K F H σ ρ F' H' σ ρ' → HR K F' H' σ ρ' v z → Nw H v z → Q v H') : tBM K T r (tM K (mVar i)) (tMA K l) σ H Q := by
  unfold mMm at e
  split at e
  · rename_i p0 d0 e0
    split at e
    · rename_i ht
      split at e
      · rename_i rs ρ1 e1
        split at e
        · rename_i ds ρ2 e2
          split at e
          · rename_i p d e3
            split at e
            · rename_i z' d' e4
              cases e
              refine ⟨F, ρ, .at i, ρ, R, by unfold mVar; rw [e0]; rfl, fun v F1 H1 X1 h1 _ => ?_⟩
              have b0 := HR.bo X1.rep h1 (d := d0) (by simp [peek, e0])
              refine ⟨tyOk_v X1.rep.le b0 ht, F1, ρ, _, _, X1.rep, e1, fun vs F2 H2 X2 h2 nw2 => ?_⟩
              obtain ⟨F3, X3, s3, _⟩ := shrs_step X2 h2 nw2 e2
              obtain ⟨es', w', ew⟩ := h1
              obtain ⟨v', ev, hw⟩ := X3.rep.at_ i _ e3
              rw [es'] at ev
              cases ev
              obtain ⟨a, ea, fa, o⟩ : ∃ a, v = .ref a ∧ F3 a = none ∧ OwO K F3 H2 a d := by simpa [HW] using hw
              rw [ea]
              refine ok F3 H2 a vs d ds z' d' Q X3.rep.le o s3 e4 fun v2 ob o2 sz => ?_
              have X4 := Ex.write X3.rep e3 (by rw [es', ea]) o2
              exact k v2 F3 _ ((X1.trans X3).trans X4) sz trivial
            · cases e
          · cases e
        · cases e
      · cases e
    · cases e
  · cases e
theorem ev_mm (pa : PlainAttrs T) (slot : Slot T name id) (hty : typeOf (.builtin id) = pure (.type "method_descriptor")) (hm : MtR X id r) (ok : OkMm X.K r f) (ho : EV X (.Name x npos) (mVar i)) (ha : AV X (e :: es) l)
    (hbase : attributeBase (.Name x npos) name X.env (eval (.Name x npos) X.env) = eval (.Name x npos) X.env := by rfl)
    (hfew : ((backTo cpos (starEach (e :: es) X.env)).all (fun x => !x.1) && (backToKw cpos (keywordEach [] X.env)).all (fun x => x.1.isSome) && decide ((e :: es).length + ([] : List Keyword).length + (if ([] : List Keyword).isEmpty then 0 else 1) < 30)) = true := by rfl)
    (hline : (apos.endLine == cpos.line) = true := by rfl) (hs : starEach (e :: es) X.env = (false, eval e X.env) :: starEach es X.env := by rfl) (hplain : (backTo cpos (starEach es X.env)).any (·.1) = false := by rfl) :
    EV X (.Call (.Attribute (.Name x npos) name apos) (e :: es) [] cpos) (mMm T f i l) :=
  ev_of (pe_bm pa slot hty hm ho ha hbase hfew hline hs hplain) fun σ H Q F ρ r ρ' R e k => mm_use ok R e k
theorem ev_mm0 (pa : PlainAttrs T) (slot : Slot T name id) (hty : typeOf (.builtin id) = pure (.type "method_descriptor")) (hm : MtR X id r) (ok : OkMm X.K r f) (ho : EV X (.Name x npos) (mVar i))
    (hbase : attributeBase (.Name x npos) name X.env (eval (.Name x npos) X.env) = eval (.Name x npos) X.env := by rfl) (hline : (apos.endLine == cpos.line) = true := by rfl) :
    EV X (.Call (.Attribute (.Name x npos) name apos) [] [] cpos) (mMm T f i mNil) :=
  ev_of (pe_bm0 pa slot hty hm ho hbase hline) fun σ H Q F ρ r ρ' R e k => by
    obtain ⟨F1, ρ1, r1, ρ1', R1, e1, k1⟩ := mm_use ok R e k
    refine ⟨F1, ρ1, r1, ρ1', R1, e1, fun v F' H' X' h nw => ?_⟩
    obtain ⟨t, F2, ρ2, rs, ρ2', R2, e2, k2⟩ := k1 v F' H' X' h nw
    cases e2
    exact ⟨t, k2 [] F2 H' (Ex.refl R2) trivial trivial⟩
def appD : D → List D → Option (D × D)
  | .lst xs, [y] => if xs.length < sizeLine then some (.non, .lst (xs ++ [y])) else none
  | _, _ => none
def extD : D → List D → Option (D × D)
  | .lst xs, [.lst ys] => if xs.length + ys.length ≤ sizeLine then some (.non, .lst (xs ++ ys)) else none
  | _, _ => none
def popD : D → List D → Option (D × D)
  | .lst xs, [.int i] => if big (-(2 ^ 63) ≤ i ∧ i < 2 ^ 63) then match seqIndex? i xs.length with
    | some k => match xs[k]? with
      | some y => some (y, .lst (xs.eraseIdx k))
      | none => none
    | none => none
    else none
  | _, _ => none
def pop0D : D → List D → Option (D × D)
  | .lst xs, [] => match xs[xs.length - 1]? with
    | some y => some (y, .lst xs.dropLast)
    | none => none
  | _, _ => none
def clrD : D → List D → Option (D × D)
  | .lst _, [] => some (.non, .lst [])
  | _, _ => none
def revD : D → List D → Option (D × D)
  | .lst xs, [] => some (.non, .lst xs.reverse)
  | _, _ => none
theorem own_lst {F H : Hp} {a : Addr} {ds : List D} (h : OwO K F H a (.lst ds)) : ∃ vs, H a = some (.lst vs) ∧ Shs K F vs ds := h
theorem own_set {F H : Hp} {a : Addr} {vs : List V} {ds : List D} (r : Shs K F vs ds) : OwO K F (upd H a (.lst vs)) a (.lst ds) := ⟨vs, upd_same, r⟩
theorem ok_app : OkMm K rAppend appD := fun F H a vs d ds z d' Q l o s q k => by
  unfold appD at q
  split at q
  · split at q
    · rename_i hz
      cases q
      obtain ⟨us, e1, r⟩ := own_lst o
      cases s with
      | cons s1 s2 =>
        cases s2
        exact ⟨a, us, _, rfl, rfl, e1, by rw [r.length]; exact hz, k _ _ (own_set (r.append (.one s1))) .non⟩
    · cases q
  · cases q
theorem ok_ext : OkMm K rExtend extD := fun F H a vs d ds z d' Q l o s q k => by
  unfold extD at q
  split at q
  · split at q
    · rename_i hz
      cases q
      obtain ⟨us, e1, r⟩ := own_lst o
      cases s with
      | cons s1 s2 =>
        cases s2
        cases s1 with
        | lst h1 r1 => exact ⟨a, _, us, _, rfl, rfl, e1, l _ _ h1, by rw [r.length, r1.length]; exact hz, k _ _ (own_set (r.append r1)) .non⟩
    · cases q
  · cases q
theorem ok_pop : OkMm K rPopAt popD := fun F H a vs d ds z d' Q l o s q k => by
  unfold popD at q
  split at q
  · split at q
    · rename_i hz
      split at q
      · rename_i j e2
        split at q
        · rename_i y e3
          cases q
          obtain ⟨us, e1, r⟩ := own_lst o
          cases s with
          | cons s1 s2 =>
            cases s2
            cases s1
            obtain ⟨v, e4, h4⟩ := r.get e3
            exact ⟨a, us, _, j, v, rfl, rfl, e1, hz.1, hz.2, by rw [r.length]; exact e2, e4, k _ _ (own_set (r.eraseIdx j)) h4⟩
        · cases q
      · cases q
    · cases q
  · cases q
theorem ok_clr : OkMm K rClear clrD := fun F H a vs d ds z d' Q l o s q k => by
  unfold clrD at q
  split at q
  · cases q
    obtain ⟨us, e1, r⟩ := own_lst o
    cases s
    exact ⟨a, us, rfl, rfl, e1, k _ _ (own_set .nil) .non⟩
  · cases q
theorem ok_rev : OkMm K rReverse revD := fun F H a vs d ds z d' Q l o s q k => by
  unfold revD at q
  split at q
  · cases q
    obtain ⟨us, e1, r⟩ := own_lst o
    cases s
    exact ⟨a, us, rfl, rfl, e1, k _ _ (own_set r.reverse) .non⟩
  · cases q
theorem ev_append (i : Nat) {x : Str} {e : Expr} {l : MA} {npos apos cpos : Pos} (ha : AV X [e] l) (ho : EV X (.Name x npos) (mVar i) := by exact ev_var _)
    (hbase : attributeBase (.Name x npos) "append" X.env (eval (.Name x npos) X.env) = eval (.Name x npos) X.env := by rfl)
    (hfew : ((backTo cpos (starEach [e] X.env)).all (fun x => !x.1) && (backToKw cpos (keywordEach [] X.env)).all (fun x => x.1.isSome) && decide ([e].length + ([] : List Keyword).length + (if ([] : List Keyword).isEmpty then 0 else 1) < 30)) = true := by rfl)
    (hline : (apos.endLine == cpos.line) = true := by rfl) (hs : starEach [e] X.env = (false, eval e X.env) :: starEach [] X.env := by rfl) (hplain : (backTo cpos (starEach [] X.env)).any (·.1) = false := by rfl) :
    EV X (.Call (.Attribute (.Name x npos) "append" apos) [e] [] cpos) (mMm "list" appD i l) := ev_mm PySem.F.plainAttrs_list PySem.F.slot_list_append PySem.F.type_list_append mt_append ok_app ho ha hbase hfew hline hs hplain
theorem ev_extend (i : Nat) {x : Str} {e : Expr} {l : MA} {npos apos cpos : Pos} (ha : AV X [e] l) (ho : EV X (.Name x npos) (mVar i) := by exact ev_var _)
    (hbase : attributeBase (.Name x npos) "extend" X.env (eval (.Name x npos) X.env) = eval (.Name x npos) X.env := by rfl)
    (hfew : ((backTo cpos (starEach [e] X.env)).all (fun x => !x.1) && (backToKw cpos (keywordEach [] X.env)).all (fun x => x.1.isSome) && decide ([e].length + ([] : List Keyword).length + (if ([] : List Keyword).isEmpty then 0 else 1) < 30)) = true := by rfl)
    (hline : (apos.endLine == cpos.line) = true := by rfl) (hs : starEach [e] X.env = (false, eval e X.env) :: starEach [] X.env := by rfl) (hplain : (backTo cpos (starEach [] X.env)).any (·.1) = false := by rfl) :
    EV X (.Call (.Attribute (.Name x npos) "extend" apos) [e] [] cpos) (mMm "list" extD i l) := ev_mm PySem.F.plainAttrs_list PySem.F.slot_list_extend PySem.F.type_list_extend mt_extend ok_ext ho ha hbase hfew hline hs hplain
theorem ev_pop (i : Nat) {x : Str} {e : Expr} {l : MA} {npos apos cpos : Pos} (ha : AV X [e] l) (ho : EV X (.Name x npos) (mVar i) := by exact ev_var _)
    (hbase : attributeBase (.Name x npos) "pop" X.env (eval (.Name x npos) X.env) = eval (.Name x npos) X.env := by rfl)
    (hfew : ((backTo cpos (starEach [e] X.env)).all (fun x => !x.1) && (backToKw cpos (keywordEach [] X.env)).all (fun x => x.1.isSome) && decide ([e].length + ([] : List Keyword).length + (if ([] : List Keyword).isEmpty then 0 else 1) < 30)) = true := by rfl)
    (hline : (apos.endLine == cpos.line) = true := by rfl) (hs : starEach [e] X.env = (false, eval e X.env) :: starEach [] X.env := by rfl) (hplain : (backTo cpos (starEach [] X.env)).any (·.1) = false := by rfl) :
    EV X (.Call (.Attribute (.Name x npos) "pop" apos) [e] [] cpos) (mMm "list" popD i l) := ev_mm PySem.F.plainAttrs_list PySem.F.slot_list_pop PySem.F.type_list_pop mt_popAt ok_pop ho ha hbase hfew hline hs hplain
theorem ev_clear (i : Nat) {x : Str} {npos apos cpos : Pos} (ho : EV X (.Name x npos) (mVar i) := by exact ev_var _)
    (hbase : attributeBase (.Name x npos) "clear" X.env (eval (.Name x npos) X.env) = eval (.Name x npos) X.env := by rfl) (hline : (apos.endLine == cpos.line) = true := by rfl) :
    EV X (.Call (.Attribute (.Name x npos) "clear" apos) [] [] cpos) (mMm "list" clrD i mNil) := ev_mm0 PySem.F.plainAttrs_list PySem.F.slot_list_clear PySem.F.type_list_clear mt_clear ok_clr ho hbase hline
theorem ev_reverse (i : Nat) {x : Str} {npos apos cpos : Pos} (ho : EV X (.Name x npos) (mVar i) := by exact ev_var _)
    (hbase : attributeBase (.Name x npos) "reverse" X.env (eval (.Name x npos) X.env) = eval (.Name x npos) X.env := by rfl) (hline : (apos.endLine == cpos.line) = true := by rfl) :
    EV X (.Call (.Attribute (.Name x npos) "reverse" apos) [] [] cpos) (mMm "list" revD i mNil) := ev_mm0 PySem.F.plainAttrs_list PySem.F.slot_list_reverse PySem.F.type_list_reverse mt_reverse ok_rev ho hbase hline
end

/-! ### x[i] = e, x op= e -/
def stL : D → D → D → Option D
  | .lst xs, .int k, y => match ixN xs.length k with
    | some j => some (.lst (xs.set j y))
    | none => none
  | _, _, _ => none
def mSto (i : Nat) (m : ME) (mi : ME) : MS := fun ρ => match m ρ with
  | some (r, ρ1) => match shr ρ1 r with
    | some (y, ρ2) => match ρ2[i]? with
      | some (some ⟨true, _, _⟩) => match mi ρ2 with
        | some (q, ρ3) => match peek ρ3 q with
          | some k => match ρ3[i]? with
            | some (some ⟨true, p, d⟩) => match stL d k y with
              | some d' => some (.nx, ρ3.set i (some ⟨true, p, d'⟩))
              | none => none
            | _ => none
          | none => none
        | none => none
      | _ => none
    | none => none
  | none => none
section
variable {X : Cx} {K : PySem.W.Frag}
theorem sto_use {i : Nat} {m mi : ME} {E : Ends} {σ : L2.St} {H : Hp} (h : tMS K (mSto i m mi) E σ H) : tAsg (tM K m) (gSub (tM K (mVar i)) (tM K mi) rSetL) E σ H := by
  obtain ⟨F, ρ, o, ρ', R, e, k⟩ := h
  unfold mSto at e
  split at e
  · rename_i r ρ1 e1
    split at e
    · rename_i y ρ2 e2
      split at e
      · rename_i p0 d0 e3
        split at e
        · rename_i q ρ3 e4
          split at e
          · rename_i kk e5
            split at e
            · rename_i p d e6
              split at e
              · rename_i d' e7
                cases e
                refine ⟨F, ρ, _, _, R, e1, fun v F1 H1 X1 h1 nw => ?_⟩
                obtain ⟨F2, X2, s2, _⟩ := Rv.shr_step X1 h1 nw e2
                refine ⟨F2, ρ2, .at i, ρ2, X2.rep, by unfold mVar; rw [e3]; rfl, fun v3 F3 H3 X3 h3 _ => ⟨F3, ρ2, _, _, X3.rep, e4, fun v4 F4 H4 X4 h4 _ => ?_⟩⟩
                obtain ⟨es', w', ew⟩ := h3
                obtain ⟨v', ev, hw⟩ := X4.rep.at_ i _ e6
                rw [es'] at ev
                cases ev
                obtain ⟨a, ea, fa, o⟩ : ∃ a, v3 = .ref a ∧ F4 a = none ∧ OwO K F4 H4 a d := by simpa [HW] using hw
                have sy := (s2.sub X3.sub).sub X4.sub
                have bk := HR.bo X4.rep h4 e5
                unfold stL at e7
                split at e7
                · split at e7
                  · rename_i j e8
                    cases e7
                    obtain ⟨us, e9, r9⟩ := own_lst o
                    refine ⟨a, us, _, j, ea, bk.int, e9, by rw [r9.length]; exact e8, ?_⟩
                    have X5 := Ex.write X4.rep e6 (by rw [es', ea]) (own_set (H := H4) (a := a) (r9.set j sy))
                    exact k σ F4 _ (((X2.trans X3).trans X4).trans X5)
                  · cases e7
                · cases e7
              · cases e
            · cases e
          · cases e
        · cases e
      · cases e
    · cases e
  · cases e
theorem sv_sto (i : Nat) {x : Str} {e ix : Expr} {m mi : ME} {npos tpos pos : Pos} (he : EV X e m) (hi : EV X ix mi) (ho : EV X (.Name x npos) (mVar i) := by exact ev_var _)
    (ha : ∀ v, assign (.Subscript (.Name x npos) ix tpos) X.env v = (do
      let ov ← holding [v] (eval (.Name x npos) X.env)
      let iv ← holding [v, ov] (eval ix X.env)
      standAt tpos
      holding [v, ov, iv] (setItem ov iv v)
      release [v, ov, iv] []) := by intro _; rfl)
    (hs : swapsWithSole [.Subscript (.Name x npos) ix tpos] e pos.line X.env = pure false := by rfl) (hw : swappedStores [.Subscript (.Name x npos) ix tpos] e X.env = pure none := by rfl)
    (h1 : (assignEach [.Subscript (.Name x npos) ix tpos] X.env).map (·.2) = [assign (.Subscript (.Name x npos) ix tpos) X.env] := by rfl) : SV X (.Assign [.Subscript (.Name x npos) ix tpos] e pos) (mSto i m mi) :=
  sv_of (ps_asg he (pg_sub ho hi set_list ha) hs hw h1) fun E σ H h => sto_use h
/-- x op= e, of shared things -/
def mAug (i : Nat) (f : D → D → Option Rs) (m : ME) : MS := fun ρ => match ρ[i]? with
  | some (some ⟨false, _, d⟩) => match m ρ with
    | some (r, ρ1) => match peek ρ1 r with
      | some e => match f d e with
        | some (.sh z) => match setW i (sw z) ρ1 with
          | some ρ2 => some (.nx, ρ2)
          | none => none
        | _ => none
      | none => none
    | none => none
  | _ => none
theorem aug_use {i : Nat} {m : ME} {f : D → D → Option Rs} {r : R2} (ok : Ok2 K r f) {E : Ends} {σ : L2.St} {H : Hp} (h : tMS K (mAug i f m) E σ H) : tAug i (tM K m) r E σ H := by
  obtain ⟨F, ρ, o, ρ', R, e, k⟩ := h
  unfold mAug at e
  split at e
  · rename_i p d e0
    split at e
    · rename_i q ρ1 e1
      split at e
      · rename_i d' e2
        split at e
        · rename_i z e3
          split at e
          · rename_i ρ2 e4
            cases e
            obtain ⟨x, ex, hx⟩ := R.at_ i _ e0
            refine ⟨x, ex, F, ρ, _, _, R, e1, fun v F1 H1 X1 h1 _ => ?_⟩
            have sx : Sh K F1 x d := Sh.sub X1.sub (by simpa [HW] using hx)
            refine ok F1 H1 x v d d' _ _ X1.rep.le (.inl sx) (HR.bo X1.rep h1 e2) e3 fun v2 F2 H2 g h2 => ?_
            have X2 := X1.trans (Gr.ex X1.rep g)
            exact k _ F2 H2 (bind_set X2 (bnd_sh h2) e4)
          · cases e
        · cases e
      · cases e
    · cases e
  · cases e
theorem sv_aug {i : Nat} {x : Str} {e : Expr} {m : ME} {op : Operator} {r : R2} {f : D → D → Option Rs} {pos pos' : Pos} (hN : X.N.Nodup) (ho : OpR X (inplaceOp op) r) (ok : Ok2 X.K r f) (he : EV X e m) (hi : X.N[i]? = some x := by rfl) (hx : Loc X.env.scope x := by first | exact Or.inl rfl | exact Or.inr rfl)
    (hf : X.fn x = true ∨ X.env.scope.names.lookup x = some .local := by first | exact .inl rfl | exact .inr rfl | assumption) : SV X (.AugAssign (.Name x pos') op e pos) (mAug i f m) :=
  sv_of (ps_aug hN hi hx he ho hf) fun E σ H h => aug_use ok h
def iaddD : D → D → Option Rs
  | .int a, .int b => some (.sh (.int (a + b)))
  | .str a, .str b => if a.length + b.length ≤ sizeLine then some (.sh (.str (a ++ b))) else none
  | _, _ => none
theorem iop_addA : OpR X (inplaceOp .Add) (fun x y H Q => rI0 (fun i j => .int (i + j)) x y H Q ∨ ∃ i j, x = .str i ∧ y = .str j ∧ i.length + j.length ≤ sizeLine ∧ Q (.str (i ++ j)) H) := OpR.or iop_add iop_add_str
theorem ok_iadd : Ok2 K (fun x y H Q => rI0 (fun i j => .int (i + j)) x y H Q ∨ ∃ i j, x = .str i ∧ y = .str j ∧ i.length + j.length ≤ sizeLine ∧ Q (.str (i ++ j)) H) iaddD :=
  Ok2.of (Ok2.or ok_addI ok_addS) fun d e z q => by
    cases d <;> cases e <;> simp [iaddD, addI, addS] at q ⊢ <;> exact q
end
end
end Mi
set_option Elab.async false
set_option linter.all false
set_option maxRecDepth 100000
set_option maxHeartbeats 1000000
set_option autoImplicit false
namespace Mi
noncomputable section
open PySem PySem.Spec PyProof.Rows L2

/-! ### a, b = .. through a tuple -/
section
variable {X : Cx} {K : PySem.W.Frag}
theorem parC_use {l : MA} {is : List Nat} (hz : is.length ≤ sizeLine) {E : Ends} {σ : L2.St} {H : Hp} (h : tMS K (mPar is l) E σ H) : tAsg (tTup (tMA K l)) (gTup K is.length (gNs is)) E σ H := by
  obtain ⟨F, ρ, o, ρ', R, e, k⟩ := h
  unfold mPar at e
  split at e
  · rename_i rs ρ1 e1
    split at e
    · rename_i ws ρ2 e2
      split at e
      · rename_i ρ3 e3
        cases e
        refine ⟨F, ρ, _, _, R, e1, fun vs F1 H1 X1 h1 nw => ?_⟩
        obtain ⟨F2, X2, b, _⟩ := bindRs_step X1 h1 nw e2
        obtain ⟨X3, hl⟩ := setWs_step X2 b e3
        refine ⟨by rw [← hl]; exact hz, fun p hp => ⟨p, vs, rfl, .inl (.inl upd_same), hl.symm, gNs_use hl ?_⟩⟩
        refine k _ F2 _ (X3.upd_new (X3.none_back hp) (X3.rep.le.none hp) fun z => ?_)
        obtain ⟨_, ob, eo⟩ := X3.rep.own_there z
        rw [hp] at eo; cases eo
      · cases e
    · cases e
  · cases e
theorem sv_parC {is : List Nat} {ts es : List Expr} {l : MA} {pt pt2 pos : Pos} {kt k2 : Nat} (hz : is.length ≤ sizeLine) (ha : AV X es l) (hg : PG X (.Tuple ts kt pt) (gTup X.K is.length (gNs is)))
    (hs : swapsWithSole [.Tuple ts kt pt] (.Tuple es k2 pt2) pos.line X.env = pure false := by rfl) (hw : swappedStores [.Tuple ts kt pt] (.Tuple es k2 pt2) X.env = pure none := by rfl)
    (h1 : (assignEach [.Tuple ts kt pt] X.env).map (·.2) = [assign (.Tuple ts kt pt) X.env] := by rfl) : SV X (.Assign [.Tuple ts kt pt] (.Tuple es k2 pt2) pos) (mPar is l) :=
  sv_of (ps_asg (pe_tup ha) hg hs hw h1) fun E σ H h => parC_use hz h
/-- a, b = e, e a tuple -/
def mUnp (tg : D → En → Option En) (m : ME) : MS := fun ρ => match m ρ with
  | some (r, ρ1) => match shr ρ1 r with
    | some (d, ρ2) => match tg d ρ2 with
      | some ρ3 => some (.nx, ρ3)
      | none => none
    | none => none
  | none => none
theorem sv_unp {is : List Nat} {t e : Expr} {g : TG} {tg : D → En → Option En} {m : ME} {pos : Pos} (ok : TgOk X.K is g tg) (he : EV X e m) (hg : PG X t g)
    (hs : swapsWithSole [t] e pos.line X.env = pure false := by rfl) (hw : swappedStores [t] e X.env = pure none := by rfl)
    (h1 : (assignEach [t] X.env).map (·.2) = [assign t X.env] := by rfl) : SV X (.Assign [t] e pos) (mUnp tg m) :=
  sv_of (ps_asg he hg hs hw h1) fun E σ H ⟨F, ρ, o, ρ', R, e, k⟩ => by
    unfold mUnp at e
    split at e
    · rename_i r ρ1 e1
      split at e
      · rename_i d ρ2 e2
        split at e
        · rename_i ρ3 e3
          cases e
          refine ⟨F, ρ, _, _, R, e1, fun v F1 H1 X1 h1 nw => ?_⟩
          obtain ⟨F2, X2, s2, _⟩ := Rv.shr_step X1 h1 nw e2
          exact ok F H σ ρ F2 H1 σ ρ2 v d _ _ X2 s2 e3 fun σ' us _ _ X3 => k σ' F2 H1 X3
        · cases e
      · cases e
    · cases e
end

/-! ### a dict is walked: locked meanwhile -/
section
variable {K : PySem.W.Frag} {F H F' H' : Hp} {σ σ' : L2.St} {ρ ρ' : En} {d : Addr} {kvs : List (Key × V)}
theorem upd_get {G : Hp} {a b : Addr} {o u : HO} (h : upd G a o b = some u) : (b = a ∧ u = o) ∨ (b ≠ a ∧ G b = some u) := by
  by_cases e : b = a
  · subst e; rw [upd_same] at h; exact .inl ⟨rfl, (Option.some.inj h).symm⟩
  · rw [upd_ne e] at h; exact .inr ⟨e, h⟩
theorem sub_lock (od : Obj) (h : F d = some (.dK kvs)) : Sub F (upd F d (.frz od (.dK kvs))) := by
  refine ⟨fun a u p r => ?_, fun a vs e => ?_, fun a vs e => ?_⟩
  · by_cases ha : a = d
    · subst ha
      rcases r with r | ⟨o, r⟩
      · rw [h] at r; cases r; exact .inr ⟨od, upd_same⟩
      · rw [h] at r; cases r
    · rcases r with r | ⟨o, r⟩
      · exact .inl (by rw [upd_ne ha]; exact r)
      · exact .inr ⟨o, by rw [upd_ne ha]; exact r⟩
  · rw [upd_ne (fun z => by rw [z, h] at e; cases e)]; exact e
  · rw [upd_ne (fun z => by rw [z, h] at e; cases e)]; exact e
theorem sub_unlock {od : Obj} (h : F d = some (.frz od (.dK kvs))) : Sub F (upd F d (.dK kvs)) := by
  refine ⟨fun a u p r => ?_, fun a vs e => ?_, fun a vs e => ?_⟩
  · by_cases ha : a = d
    · subst ha
      rcases r with r | ⟨o, r⟩
      · rw [h] at r; cases r; exact p.elim
      · rw [h] at r; cases r; exact .inl upd_same
    · rcases r with r | ⟨o, r⟩
      · exact .inl (by rw [upd_ne ha]; exact r)
      · exact .inr ⟨o, by rw [upd_ne ha]; exact r⟩
  · rw [upd_ne (fun z => by rw [z, h] at e; cases e)]; exact e
  · rw [upd_ne (fun z => by rw [z, h] at e; cases e)]; exact e
theorem le_upd2 {o : HO} (l : Le F H) : Le (upd F d o) (upd H d o) := fun a u e => by
  rcases upd_get e with ⟨rfl, rfl⟩ | ⟨n, e⟩
  · exact upd_same
  · rw [upd_ne n]; exact l a u e
theorem rep_relay {o : HO} (R : Rep K F H σ ρ) (hF : ∃ u, F d = some u) (s : Sub F (upd F d o)) : Rep K (upd F d o) (upd H d o) σ ρ := by
  refine ⟨le_upd2 R.le, fun i w e => ?_, R.inj, R.len⟩
  obtain ⟨v, e1, h⟩ := R.at_ i w e
  refine ⟨v, e1, h.ex s fun a ea ho => ?_⟩
  obtain ⟨n, _⟩ := R.own_there (a := a) ⟨i, w.pin, w.d, by rw [← w_eta ho]; exact e, by rw [e1, ea]⟩
  have na : a ≠ d := by
    rintro rfl
    obtain ⟨u, hu⟩ := hF
    rw [n] at hu; cases hu
  exact ⟨by rw [upd_ne na]; exact n, upd_ne na⟩
/-- from within the lock to without -/
theorem ex_unlock (R : Rep K F H σ ρ) (od : Obj) (h : F d = some (.dK kvs)) (X : Ex K (upd F d (.frz od (.dK kvs))) (upd H d (.frz od (.dK kvs))) σ ρ F' H' σ' ρ') :
    H' d = some (.frz od (.dK kvs)) ∧ F' d = some (.frz od (.dK kvs)) ∧ Ex K F H σ ρ (upd F' d (.dK kvs)) (upd H' d (.dK kvs)) σ' ρ' := by
  have Rl := rep_relay R ⟨_, h⟩ (sub_lock od h)
  have h1 : H' d = some (.frz od (.dK kvs)) := X.kept Rl d _ _ upd_same upd_same
  have h2 : F' d = some (.frz od (.dK kvs)) := by
    rcases X.sub.rd d (.dK kvs) trivial (.inr ⟨od, upd_same⟩) with q | ⟨o, q⟩
    · have := X.rep.le _ _ q
      rw [h1] at this; cases this
    · have := X.rep.le _ _ q
      rw [h1] at this; cases this
      exact q
  have hd : H d = some (.dK kvs) := R.le _ _ h
  have nown : ¬ Own σ ρ d := fun z => by
    obtain ⟨n, _⟩ := R.own_there z
    rw [h] at n; cases n
  refine ⟨h1, h2, ⟨rep_relay X.rep ⟨_, h2⟩ (sub_unlock h2), ?_, fun a o q n => ?_, fun a o q => ?_, fun a o q => ?_, fun i p dd a q1 q2 => ?_, X.asg, X.pin, X.len⟩⟩
  · exact ((sub_lock od h).trans X.sub).trans (sub_unlock h2)
  · by_cases ha : a = d
    · subst ha; rw [hd] at q; cases q; exact upd_same
    · rw [upd_ne ha]
      exact X.frame a o (by rw [upd_ne ha]; exact q) n
  · by_cases ha : a = d
    · subst ha; exact ⟨_, upd_same⟩
    · rw [upd_ne ha]
      exact X.live a o (by rw [upd_ne ha]; exact q)
  · by_cases ha : a = d
    · subst ha; exact .inl ⟨_, h⟩
    · rw [upd_ne ha] at q
      rcases X.newF a o q with ⟨u, z⟩ | z | z
      · rw [upd_ne ha] at z; exact .inl ⟨u, z⟩
      · rw [upd_ne ha] at z; exact .inr (.inl z)
      · exact .inr (.inr z)
  · rcases X.own i p dd a q1 q2 with z | z
    · exact .inl z
    · by_cases ha : a = d
      · subst ha; rw [upd_same] at z; cases z
      · rw [upd_ne ha] at z; exact .inr z
theorem hr_unlock {od : Obj} {v : V} {r : Rv} (R : Rep K F' H' σ' ρ') (h2 : F' d = some (.frz od (.dK kvs))) (h : HR K F' H' σ' ρ' v r) : HR K (upd F' d (.dK kvs)) (upd H' d (.dK kvs)) σ' ρ' v r := by
  cases r with
  | sh dd => exact Sh.sub (sub_unlock h2) h
  | ow dd =>
    obtain ⟨a, ea, n, o, no⟩ := h
    have na : a ≠ d := by rintro rfl; rw [h2] at n; cases n
    exact ⟨a, ea, by rw [upd_ne na]; exact n, o.sub (sub_unlock h2) (upd_ne na), no⟩
  | «at» i => exact h
theorem nw_unlock {v : V} {r : Rv} {o u : HO} (hd : H d = some u) (h : Nw (upd H d o) v r) : Nw H v r := by
  cases r with
  | ow dd =>
    obtain ⟨a, ea, n⟩ := h
    by_cases ha : a = d
    · subst ha; rw [upd_same] at n; cases n
    · rw [upd_ne ha] at n; exact ⟨a, ea, n⟩
  | _ => trivial
theorem nw_lock {v : V} {r : Rv} {o u : HO} (hd : H d = some u) (h : Nw H v r) : Nw (upd H d o) v r := by
  cases r with
  | ow dd =>
    obtain ⟨a, ea, n⟩ := h
    refine ⟨a, ea, ?_⟩
    rw [upd_ne (fun z => by rw [z, hd] at n; cases n)]; exact n
  | _ => trivial
end
/-- keys, values, pairs -/
inductive Wk where
  | keys | vals | items
def kD : Key → D
  | .inl i => .int i
  | .inr x => .str x
def wkD : Wk → List (Key × D) → List D
  | .keys, l => l.map fun p => kD p.1
  | .vals, l => l.map fun p => p.2
  | .items, l => l.map fun p => .tup [kD p.1, p.2]
def wk1 : Wk → Key → D → D
  | .keys, k, _ => kD k
  | .vals, _, d => d
  | .items, k, d => .tup [kD k, d]
def itW : Wk → Addr → Obj → List (Key × V) → It
  | .keys, d, o, kvs => Itk d o kvs
  | .vals, d, o, kvs => Itd d o kvs
  | .items, d, o, kvs => Iti d o kvs
theorem sh_key {K : PySem.W.Frag} {F : Hp} (k : Key) : Sh K F (kV k) (kD k) := by
  cases k with
  | inl i => exact .int i
  | inr x => exact .str x
theorem Shk.get {K : PySem.W.Frag} {F : Hp} : ∀ {vs : List (Key × V)} {ds : List (Key × D)}, Shk K F vs ds → ∀ {i : Nat} {k : Key} {d : D}, ds[i]? = some (k, d) → ∃ v, vs[i]? = some (k, v) ∧ Sh K F v d
  | _, _, .nil, i, k, d, e => by simp at e
  | _, _, .cons h r, 0, k, d, e => by simp at e; obtain ⟨rfl, rfl⟩ := e; exact ⟨_, rfl, h⟩
  | _, _, .cons h r, i + 1, k, d, e => by
    obtain ⟨v, e1, e2⟩ := Shk.get r (i := i) (k := k) (d := d) (by simpa using e)
    exact ⟨v, by simpa using e1, e2⟩
theorem itw_ok {K : PySem.W.Frag} {F H : Hp} {d : Addr} {o : Obj} {kvs : List (Key × V)} {kds : List (Key × D)} (wk : Wk) (hF : F d = some (.frz o (.dK kvs))) (hH : H d = some (.frz o (.dK kvs))) (r : Shk K F kvs kds) : ItOK K (itW wk d o kvs) F H (wkD wk kds) := by
  have get : ∀ (i : Nat) (z : D), (wkD wk kds)[i]? = some z → ∃ k v dd, kvs[i]? = some (k, v) ∧ Sh K F v dd ∧ i < kvs.length ∧ z = wk1 wk k dd := fun i z e => by
    have : ∃ p, kds[i]? = some p ∧ z = wk1 wk p.1 p.2 := by
      cases wk <;> (simp only [wkD, List.getElem?_map, Option.map_eq_some_iff] at e; obtain ⟨p, e1, e2⟩ := e; exact ⟨p, e1, e2.symm⟩)
    obtain ⟨⟨k, dd⟩, e1, e2⟩ := this
    obtain ⟨v, e3, h3⟩ := r.get e1
    exact ⟨k, v, dd, e3, h3, (List.getElem?_eq_some_iff.mp e3).1, e2⟩
  have len : (wkD wk kds).length = kvs.length := by cases wk <;> simp [wkD, r.length]
  refine ⟨fun i F2 H2 z s l kp e => ?_, fun i F2 H2 s l kp hi => ?_⟩
  · have hd2 := kp d _ _ hF hH
    obtain ⟨k, v, dd, e1, h1, hi, ez⟩ := get i z e
    cases wk with
    | keys =>
      refine ⟨⟨hd2, hi⟩, fun x H3 ⟨e2, k', v', e3, e4⟩ => ⟨F2, by rw [e2]; exact Gr.refl l, ?_⟩⟩
      rw [e1] at e3; cases e3
      rw [e4, ez]; exact sh_key k
    | vals =>
      refine ⟨⟨hd2, hi⟩, fun x H3 ⟨e2, k', e3⟩ => ⟨F2, by rw [e2]; exact Gr.refl l, ?_⟩⟩
      rw [e1] at e3; cases e3
      rw [ez]; exact h1.sub s
    | items =>
      refine ⟨⟨hd2, hi⟩, fun x H3 ⟨T, k', v', e3, e4, hT, e5⟩ => ⟨upd F2 T (.tup [kV k', v']), by rw [e5]; exact Gr.new_sh l hT, ?_⟩⟩
      rw [e1] at e3; cases e3
      rw [e4, ez]
      have sb := (le_upd (o := .tup [kV k, v]) (l.none hT)).sub
      exact .tup (.inl upd_same) (.cons (sh_key k) (.cons (h1.sub (s.trans sb)) .nil))
  · have hd2 := kp d _ _ hF hH
    cases wk <;> exact ⟨hd2, by rw [← len]; exact hi⟩
/-- the dict in slot i, walked -/
def mDs (wk : Wk) (i : Nat) : MI := fun ρ => match ρ[i]? with
  | some (some ⟨false, _, .dic kds⟩) => some (wkD wk kds, ρ)
  | _ => none
section
variable {X : Cx} {K : PySem.W.Frag}
def iW (wk : Wk) (td : TE) : TI := fun σ H R => td σ H fun x H1 => ∃ d o kvs, x = .ref d ∧ H1 d = some (.frz o (.dK kvs)) ∧ R (itW wk d o kvs) H1
theorem ds_slot {wk : Wk} {F H : Hp} {σ : L2.St} {ρ ρ1 : En} {i : Nat} {ds : List D} (R : Rep K F H σ ρ) (e : mDs wk i ρ = some (ds, ρ1)) : ρ1 = ρ ∧ ∃ p kds d kvs, ρ[i]? = some (some ⟨false, p, .dic kds⟩) ∧ ds = wkD wk kds ∧ σ[i]? = some (some (.ref d)) ∧ Rd F d (.dK kvs) ∧ Shk K F kvs kds := by
  unfold mDs at e
  split at e
  · rename_i p kds e1
    cases e
    obtain ⟨v, e2, h⟩ := R.at_ i _ e1
    have hh : Sh K F v (.dic kds) := by simpa [HW] using h
    cases hh with
    | dic h' r => exact ⟨rfl, p, kds, _, _, e1, rfl, e2, h', r⟩
  · cases e
theorem var_sh {F H : Hp} {σ : L2.St} {ρ : En} {i : Nat} {p : Bool} {d : D} {v : V} {Q : VK} (R : Rep K F H σ ρ) (e : ρ[i]? = some (some ⟨false, p, d⟩)) (es : σ[i]? = some (some v)) (k : Q v H) : tM K (mVar i) σ H fun x H1 => x = v ∧ H1 = H ∧ Q v H ∨ True := by
  exact ⟨F, ρ, .sh d, ρ, R, by unfold mVar; rw [e]; rfl, fun v' F' H' X' h nw => .inr trivial⟩
def mForD (wk : Wk) (i : Nat) (tg : D → En → Option En) (b : MS) : MS := mFor (mDs wk i) tg b
/-- both ways: it is locked already, or it is locked here -/
def tForD (wk : Wk) (i : Nat) (g : TG) (tb : TS) : TS := fun E σ H => tFor (iW wk (tVar i)) g tb E σ H ∨ tLock (tFor (iW wk (tVar i)) g tb) E σ H
theorem forD_use {wk : Wk} {i : Nat} {is : List Nat} {g : TG} {tg : D → En → Option En} {b : MS} (hg : TgOk K is g tg) {E : Ends} {σ : L2.St} {H : Hp} (h : tMS K (mForD wk i tg b) E σ H) : tForD wk i g (tMS K b) E σ H := by
  obtain ⟨F, ρ, o, ρe, R, e, k⟩ := h
  unfold mForD mFor at e
  split at e
  · rename_i ds ρ1 e1
    obtain ⟨rfl, p, kds, d, kvs, e2, rfl, e3, h4, r⟩ := ds_slot R e1
    rcases h4 with h4 | ⟨od, h4⟩
    · -- it is locked here
      refine .inr ⟨d, .dK kvs, R.le _ _ h4, trivial, fun od => ?_⟩
      have Rl := rep_relay (o := .frz od (.dK kvs)) R ⟨_, h4⟩ (sub_lock od h4)
      refine ⟨.ref d, e3, d, od, kvs, rfl, upd_same, ?_⟩
      refine for_core hg (Ex.refl Rl) (itw_ok wk upd_same upd_same (r.sub (sub_lock od h4))) e fun σ' F' H' X' => ?_
      obtain ⟨h1, h2, X2⟩ := ex_unlock R od h4 X'
      have q := k σ' _ _ X2
      cases o with
      | nx => exact ⟨h1, q⟩
      | bk => exact ⟨h1, q⟩
      | ct => exact ⟨h1, q⟩
      | rt rr => exact fun v hv nw => ⟨h1, q v (hr_unlock X'.rep h2 hv) (nw_unlock (R.le _ _ h4) nw)⟩
    · refine .inl ⟨.ref d, e3, d, od, kvs, rfl, R.le _ _ h4, ?_⟩
      exact for_core hg (Ex.refl R) (itw_ok wk h4 (R.le _ _ h4) r) e k
  · cases e
theorem PS.or {st : Stmt} {t u : TS} (h : PS X st t) (h' : PS X st u) : PS X st (fun D σ H => t D σ H ∨ u D σ H) := ⟨fun pins s σ H D I hw => hw.elim (h.run pins s σ H D I) (h'.run pins s σ H D I)⟩
theorem pi_imp {tg e : Expr} {t u : TI} (h : PI X tg e t) (hi : ∀ σ H R, u σ H R → t σ H R) : PI X tg e u := ⟨fun pins s σ H R I hw => h.run pins s σ H R I (hi σ H R hw)⟩
theorem piW_keys {i : Nat} {tg e : Expr} (he : PE X e (tVar i)) : PI X tg e (iW .keys (tVar i)) := pi_imp (pi_keys he) fun σ H R ⟨v, e, d, o, kvs, e1, e2, q⟩ => ⟨v, e, d, o, e1, .inl ⟨kvs, e2, q⟩⟩
theorem sv_forD {wk : Wk} {i : Nat} {tg iter : Expr} {body : List Stmt} {is : List Nat} {g : TG} {mt : D → En → Option En} {b : MS} {pos : Pos} (hp : PassesOwn (model X.prog X.w) X.A X.env X.xe) (hc : X.calm = true) (ok : TgOk X.K is g mt) (hi : PI X tg iter (iW wk (tVar i))) (hg : PG X tg g) (hb : SVs X body b)
    (hs : ∀ x, foldedSetIterable iter X.env x = pure x := by intro _; rfl) : SV X (.For tg iter body [] pos) (mForD wk i mt b) :=
  sv_of (PS.or (ps_for hp hc hi hg hb hs) (ps_lock (ps_for hp hc hi hg hb hs))) fun E σ H h => forD_use ok h
/-- .. in a comprehension -/
theorem lcD_use {wk : Wk} {i : Nat} {is vs : List Nat} {g : TG} {tg : D → En → Option En} {tt : MT} {te : ME} (hg : TgOk K is g tg) (hv : ∀ i ∈ is, i ∈ vs) {σ : L2.St} {H : Hp} {Q : VK} {F ρ z ρe} (R : Rep K F H σ ρ) (e : mLc (mDs wk i) tg tt te vs ρ = some (z, ρe))
    (k : ∀ v F' H', Ex K F H σ ρ F' H' σ ρe → HR K F' H' σ ρe v z → Nw H v z → Q v H') : tLc (iW wk (tVar i)) g (tMT K tt) (tM K te) vs σ H Q ∨ tLockE (tLc (iW wk (tVar i)) g (tMT K tt) (tM K te) vs) σ H Q := by
  unfold mLc at e
  split at e
  · rename_i ds ρ1 e1
    obtain ⟨rfl, p, kds, d, kvs, e2, rfl, e3, h4, r⟩ := ds_slot R e1
    split at e
    · rename_i accE ρE e5
      cases e
      rcases h4 with h4 | ⟨od, h4⟩
      · refine .inr ⟨d, .dK kvs, R.le _ _ h4, trivial, fun od => ?_⟩
        have Rl := rep_relay (o := .frz od (.dK kvs)) R ⟨_, h4⟩ (sub_lock od h4)
        refine ⟨.ref d, e3, d, od, kvs, rfl, upd_same, fun A hA => ?_⟩
        refine lc_core' (Q := fun v H' => H' d = some (.frz od (.dK kvs)) ∧ Q v (upd H' d (.dK kvs))) hg hv (Ex.refl Rl) (itw_ok wk upd_same upd_same (r.sub (sub_lock od h4))) e5 (fun v F' H' X' hv' nw => ?_) A hA
        obtain ⟨h1, h2, X2⟩ := ex_unlock R od h4 X'
        exact ⟨h1, k v _ _ X2 (hr_unlock X'.rep h2 hv') (nw_unlock (R.le _ _ h4) nw)⟩
      · exact .inl ⟨.ref d, e3, d, od, kvs, rfl, R.le _ _ h4, fun A hA => lc_core' hg hv (Ex.refl R) (itw_ok wk h4 (R.le _ _ h4) r) e5 k A hA⟩
    · cases e
  · cases e
theorem ev_lcD {wk : Wk} {i : Nat} {elt tg iter : Expr} {ifs : List Expr} {scope : Scope} {own : List (Str × Nat)} {pos : Pos} {is : List Nat} {g : TG} {mt : D → En → Option En} {tt : MT} {te : ME} (hc : X.calm = true) (hN : X.N.Nodup) (okt : TgOk X.K is g mt) (hv : ∀ i ∈ is, i ∈ own.map (·.2)) (hi : PI X tg iter (iW wk (tVar i))) (ok : BlkOk X.N X.env.scope scope own)
    (hg : ∀ (s : Shared) (H : Hp) (C : Addr) (cl : List (Str × Addr)) (fp : List Addr), PG (X.blk s H scope (compEnvC scope cl C X.env) fp) tg g) (ht : ∀ (s : Shared) (H : Hp) (C : Addr) (cl : List (Str × Addr)) (fp : List Addr), TVs (X.blk s H scope (compEnvC scope cl C X.env) fp) ifs tt)
    (he : ∀ (s : Shared) (H : Hp) (C : Addr) (cl : List (Str × Addr)) (fp : List Addr), EV (X.blk s H scope (compEnvC scope cl C X.env) fp) elt te) (hs : ∀ x, foldedSetIterable iter X.env x = pure x := by intro _; rfl) :
    EV X (.ListComp elt [⟨tg, iter, ifs, 0⟩] scope pos) (mLc (mDs wk i) mt tt te (own.map (·.2))) :=
  ev_of (PE.or (pe_lc hc hN hi ok hg ht he hs) (pe_lock (pe_lc hc hN hi ok hg ht he hs))) fun σ H Q F ρ r ρ' R e k => lcD_use okt hv R e k
theorem sv_setLcD {wk : Wk} {j i : Nat} {y : Str} {elt tg iter : Expr} {ifs : List Expr} {scope : Scope} {own : List (Str × Nat)} {pos py spos : Pos} {is : List Nat} {g : TG} {mt : D → En → Option En} {tt : MT} {te : ME} (hc : X.calm = true) (hN : X.N.Nodup) (okt : TgOk X.K is g mt) (hv : ∀ i ∈ is, i ∈ own.map (·.2)) (hi : PI X tg iter (iW wk (tVar i))) (ok : BlkOk X.N X.env.scope scope own)
    (hg : ∀ (s : Shared) (H : Hp) (C : Addr) (cl : List (Str × Addr)) (fp : List Addr), PG (X.blk s H scope (compEnvC scope cl C X.env) fp) tg g) (ht : ∀ (s : Shared) (H : Hp) (C : Addr) (cl : List (Str × Addr)) (fp : List Addr), TVs (X.blk s H scope (compEnvC scope cl C X.env) fp) ifs tt)
    (he : ∀ (s : Shared) (H : Hp) (C : Addr) (cl : List (Str × Addr)) (fp : List Addr), EV (X.blk s H scope (compEnvC scope cl C X.env) fp) elt te)
    (hsw : swapsWith (.ListComp elt [⟨tg, iter, ifs, 0⟩] scope pos) (some (.Name y py)) spos.line X.env = pure true) (hy : X.N[j]? = some y := by rfl) (hyl : X.env.scope.names.lookup y = some .local := by rfl) (hs : ∀ x, foldedSetIterable iter X.env x = pure x := by intro _; rfl) :
    SV X (.Assign [.Name y py] (.ListComp elt [⟨tg, iter, ifs, 0⟩] scope pos) spos) (mSet j (mLc (mDs wk i) mt tt te (own.map (·.2)))) :=
  sv_of (PS.or (ps_setLc hc hN hy hyl hsw hi ok hg ht he hs) (ps_lock (ps_setLc hc hN hy hyl hsw hi ok hg ht he hs))) fun E σ H h => by
    obtain ⟨F, ρ, o, ρ', R, e, k⟩ := h
    unfold mSet at e
    split at e
    · rename_i r ρ1 e1
      split at e
      · rename_i w ρ2 e2
        split at e
        · rename_i ρ3 e3
          cases e
          have fin : ∀ v F1 H1, Ex X.K F H σ ρ F1 H1 σ ρ1 → HR X.K F1 H1 σ ρ1 v r → Nw H v r → gName j v σ H1 E.nx := fun v F1 H1 X1 h1 nw => by
            obtain ⟨F2, X2, b, _⟩ := bindR_step X1 h1 nw e2
            exact k _ F2 H1 (bind_set X2 b e3)
          rcases lcD_use okt hv R e1 fin with q | q
          · exact .inl q
          · exact .inr q
        · cases e
      · cases e
    · cases e
end
end
end Mi
set_option Elab.async false
set_option linter.all false
set_option maxRecDepth 100000
set_option maxHeartbeats 1000000
set_option autoImplicit false
namespace Mi
noncomputable section
open PySem PySem.Spec PyProof.Rows L2

/-! ### dicts made -/
def putD (kvs : List (Key × D)) (k : Key) (v : D) : List (Key × D) := if kvs.any (fun kv => decide (kv.1 = k)) then kvs.map (fun kv => if kv.1 = k then (kv.1, v) else kv) else kvs ++ [(k, v)]
def mergeD (kvs more : List (Key × D)) : List (Key × D) := more.foldl (fun acc kv => putD acc kv.1 kv.2) kvs
section
variable {X : Cx} {K : PySem.W.Frag} {F H : Hp}
theorem Shk.any {k : Key} : ∀ {vs : List (Key × V)} {ds : List (Key × D)}, Shk K F vs ds → (vs.any fun kv => decide (kv.1 = k)) = ds.any fun kv => decide (kv.1 = k)
  | _, _, .nil => rfl
  | _, _, .cons h r => by simp [Shk.any (k := k) r]
theorem Shk.append : ∀ {vs us : List (Key × V)} {ds es : List (Key × D)}, Shk K F vs ds → Shk K F us es → Shk K F (vs ++ us) (ds ++ es)
  | _, _, _, _, .nil, r => r
  | _, _, _, _, .cons h t, r => .cons h (Shk.append t r)
theorem Shk.repl {k : Key} {v : V} {d : D} (s : Sh K F v d) : ∀ {vs : List (Key × V)} {ds : List (Key × D)}, Shk K F vs ds → Shk K F (vs.map fun kv => if kv.1 = k then (kv.1, v) else kv) (ds.map fun kv => if kv.1 = k then (kv.1, d) else kv)
  | _, _, .nil => .nil
  | _, _, .cons (k := k') h r => by
    by_cases e : k' = k
    · simpa [e] using Shk.cons (k := k) s (Shk.repl s r)
    · simpa [e] using Shk.cons (k := k') h (Shk.repl s r)
theorem Shk.put {k : Key} {v : V} {d : D} (s : Sh K F v d) {vs : List (Key × V)} {ds : List (Key × D)} (r : Shk K F vs ds) : Shk K F (putK vs k v) (putD ds k d) := by
  unfold putK putD
  rw [r.any]
  split
  · exact Shk.repl s r
  · exact r.append (.cons s .nil)
theorem Shk.merge : ∀ {us vs : List (Key × V)} {es ds : List (Key × D)}, Shk K F us es → Shk K F vs ds → Shk K F (mergeK vs us) (mergeD ds es)
  | _, _, _, _, .nil, r => r
  | _, _, _, _, .cons (vs := vs) (ds := ds) h t, r => Shk.merge (us := vs) (es := ds) t (Shk.put h r)
/-- {} -/
theorem ev_dnew {pos : Pos} : EV X (.Dict [] [] pos) (fun ρ => some (.ow (.dic []), ρ)) := by
  refine ev_of pe_dnewK fun σ H Q F ρ r ρ' R e k => ?_
  cases e
  intro p hp
  have g : Gr F H F (upd H p (.dK [])) := Gr.new_own R.le hp
  have hn : HN X.K H F (upd H p (.dK [])) (.ref p) (.ow (.dic [])) := ⟨p, rfl, hp, R.le.none hp, [], upd_same, .nil⟩
  have q := hn.hr R
  exact k _ _ _ (Gr.ex R g) q.1 q.2
def mDnew : ME := fun ρ => some (.ow (.dic []), ρ)
/-- {k: v, ..} -/
def prs (ρ : En) : List (ME × ME) → Option (List (Key × D) × En)
  | [] => some ([], ρ)
  | (a, b) :: l => match a ρ with
    | some (r, ρ1) => match peek ρ1 r with
      | some kd => match keyD kd with
        | some k => match b ρ1 with
          | some (q, ρ2) => match shr ρ2 q with
            | some (d, ρ3) => match prs ρ3 l with
              | some (kds, ρ4) => some ((k, d) :: kds, ρ4)
              | none => none
            | none => none
          | none => none
        | none => none
      | none => none
    | none => none
def mDisp (l : List (ME × ME)) : ME := fun ρ => match prs ρ l with
  | some (kds, ρ1) => if kds.length ≤ 15 then some (.ow (.dic (mergeD [] kds)), ρ1) else none
  | none => none
def trsOf (K : PySem.W.Frag) (l : List (ME × ME)) : List (TE × TE) := l.map fun p => (tM K p.1, tM K p.2)
theorem prs_use : ∀ {l : List (ME × ME)} {F H : Hp} {σ : L2.St} {ρ ρ' : En} {kds : List (Key × D)} {Q : List (V × V) → Hp → Prop}, Rep K F H σ ρ → prs ρ l = some (kds, ρ') →
    (∀ kvs F' H', Ex K F H σ ρ F' H' σ ρ' → Shk K F' kvs kds → Q (kvs.map fun kv => (kV kv.1, kv.2)) H') → tPairs (trsOf K l) σ H Q
  | [], F, H, σ, ρ, ρ', kds, Q, R, e, k => by
    cases e
    exact k [] F H (Ex.refl R) .nil
  | (a, b) :: l, F, H, σ, ρ, ρ', kds, Q, R, e, k => by
    unfold prs at e
    split at e
    · rename_i r ρ1 e1
      split at e
      · rename_i kd e2
        split at e
        · rename_i kk e3
          split at e
          · rename_i q ρ2 e4
            split at e
            · rename_i d ρ3 e5
              split at e
              · rename_i kds2 ρ4 e6
                cases e
                refine ⟨F, ρ, _, _, R, e1, fun v F1 H1 X1 h1 _ => ⟨F1, ρ1, _, _, X1.rep, e4, fun u F2 H2 X2 h2 nw2 => ?_⟩⟩
                have ek := (HR.bo X1.rep h1 e2).key e3
                obtain ⟨F3, X3, s3, _⟩ := Rv.shr_step X2 h2 nw2 e5
                refine prs_use X3.rep e6 fun kvs F4 H4 X4 r4 => ?_
                rw [ek]
                exact k ((kk, u) :: kvs) F4 H4 ((X1.trans X3).trans X4) (.cons (s3.sub X4.sub) r4)
              · cases e
            · cases e
          · cases e
        · cases e
      · cases e
    · cases e
theorem ev_disp {pos : Pos} {keys : List (Option Expr)} {values : List Expr} {l : List (ME × ME)} (h : PPs X pos keys values (trsOf X.K l)) (hall : keys.all (·.isSome) = true := by rfl) (hl : keys.length = values.length := by rfl) (h0 : keys ≠ [] := by intro z; cases z)
    (h15 : keys.length ≤ 15 := by decide) : EV X (.Dict keys values pos) (mDisp l) := by
  refine ev_of (pe_disp h hall hl h0 h15) fun σ H Q F ρ r ρ' R e k => ?_
  unfold mDisp at e
  split at e
  · rename_i kds ρ1 e1
    split at e
    · rename_i hz
      cases e
      intro p hp
      have g : Gr F H F (upd H p (.dK [])) := Gr.new_own R.le hp
      have X0 := Gr.ex R g
      refine prs_use X0.rep e1 fun kvs F1 H1 X1 r1 => ?_
      have no : ¬ Own σ ρ p := fun z => by
        obtain ⟨_, ob, eo⟩ := R.own_there z
        rw [hp] at eo; cases eo
      have h1 : H1 p = some (.dK []) := X1.frame p _ upd_same no
      have f1 : F1 p = none := by
        cases q : F1 p with
        | none => rfl
        | some z =>
          rcases X1.newF p z q with ⟨u, e'⟩ | e' | e'
          · rw [R.le.none hp] at e'; cases e'
          · rw [upd_same] at e'; cases e'
          · exact absurd e' no
      have no1 : ¬ Own σ ρ' p := fun z => by
        rcases X1.ownd z with z | z
        · exact no z
        · rw [upd_same] at z; cases z
      refine ⟨h1, kvs, rfl, by rw [r1.length]; exact hz, ?_⟩
      exact k _ F1 _ ((X0.trans X1).upd_new hp f1 no1) ⟨p, rfl, f1, ⟨_, upd_same, r1.merge .nil⟩, no1⟩ ⟨p, rfl, hp⟩
    · cases e
  · cases e
theorem pp_nil {pos : Pos} : PPs X pos [] [] (trsOf X.K []) := pps_nil
theorem pp_cons {pos : Pos} {k v : Expr} {ks : List (Option Expr)} {vs : List Expr} {a b : ME} {l : List (ME × ME)} (hk : EV X k a) (hv : EV X v b) (hr : PPs X pos ks vs (trsOf X.K l)) : PPs X pos (some k :: ks) (v :: vs) (trsOf X.K ((a, b) :: l)) := pps_cons hk hv hr
/-- dict(pairs) -/
def pairsD : List D → Option (List (Key × D))
  | [] => some []
  | .tup [k, v] :: ds => match keyD k with
    | some kk => match pairsD ds with
      | some l => some ((kk, v) :: l)
      | none => none
    | none => none
  | _ => none
def dictD : List D → Option Rs
  | [.lst ds] => match pairsD ds with
    | some l => some (.ow (.dic (mergeD [] l)))
    | none => none
  | _ => none
theorem pairs_ok : ∀ {vs : List V} {ds : List D} {l : List (Key × D)}, Le F H → Shs K F vs ds → pairsD ds = some l → ∃ ps kvs, vs = ps.map V.ref ∧ Paired (fun p kv => SqT K H p [kV kv.1, kv.2]) ps kvs ∧ Shk K F kvs l
  | _, _, _, _, .nil, e => by cases e; exact ⟨[], [], rfl, .nil, .nil⟩
  | _, _, _, lh, .cons h r, e => by
    unfold pairsD at e
    split at e
    · rename_i he; cases he
    · rename_i k v ds2 he
      cases he
      split at e
      · rename_i kk e1
        split at e
        · rename_i l2 e2
          cases e
          obtain ⟨ps, kvs, q1, q2, q3⟩ := pairs_ok lh r e2
          cases h with
          | tup h1 r1 =>
            cases r1 with
            | cons s1 r2 =>
              cases r2 with
              | cons s2 r3 =>
                cases r3
                have ek := (show Bo K F H _ k from .inl s1).key e1
                refine ⟨_ :: ps, (kk, _) :: kvs, by rw [q1]; rfl, .cons ?_ q2, .cons s2 q3⟩
                have := sqT_sub lh.sub h1.sq
                rw [ek] at this
                exact this
        · cases e
      · cases e
    · cases e
theorem ok_dict : OkC K (fun xs H Q => ∃ (a : Addr) (ps : List Addr) (kvs : List (Key × V)), xs = [.ref a] ∧ SqL K H a (ps.map V.ref) ∧ Paired (fun p kv => SqT K H p [kV kv.1, kv.2]) ps kvs ∧ ∀ p, H p = none → Q (.ref p) (upd H p (.dK (mergeK [] kvs)))) dictD := fun F H vs ds z Q l bb q k => by
  unfold dictD at q
  split at q
  · split at q
    · rename_i kds e
      cases q
      obtain ⟨v, rfl, b⟩ := bb.one
      obtain ⟨a, us, e1, h1, r⟩ := b.list l
      obtain ⟨ps, kvs, q1, q2, q3⟩ := pairs_ok l r e
      rw [q1] at h1
      exact ⟨a, ps, kvs, by rw [e1], h1, q2, fun p hp => k _ F _ (Gr.new_own l hp) ⟨p, rfl, hp, l.none hp, _, upd_same, q3.merge .nil⟩⟩
    · cases q
  · cases q

end
/-! ### repr -/
mutual
def toF : D → Option PyData
  | .non => some .none
  | .bl b => some (.bool b)
  | .int i => some (.int i)
  | .str x => some (.str x)
  | .tup ds => (toFs ds).map .tuple
  | _ => none
def toFs : List D → Option (List PyData)
  | [] => some []
  | d :: ds => match toF d, toFs ds with
    | some p, some ps => some (p :: ps)
    | _, _ => none
end
def kP : Key → PyData
  | .inl i => .int i
  | .inr x => .str x
def toK : List (Key × D) → Option (List (PyData × PyData))
  | [] => some []
  | (k, d) :: ds => match toF d, toK ds with
    | some p, some ps => some ((kP k, p) :: ps)
    | _, _ => none
def toR : D → Option PyData
  | .dic kds => (toK kds).map .dict
  | d => toP d
def shOk (p : PyData) : Bool := p.showable && decide (p.depth ≤ 100) && decide (p.shown.length ≤ sizeLine)
def reprD : List D → Option Rs
  | [d] => match toR d with
    | some p => if shOk p then some (.sh (.str p.shown)) else none
    | none => none
  | _ => none
mutual
theorem toP_nd : ∀ {d : D} {p : PyData}, toP d = some p → p.hasDict = false
  | .non, p, e => by cases e; rfl
  | .bl _, p, e => by cases e; rfl
  | .int _, p, e => by cases e; rfl
  | .str _, p, e => by cases e; rfl
  | .ty _, p, e => by cases e
  | .dic _, p, e => by cases e
  | .lst ds, p, e => by
    simp only [toP, Option.map_eq_some_iff] at e
    obtain ⟨ps, e1, rfl⟩ := e
    exact toPs_nd e1
  | .frl ds, p, e => by
    simp only [toP, Option.map_eq_some_iff] at e
    obtain ⟨ps, e1, rfl⟩ := e
    exact toPs_nd e1
  | .tup ds, p, e => by
    simp only [toP, Option.map_eq_some_iff] at e
    obtain ⟨ps, e1, rfl⟩ := e
    exact toPs_nd e1
theorem toPs_nd : ∀ {ds : List D} {ps : List PyData}, toPs ds = some ps → PyData.hasDictAll ps = false
  | [], ps, e => by cases e; rfl
  | d :: ds, ps, e => by
    simp only [toPs] at e
    split at e
    · rename_i p ps2 e1 e2
      cases e
      simp [PyData.hasDictAll, toP_nd e1, toPs_nd e2]
    · cases e
end
section
variable {X : Cx} {pins : List (Addr × Obj)} {σ : L2.St} {F H : Hp} {s : Shared}
mutual
theorem Sh.readsF (I : L2.Inv X pins σ H s) (l : Le F H) : ∀ {v : V} {d : D} {p : PyData} {u : Value}, Sh X.K F v d → toF d = some p → RelV v u → Reads s.heap u p []
  | _, _, _, _, .non, e, r => by cases e; cases r; exact .none
  | _, _, _, _, .bl b, e, r => by cases e; cases r; exact .bool b
  | _, _, _, _, .int b, e, r => by cases e; obtain ⟨t, rfl⟩ := r; exact .int b t
  | _, _, _, _, .str b, e, r => by cases e; obtain ⟨t, rfl⟩ := r; exact .str b t
  | _, _, _, _, .ty b, e, r => by cases e
  | _, _, _, _, .dic _ _, e, r => by cases e
  | _, _, _, _, .lst _ _, e, r => by cases e
  | _, _, _, _, .frl _ _, e, r => by cases e
  | _, _, _, _, .tup h rs, e, r => by
    simp only [toF, Option.map_eq_some_iff] at e
    obtain ⟨ps, e1, rfl⟩ := e
    cases r
    obtain ⟨its, rv, ⟨o, ho, hc, n, hd⟩, _⟩ := I.tuple (sqT_sub l.sub h.sq)
    exact .tuple ho hc hd (Shs.readsF I l rs e1 (by simpa using rv))
theorem Shs.readsF (I : L2.Inv X pins σ H s) (l : Le F H) : ∀ {vs : List V} {ds : List D} {ps : List PyData} {us : List Value}, Shs X.K F vs ds → toFs ds = some ps → Vals vs us → ReadsAll s.heap us ps []
  | _, _, _, _, .nil, e, r => by cases e; cases r; exact .nil
  | _, _, _, _, .cons h rs, e, r => by
    simp only [toFs] at e
    split at e
    · rename_i p ps2 e1 e2
      cases e
      cases r with
      | cons r1 r2 => exact .cons (as := []) (bs := []) (Sh.readsF I l h e1 r1) (Shs.readsF I l rs e2 r2)
    · cases e
end
theorem key_reads {P : Program} {w : World} {k : Key} {u : Value} {h : Heap} (e : (mixKind P w).is k u = true) : Reads h u (kP k) [] := by
  rcases keyIs_shape (show keyIs k u = true from e) with ⟨i, t, rfl, rfl⟩ | ⟨x, t, rfl, rfl⟩
  · exact .int i t
  · exact .str x t
theorem dict_reads (I : L2.Inv X pins σ H s) (l : Le F H) : ∀ {kvs : List (Key × V)} {kds : List (Key × D)} {ps : List (PyData × PyData)} {us : List (Key × Value)} {es : List DictEntry}, Shk X.K F kvs kds → toK kds = some ps → KV kvs us → Pairs (mixKind X.prog X.w) es us →
    ReadsAll s.heap (es.map (·.key)) (ps.map (·.1)) [] ∧ ReadsAll s.heap (es.map (·.val)) (ps.map (·.2)) []
  | _, _, _, _, _, .nil, e, r, pr => by
    cases e
    cases r
    cases pr
    exact ⟨.nil, .nil⟩
  | _, _, _, _, _, .cons h rs, e, r, pr => by
    simp only [toK] at e
    split at e
    · rename_i p ps2 e1 e2
      cases e
      cases r with
      | cons r1 r2 =>
        cases pr with
        | cons p1 p3 p2 =>
          obtain ⟨g1, g2⟩ := dict_reads I l rs e2 r2 p2
          obtain ⟨q1, q2⟩ := r1
          refine ⟨.cons (as := []) (bs := []) ?_ g1, .cons (as := []) (bs := []) ?_ g2⟩
          · rw [← q1] at p1
            exact key_reads p1
          · rw [← p3] at q2
            exact Sh.readsF I l h e1 q2
    · cases e
/-- what repr tells -/
theorem bo_reads (I : L2.Inv X pins σ H s) (l : Le F H) {v : V} {d : D} {p : PyData} {u : Value} (b : Bo X.K F H v d) (e : toR d = some p) (r : RelV v u) : ∃ as, Reads s.heap u p as ∧ (p.hasDict = true → sysModules ∉ as) := by
  cases d with
  | dic kds =>
    simp only [toR, Option.map_eq_some_iff] at e
    obtain ⟨ps, e1, rfl⟩ := e
    obtain ⟨a, vs, rfl, h, rs⟩ := b.dict l
    cases r
    obtain ⟨_, hs, us, kv, o, es, ep, ho, hx, hdat, _, pr, _⟩ := dk_rd I.hok h
    obtain ⟨g1, g2⟩ := dict_reads I l rs e1 kv pr
    refine ⟨_, .dict ho hx.1 hdat g1 g2, fun _ z => ?_⟩
    have z' : sysModules = a := by simpa using z
    rw [← z'] at hs
    exact absurd hs (by decide)
  | _ =>
    obtain ⟨as, ra⟩ := Dp.reads I p _ u (b.dp l e) r
    exact ⟨as, ra, fun z => by rw [toP_nd e] at z; cases z⟩
def rRepr (K : PySem.W.Frag) : List V → Hp → VK → Prop := fun xs H Q => ∃ F x d p, xs = [x] ∧ Le F H ∧ Bo K F H x d ∧ toR d = some p ∧ shOk p = true ∧ Q (.str p.shown) H
theorem cr_repr {k : Nat} (hr : Rm k X.A) : CallR X (.builtin "repr") (rRepr X.K) := by
  intro pins s σ H xs us Q I r h
  obtain ⟨F, x, d, p, rfl, l, b, e, ok, q⟩ := h
  obtain ⟨u, rfl, ru⟩ := vals1 r
  simp only [shOk, Bool.and_eq_true, decide_eq_true_eq] at ok
  obtain ⟨⟨o1, o2⟩, o3⟩ := ok
  obtain ⟨as, ra, sm⟩ := bo_reads I l b e ru
  have hu := hr.room.un
  have fin : ∀ (h' : Heap) (t : Tok) (tk : Nat), (∀ b o, s.heap.get? b = some o → h'.get? b = some o) → EP X pins σ Q (.str p.shown t) { s with heap := h', toks := tk } := fun h' t tk hk => ⟨.str p.shown, H, I.kept hk, ⟨_, rfl⟩, q⟩
  cases ra with
  | none => exact PySem.P.repr_of_none (fin s.heap _ _ fun _ _ z => z)
  | bool c => exact PySem.P.repr_of_bool (fin s.heap _ _ fun _ _ z => z)
  | int i t => exact PySem.P.repr_of_int (by simpa [PyData.showable] using o1) (fin s.heap _ _ fun _ _ z => z)
  | str z t => exact PySem.P.repr_of_str (fin s.heap _ _ fun _ _ z => z) o3
  | list h1 h2 h3 h4 => exact repr_of_reads' (.list h1 h2 h3 h4) o1 sm hr.gd (by omega) (fun _ _ z => z) fin o3
  | tuple h1 h2 h3 h4 => exact repr_of_reads' (.tuple h1 h2 h3 h4) o1 sm hr.gd (by omega) (fun _ _ z => z) fin o3
  | dict h1 h2 h3 h4 h5 => exact repr_of_reads' (.dict h1 h2 h3 h4 h5) o1 sm hr.gd (by omega) (fun _ _ z => z) fin o3
end
theorem ok_repr {K : PySem.W.Frag} : OkC K (rRepr K) reprD := fun F H vs ds z Q l bb q k => by
  unfold reprD at q
  split at q
  · split at q
    · rename_i p e
      split at q
      · rename_i hz
        cases q
        obtain ⟨v, rfl, b⟩ := bb.one
        exact ⟨F, v, _, p, rfl, l, b, e, hz, ok_sc l (fun F => .str _) k⟩
      · cases q
    · cases q
  · cases q

/-! ### recursion: nothing is promised at depth nought -/
theorem cal_none {P : Program} {w : World} {K : PySem.W.Frag} {mg : Str → Option Value} {base : Heap} {k : Nat} {x : Str} {st : Stmt} {ps : List Str} (Df : Dfn K mg x st)
    (hbind : ∀ (kV doc pm : Value) (an : Option Addr) (cdv ct : Value) (us : List Value), us.length = ps.length → bindArgs (PySem.W.fnOf x x (defArgs st) (defBody st) (defScope st) .none kV doc pm an cdv ct) ⟨us, []⟩ = pure (ps.zip us)) : Cal P w K mg base k x st ps (fun _ => none) := by
  obtain ⟨f, fd, F, hm⟩ := Df.ex
  refine ⟨⟨f, fd, ⟨fun vs H Q E h => h.1, ?_⟩, hm, F⟩, hbind⟩
  rintro A outer s H args us vs Q E _ _ _ _ ⟨_, _, _, _, _, _, _, e, _⟩
  cases e
theorem Cal.mono {P : Program} {w : World} {K : PySem.W.Frag} {mg : Str → Option Value} {base : Heap} {j k : Nat} {x : Str} {st : Stmt} {ps : List Str} {g : MG} (C : Cal P w K mg base j x st ps g) (h : j ≤ k) : Cal P w K mg base k x st ps g := by
  obtain ⟨⟨f, fd, F, hm, FD⟩, hb⟩ := C
  exact ⟨⟨f, fd, ⟨F.len, fun A outer s H args us vs Q E hr => F.run A outer s H args us vs Q E (hr.mono h)⟩, hm, FD⟩, hb⟩

/-! ### built-ins by name -/
theorem bb_len : bootBuiltins "len" = some (.builtin "len") := by decide +kernel
theorem bb_abs : bootBuiltins "abs" = some (.builtin "abs") := by decide +kernel
theorem bb_max : bootBuiltins "max" = some (.builtin "max") := by decide +kernel
theorem bb_min : bootBuiltins "min" = some (.builtin "min") := by decide +kernel
theorem bb_all : bootBuiltins "all" = some (.builtin "all") := by decide +kernel
theorem bb_any : bootBuiltins "any" = some (.builtin "any") := by decide +kernel
theorem bb_sum : bootBuiltins "sum" = some (.builtin "sum") := by decide +kernel
theorem bb_isinstance : bootBuiltins "isinstance" = some (.builtin "isinstance") := by decide +kernel
theorem bb_repr : bootBuiltins "repr" = some (.builtin "repr") := by decide +kernel
theorem bb_sorted : bootBuiltins "sorted" = some (.builtin "sorted") := by decide +kernel
theorem bb_int : bootBuiltins "int" = some (.type "int") := by decide +kernel
theorem bb_str : bootBuiltins "str" = some (.type "str") := by decide +kernel
theorem bb_bool : bootBuiltins "bool" = some (.type "bool") := by decide +kernel
theorem bb_list : bootBuiltins "list" = some (.type "list") := by decide +kernel
theorem bb_tuple : bootBuiltins "tuple" = some (.type "tuple") := by decide +kernel
theorem bb_dict : bootBuiltins "dict" = some (.type "dict") := by decide +kernel
theorem bb_set : bootBuiltins "set" = some (.type "set") := by decide +kernel
end
end Mi
set_option Elab.async false
set_option linter.all false
set_option maxRecDepth 100000
set_option maxHeartbeats 1000000
set_option autoImplicit false
namespace Mi
noncomputable section
open PySem PySem.Spec PyProof.Rows L2

/-! ### the end of a law -/
theorem shs_ints {K : PySem.W.Frag} {F : Hp} : ∀ ns : List Int, Shs K F (ns.map V.int) (ns.map D.int)
  | [] => .nil
  | n :: r => .cons (.int n) (shs_ints r)
abbrev script (ns : List Int) : W := ⟨false, false, .frl (ns.map D.int)⟩
theorem spM_law {K : PySem.W.Frag} {H : Hp} {a : Addr} {ns : List Int} {g : MG} (hS : SqL K H a (ns.map V.int)) (hg : ∃ ws, g [script ns] = some (.sh (.bl true), ws)) : spM K 1 g [.ref a] H (fun v _ => v = .bl true) E0 := by
  obtain ⟨ws, hg⟩ := hg
  refine ⟨rfl, H, [script ns], _, ws, ?_, ⟨fun _ _ z => z, ?_, ?_, rfl⟩, hg, ?_⟩
  · intro j w e o
    rcases j with _ | j
    · cases e; cases o
    · cases e
  · intro j w e
    rcases j with _ | j
    · cases e; exact ⟨_, rfl, by simp only [HW]; exact .frl hS (shs_ints ns)⟩
    · cases e
  · intro i j p q d e b e1
    rcases i with _ | i
    · cases e1
    · cases e1
  · intro v F' H' _ hr _
    cases hr
    rfl
theorem law_walk {l : PySem.W.OpenLaw} {n k : Nat} {q : Program} {loose : List Str} {XP : (Str → Option Value) → Heap → Prop} {YP : World → Heap → Prop} {d : DefRec} {x : Str} {st : Stmt} {g : MG} (hn : l.most = some n) (hn2 : n ≤ sizeLine) (hdf : d.params.defaults = []) (hr : Rm k callerA)
    (hd : d.name = "law") (C : ∀ (w : World) (mg : Str → Option Value) (h : Heap), YP w h → h.Ns mainGlobals mg → ∃ K : PySem.W.Frag, K.In h ∧ ∀ base : Heap, Cal l.prog w K mg base k "law" st [x] g)
    (hg : ∀ ns : List Int, ns.length ≤ n → ∃ ws, g [script ns] = some (.sh (.bl true), ws)) : PySem.W.WalkO q loose XP YP l.row.toRowW d [] (fun f vs => PySem.call f vs) := by
  refine walk_G (x := x) hn hn2 hdf hr fun w mg fa h Y G hm => ?_
  obtain ⟨K, KX, C⟩ := C w mg h Y G
  rw [hd] at hm
  obtain ⟨⟨f, fd, F, hf, FD⟩, hb⟩ := C h
  have e := hm.symm.trans hf
  cases e
  refine ⟨K, fd, spM K 1 g, KX, fun s u => ?_, fun H a ns hl hS => spM_law hS (hg ns hl), fun base _ _ => ?_⟩
  · exact FunD.bindsG FD (fun kV doc pm an cdv ct => hb kV doc pm an cdv ct [u] rfl) s
  · obtain ⟨⟨f', fd', F', hf', FD'⟩, _⟩ := C base
    have e := hf.symm.trans hf'
    cases e
    have e2 : fd = fd' := by
      obtain ⟨_, _, _, _, _, _, _, _, _, _, _, l1, _⟩ := FD.ex
      obtain ⟨_, _, _, _, _, _, _, _, _, _, _, l2, _⟩ := FD'.ex
      rw [l1] at l2
      injection l2 with h1
      injection h1 with _ _ h2
      injection h2
    subst e2
    exact F'
end
end Mi
set_option Elab.async false
set_option linter.all false
set_option maxRecDepth 100000
set_option maxHeartbeats 1000000
set_option autoImplicit false
namespace Mi
noncomputable section
open PySem PySem.Spec PyProof.Rows L2

/-! ### a, *b = .. -/
section
variable {prog : Program} {w : World} {A : Around} {E : Value → Shared → Prop} {s : Shared}
theorem starT {l : Addr} {items : Array Value} {n : Nat} {Q : List Value → Shared → Prop} (hl : IsTup s.heap l items) (hh : A.handled = none) (hn : n ≤ items.size) (hz : items.size ≤ sizeLine)
    (h : ∀ (h' : Heap) (tk : Nat), (∀ b o, s.heap.get? b = some o → h'.get? b = some o) → Q (items.toList.take n ++ [.ref h'.objs.size]) { s with heap := h'.push { cls := .type "list", data := .seq (items.toList.drop n).toArray }, toks := tk }) :
    wpAny (model prog w) A (unpackItems (.ref l) (n + 1) (some n)) Q E s := by
  have hlt : l ≠ s.heap.objs.size := by obtain ⟨o, ho, _⟩ := hl; exact Nat.ne_of_lt (Heap.lt_size ho)
  unfold unpackItems
  refine wpAny_bind ?_
  unfold notIterableAtAll
  refine wpAny_bind (wpAny_specialOf hl.typeIs slot_tuple_iter.lookup ?_)
  refine wpAny_pure ?_
  simp only [Bool.false_eq_true, if_false]
  refine wpAny_bind (wpAny_holding (iter_tuple hl ?_))
  refine wpAny_bind (wpAny_holding (draw_tuple hlt n 0 _ _ ⟨_, Heap.get?_push_size _ rfl, rfl, rfl⟩ (hl.push _) (by omega) fun h₁ hit₁ hs₁ => ?_))
  have hl₁ : IsTup h₁ l items := (hl.push _).extBut hs₁.extBut hlt
  rw [Nat.zero_add] at hit₁
  have hit₁' := hit₁
  obtain ⟨oi, hoi, _⟩ := hit₁'
  have hl₁' := hl₁
  obtain ⟨ol, hol, _⟩ := hl₁'
  rw [List.drop_zero]
  have hfl : (items.toList.take n).length = n := by rw [List.length_take, Array.length_toList]; omega
  rw [if_neg (show ¬ ((items.toList.take n).length < n) by rw [hfl]; omega)]
  refine wpAny_bind (wpAny_holding (PySem.W.kun_collect (s := { s with heap := h₁ }) (T := "tuple_iterator") (.inr (.inr (.inr rfl))) (Walks.tuple (A := A.in1) hh s.heap.objs.size l hlt items) (fun j u st => st.1.typeIs) (k := n) (by omega) ⟨hit₁, hl₁⟩ (Heap.lt_size hoi) (Heap.lt_size hol) (fun h₂ tk hk => ?_) hz))
  have hrl : (items.toList.drop n).length = items.size - n := by rw [List.length_drop, Array.length_toList]
  have z : n + 1 - 1 - n = 0 := by omega
  rw [z, if_neg (Nat.not_lt_zero _), Nat.sub_zero, List.take_length, List.drop_length]
  have he : Heap.ExtBut s.heap.objs.size s.heap h₂ := fun b o hb e => hk b o hb (hs₁.extBut b o hb (Heap.get?_push_of_some _ e))
  unfold newList
  refine wpAny_bind (wpAny_newObj_type ?_ (by simp [sizeOk, hrl]; omega))
  refine wpAny_pure ?_
  rw [List.append_nil]
  exact h h₂ tk (fun b o e => he b o (Nat.ne_of_lt (Heap.lt_size e)) e)
theorem starL {l : Addr} {items : Array Value} {n : Nat} {Q : List Value → Shared → Prop} (hl : s.heap.IsList l items) (hh : A.handled = none) (hn : n ≤ items.size) (hz : items.size ≤ sizeLine)
    (h : ∀ (h' : Heap) (tk : Nat), (∀ b o, s.heap.get? b = some o → h'.get? b = some o) → Q (items.toList.take n ++ [.ref h'.objs.size]) { s with heap := h'.push { cls := .type "list", data := .seq (items.toList.drop n).toArray }, toks := tk }) :
    wpAny (model prog w) A (unpackItems (.ref l) (n + 1) (some n)) Q E s := by
  have hlt : l ≠ s.heap.objs.size := by obtain ⟨o, ho, _⟩ := hl; exact Nat.ne_of_lt (Heap.lt_size ho)
  unfold unpackItems
  refine wpAny_bind ?_
  unfold notIterableAtAll
  refine wpAny_bind (wpAny_specialOf hl.typeIs slot_list_iter.lookup ?_)
  refine wpAny_pure ?_
  simp only [Bool.false_eq_true, if_false]
  refine wpAny_bind (wpAny_holding (wpAny_pyIter_list hl ?_))
  refine wpAny_bind (wpAny_holding (PySem.W.kun_draw hlt n 0 _ _ ⟨_, Heap.get?_push_size _ rfl, rfl, rfl⟩ (hl.push _) (by omega) fun h₁ hit₁ hs₁ => ?_))
  have hl₁ : h₁.IsList l items := (hl.push _).extBut hs₁.extBut hlt
  rw [Nat.zero_add] at hit₁
  have hit₁' := hit₁
  obtain ⟨oi, hoi, _⟩ := hit₁'
  have hl₁' := hl₁
  obtain ⟨ol, hol, _⟩ := hl₁'
  rw [List.drop_zero]
  have hfl : (items.toList.take n).length = n := by rw [List.length_take, Array.length_toList]; omega
  rw [if_neg (show ¬ ((items.toList.take n).length < n) by rw [hfl]; omega)]
  refine wpAny_bind (wpAny_holding (PySem.W.kun_collect (s := { s with heap := h₁ }) (T := "list_iterator") (.inr (.inr (.inl rfl))) (Walks.list (A := A.in1) hh s.heap.objs.size l hlt items) (fun j u st => st.1.typeIs) (k := n) (by omega) ⟨hit₁, hl₁⟩ (Heap.lt_size hoi) (Heap.lt_size hol) (fun h₂ tk hk => ?_) hz))
  have hrl : (items.toList.drop n).length = items.size - n := by rw [List.length_drop, Array.length_toList]
  have z : n + 1 - 1 - n = 0 := by omega
  rw [z, if_neg (Nat.not_lt_zero _), Nat.sub_zero, List.take_length, List.drop_length]
  have he : Heap.ExtBut s.heap.objs.size s.heap h₂ := fun b o hb e => hk b o hb (hs₁.extBut b o hb (Heap.get?_push_of_some _ e))
  unfold newList
  refine wpAny_bind (wpAny_newObj_type ?_ (by simp [sizeOk, hrl]; omega))
  refine wpAny_pure ?_
  rw [List.append_nil]
  exact h h₂ tk (fun b o e => he b o (Nat.ne_of_lt (Heap.lt_size e)) e)
end
section
variable {X : Cx}
def gStar (K : PySem.W.Frag) (n : Nat) (t : TGs) : TG := fun v σ H Q => ∃ (a : Addr) (xs : List V), v = .ref a ∧ (SqT K H a xs ∨ SqL K H a xs) ∧ n ≤ xs.length ∧ ∀ D, H D = none → t (xs.take n ++ [.ref D]) σ (upd H D (.lst (xs.drop n))) Q
theorem pg_star {es es' : List Expr} {k : Nat} {t : TGs} {n : Nat} {pos : Pos} (hc : X.calm = true) (h : PGs X es' t)
    (hn : (assignEach es X.env).length = n + 1 := by rfl) (hst : (assignEach es X.env).findIdx? (·.1) = some n := by rfl) (he : (assignEach es X.env).map (·.2) = (assignEach es' X.env).map (·.2) := by rfl) : PG X (.Tuple es k pos) (gStar X.K n t) := by
  refine ⟨fun pins s σ H v u Q I r hw => ?_⟩
  obtain ⟨a, xs, e1, hq, hl, hw⟩ := hw
  subst e1
  cases r
  rw [assign_Tuple]
  refine wpAny_bind (wpAny_standAt ?_)
  unfold unpack
  rw [hn, hst, he]
  have fin : ∀ (its : List Value), Vals xs its → xs.length ≤ sizeLine → ∀ (h' : Heap) (tk : Nat), (∀ b o, s.heap.get? b = some o → h'.get? b = some o) →
      wpAny (model X.prog X.w) X.A (assignInOrder ((assignEach es' X.env).map (·.2)) (its.toArray.toList.take n ++ [.ref h'.objs.size])) (fun _ s' => ∃ σ' H', Inv X pins σ' H' s' ∧ Q σ' H') X.xe { s with heap := h'.push { cls := .type "list", data := .seq (its.toArray.toList.drop n).toArray }, toks := tk } := by
    intro its rv hz h' tk hk
    have I1 : Inv X pins σ H { s with heap := h', toks := tk } := I.kept hk
    have I2 : Inv X pins σ (upd H h'.objs.size (.lst (xs.drop n))) { s with heap := h'.push { cls := .type "list", data := .seq (its.toArray.toList.drop n).toArray }, toks := tk } :=
      I1.laid (t' := tk) (fun b u e => Heap.get?_push_of_some _ e) (Nat.le_refl _) ⟨by rw [List.length_drop]; omega, its.drop n, 0, rv.drop n, by simpa using Heap.get?_push_size _ rfl⟩
    have q : Vals [V.ref h'.objs.size] [Value.ref h'.objs.size] := .cons (show RelV (V.ref h'.objs.size) (Value.ref h'.objs.size) from rfl) .nil
    exact h.run pins _ σ _ (xs.take n ++ [.ref h'.objs.size]) _ Q I2 (by simpa using (rv.take n).append q) (hw _ (I1.hok.fresh (Nat.le_refl _)))
  rcases hq with hq | hq
  · obtain ⟨its, rv, ht, hz⟩ := I.tuple hq
    refine wpAny_bind (wpAny_holding (starT ht (I.ok.hd hc) (by simpa [← rv.length] using hl) (by simpa [← rv.length] using hz) fun h' tk hk => ?_))
    exact fin its rv hz h' tk hk
  · obtain ⟨its, rv, ht, hz⟩ := I.list hq
    refine wpAny_bind (wpAny_holding (starL ht.isList (I.ok.hd hc) (by simpa [← rv.length] using hl) (by simpa [← rv.length] using hz) fun h' tk hk => ?_))
    exact fin its rv hz h' tk hk
/-- a, b, *c: the last slot is a new list's -/
def tgS (is : List Nat) (j : Nat) : D → En → Option En := fun d ρ => match d with
  | .tup ds => if is.length ≤ ds.length then setWs (is ++ [j]) ((ds.take is.length).map sw ++ [⟨true, false, .lst (ds.drop is.length)⟩]) ρ else none
  | .lst ds => if is.length ≤ ds.length then setWs (is ++ [j]) ((ds.take is.length).map sw ++ [⟨true, false, .lst (ds.drop is.length)⟩]) ρ else none
  | .frl ds => if is.length ≤ ds.length then setWs (is ++ [j]) ((ds.take is.length).map sw ++ [⟨true, false, .lst (ds.drop is.length)⟩]) ρ else none
  | _ => none
theorem bnds_app {K : PySem.W.Frag} {H0 F H : Hp} {σ : L2.St} {ρ : En} {v : V} {w : W} (b : Bnd K H0 F H σ ρ v w) : ∀ {vs : List V} {ds : List D}, Shs K F vs ds → Bnds K H0 F H σ ρ (vs ++ [v]) (ds.map sw ++ [w])
  | _, _, .nil => ⟨b, trivial, fun _ j u e => by cases e⟩
  | _, _, .cons h r => ⟨⟨rfl, by simpa [HW, sw] using h, fun o => by cases o⟩, bnds_app b r, fun o => by cases o⟩
theorem sv_star {is : List Nat} {j : Nat} {t e : Expr} {m : ME} {pos : Pos} (he : EV X e m) (hg : PG X t (gStar X.K is.length (gNs (is ++ [j]))))
    (hs : swapsWithSole [t] e pos.line X.env = pure false := by rfl) (hw : swappedStores [t] e X.env = pure none := by rfl)
    (h1 : (assignEach [t] X.env).map (·.2) = [assign t X.env] := by rfl) : SV X (.Assign [t] e pos) (mUnp (tgS is j) m) :=
  sv_of (ps_asg he hg hs hw h1) fun E σ H ⟨F, ρ, o, ρ', R, e, k⟩ => by
    unfold mUnp at e
    split at e
    · rename_i r ρ1 e1
      split at e
      · rename_i d ρ2 e2
        split at e
        · rename_i ρ3 e3
          cases e
          refine ⟨F, ρ, _, _, R, e1, fun v F1 H1 X1 h1 nw => ?_⟩
          obtain ⟨F2, X2, s2, _⟩ := Rv.shr_step X1 h1 nw e2
          have go : ∀ (a : Addr) (vs : List V) (ds : List D), v = .ref a → (SqT X.K H1 a vs ∨ SqL X.K H1 a vs) → Shs X.K F2 vs ds → (if is.length ≤ ds.length then setWs (is ++ [j]) ((ds.take is.length).map sw ++ [⟨true, false, .lst (ds.drop is.length)⟩]) ρ2 else none) = some ρ' →
              gStar X.K is.length (gNs (is ++ [j])) v σ H1 fun σ' H' => E.nx σ' H' := by
            intro a vs ds ev hq hsh e4
            split at e4
            · rename_i hl
              refine ⟨a, vs, ev, hq, by rw [hsh.length]; exact hl, fun p hp => ?_⟩
              have g : Gr F2 H1 F2 (upd H1 p (.lst (vs.drop is.length))) := Gr.new_own X2.rep.le hp
              have X3 := X2.trans (Gr.ex X2.rep g)
              have no : ¬ Own σ ρ2 p := fun o => by
                obtain ⟨_, u, z⟩ := X2.rep.own_there o
                rw [hp] at z; cases z
              have b : Bnd X.K H F2 (upd H1 p (.lst (vs.drop is.length))) σ ρ2 (.ref p) ⟨true, false, .lst (ds.drop is.length)⟩ :=
                ⟨rfl, by simp only [HW]; exact ⟨p, rfl, X2.rep.le.none hp, vs.drop is.length, upd_same, hsh.drop _⟩, fun _ q e => by cases e; exact ⟨no, X2.none_back hp⟩⟩
              have st := setWs_step (is := is ++ [j]) X3 (bnds_app b (hsh.take is.length)) e4
              exact gNs_use st.2 (k _ F2 _ st.1)
            · cases e4
          cases s2 with
          | tup hs r => exact go _ _ _ rfl (.inl (sqT_sub X2.rep.le.sub hs.sq)) r e3
          | lst hs r => exact go _ _ _ rfl (.inr (.inl (.inl (X2.rep.le _ _ hs)))) r e3
          | frl hs r => exact go _ _ _ rfl (.inr (sqL_sub X2.rep.le.sub hs)) r e3
          | _ => cases e3
        · cases e
      · cases e
    · cases e
end
end
end Mi
set_option Elab.async false
set_option linter.all false
set_option maxRecDepth 100000
set_option maxHeartbeats 1000000
set_option autoImplicit false
namespace Mi
noncomputable section
open PySem PySem.Spec PyProof.Rows L2

/-! ### constants of the module: data in the written part -/
mutual
def cdB (K : PySem.W.Frag) : D → Value → Bool
  | .non, .none => true
  | .bl b, .bool c => b == c
  | .int i, .int j _ => decide (i = j)
  | .str x, .str y _ => decide (x = y)
  | .tup ds, .ref a => (match K.lookup a with
    | some ⟨.type c, _, .seq its _, _⟩ => decide (c = "tuple") && (decide (its.size ≤ sizeLine) && cdBs K ds its.toList)
    | _ => false)
  | _, _ => false
def cdBs (K : PySem.W.Frag) : List D → List Value → Bool
  | [], [] => true
  | d :: ds, u :: us => cdB K d u && cdBs K ds us
  | _, _ => false
end
mutual
theorem cdB_ok {K : PySem.W.Frag} : ∀ {d : D} {u : Value}, cdB K d u = true → ∃ v, RelV v u ∧ ∀ F, Sh K F v d
  | .non, .none, _ => ⟨.non, rfl, fun _ => .non⟩
  | .bl b, .bool c, h => by
    have e : b = c := eq_of_beq (show (b == c) = true from h)
    subst e
    exact ⟨.bl b, rfl, fun _ => .bl b⟩
  | .int i, .int j t, h => by
    have e : i = j := of_decide_eq_true h
    subst e
    exact ⟨.int i, ⟨t, rfl⟩, fun _ => .int i⟩
  | .str x, .str y t, h => by
    have e : x = y := of_decide_eq_true h
    subst e
    exact ⟨.str x, ⟨t, rfl⟩, fun _ => .str x⟩
  | .tup ds, .ref a, h => by
    simp only [cdB] at h
    split at h
    · rename_i c od its n sl e
      simp only [Bool.and_eq_true, decide_eq_true_eq] at h
      obtain ⟨h1, h2, h3⟩ := h
      obtain ⟨vs, r, s⟩ := cdBs_ok h3
      subst h1
      exact ⟨.ref a, rfl, fun F => .tup (.inr (.inr ⟨_, its, n, e, rfl, rfl, h2, r⟩)) (s F)⟩
    · cases h
  | .non, .bool _, h => by cases h
  | .ty _, u, h => by cases u <;> cases h
  | .lst _, u, h => by cases u <;> cases h
  | .frl _, u, h => by cases u <;> cases h
  | .dic _, u, h => by cases u <;> cases h
theorem cdBs_ok {K : PySem.W.Frag} : ∀ {ds : List D} {us : List Value}, cdBs K ds us = true → ∃ vs, Vals vs us ∧ ∀ F, Shs K F vs ds
  | [], [], _ => ⟨[], .nil, fun _ => .nil⟩
  | [], _ :: _, h => by cases h
  | _ :: _, [], h => by cases h
  | d :: ds, u :: us, h => by
    simp only [cdBs, Bool.and_eq_true] at h
    obtain ⟨v, r, s⟩ := cdB_ok h.1
    obtain ⟨vs, rs, ss⟩ := cdBs_ok h.2
    exact ⟨v :: vs, .cons r rs, fun F => .cons (s F) (ss F)⟩
end
/-- the module's name x stands for data -/
def Gd (K : PySem.W.Frag) (mg : Str → Option Value) (x : Str) (d : D) : Prop := ∃ u v, mg x = some u ∧ RelV v u ∧ ∀ F, Sh K F v d
def cgB (K : PySem.W.Frag) (x : Str) (d : D) : Bool := match PySem.W.nsIn K mainGlobals x with
  | some (some u) => cdB K d u
  | _ => false
theorem cgB_ok {K : PySem.W.Frag} {h : Heap} {mg : Str → Option Value} (X : K.In h) (G : h.Ns mainGlobals mg) {x : Str} {d : D} (c : cgB K x d = true) : Gd K mg x d := by
  unfold cgB at c
  split at c
  · rename_i u e
    obtain ⟨v, r, s⟩ := cdB_ok c
    exact ⟨u, v, PySem.W.mg_of X G e, r, s⟩
  · cases c
theorem ev_gD {X : Cx} {x : Str} {d : D} {pos : Pos} (h : Gd X.K X.mg x d) (hg : Gl X x := by rfl) (hd : (x == ("__debug__" : Str)) = false := by decide) : EV X (.Name x pos) (mC d) := by
  obtain ⟨u, v, hm, r, s⟩ := h
  refine ev_of (pe_glob hg hm r hd) fun σ H Q F ρ z ρ' R e k => ?_
  cases e
  exact k v F H (Ex.refl R) (s F) trivial

/-! ### a dict of the module -/
def dkB (K : PySem.W.Frag) : List (Key × D) → List DictEntry → Bool
  | [], [] => true
  | (k, d) :: ds, e :: es => keyIs k e.key && (cdB K d e.val && dkB K ds es)
  | _, _ => false
def dgO (K : PySem.W.Frag) (x : Str) : Option (Addr × List DictEntry) := match PySem.W.nsIn K mainGlobals x with
  | some (some (.ref a)) => (match K.lookup a with
    | some ⟨.type c, none, .dict es _, sl⟩ => if c = "dict" ∧ sl.size = 0 then some (a, es.toList) else none
    | _ => none)
  | _ => none
def dgB (K : PySem.W.Frag) (x : Str) (kds : List (Key × D)) : Bool := match dgO K x with
  | some (a, es) => !(a == sysModules) && (decide ((kds.map (·.1)).Nodup) && dkB K kds es)
  | none => false
def dgH (K : PySem.W.Frag) (x : Str) : List Int := match dgO K x with
  | some (_, es) => es.map (·.hash)
  | none => []
def Dg (P : Program) (w : World) (K : PySem.W.Frag) (mg : Str → Option Value) (x : Str) (kds : List (Key × D)) : Prop :=
  ∃ (a : Addr) (kvs : List (Key × V)) (vs : List (Key × Value)), mg x = some (.ref a) ∧ (a == sysModules) = false ∧ KV kvs vs ∧ (∀ h : Heap, K.In h → h.DictOf (mixKind P w) a vs) ∧ ∀ F, Shk K F kvs kds
theorem dkB_ok {P : Program} {w : World} {K : PySem.W.Frag} : ∀ {kds : List (Key × D)} {es : List DictEntry}, dkB K kds es = true → es.map (·.hash) = kds.map (fun p => keyH w p.1) →
    ∃ (kvs : List (Key × V)) (vs : List (Key × Value)), KV kvs vs ∧ (∀ F, Shk K F kvs kds) ∧ Pairs (mixKind P w) es vs ∧ vs.map (·.1) = kds.map (·.1) ∧ ∀ e ∈ es, ∃ k, keyIs k e.key = true ∧ e.hash = keyH w k
  | [], [], _, _ => ⟨[], [], .nil, fun _ => .nil, .nil, rfl, fun e he => by cases he⟩
  | [], _ :: _, h, _ => by cases h
  | (_, _) :: _, [], h, _ => by cases h
  | (k, d) :: kds, e :: es, h, hh => by
    simp only [dkB, Bool.and_eq_true] at h
    obtain ⟨h1, h2, h3⟩ := h
    simp only [List.map_cons, List.cons.injEq] at hh
    obtain ⟨v, r, s⟩ := cdB_ok h2
    obtain ⟨kvs, vs, q1, q2, q3, q4, q5⟩ := dkB_ok (P := P) (w := w) h3 hh.2
    refine ⟨(k, v) :: kvs, (k, e.val) :: vs, .cons ⟨rfl, r⟩ q1, fun F => .cons (s F) (q2 F), .cons h1 rfl q3, by simp [q4], fun e' he => ?_⟩
    rcases List.mem_cons.mp he with rfl | he
    · exact ⟨k, h1, hh.1⟩
    · exact q5 e' he
theorem dgB_ok {P : Program} {w : World} {K : PySem.W.Frag} {h : Heap} {mg : Str → Option Value} (X : K.In h) (G : h.Ns mainGlobals mg) {x : Str} {kds : List (Key × D)} (c : dgB K x kds = true) (ch : dgH K x = kds.map fun p => keyH w p.1) : Dg P w K mg x kds := by
  unfold dgB at c
  unfold dgH at ch
  split at c
  · rename_i a es e
    rw [e] at ch
    simp only [Bool.and_eq_true, Bool.not_eq_true', decide_eq_true_eq] at c
    obtain ⟨c1, c2, c3⟩ := c
    obtain ⟨kvs, vs, q1, q2, q3, q4, q5⟩ := dkB_ok (P := P) (w := w) c3 ch
    unfold dgO at e
    split at e
    · rename_i a' en
      split at e
      · rename_i cl ar ep sl ek
        split at e
        · rename_i hcs
          cases e
          obtain ⟨rfl, hs⟩ := hcs
          have hsl : sl = #[] := Array.eq_empty_of_size_eq_zero hs
          subst hsl
          refine ⟨a, kvs, vs, PySem.W.mg_of X G en, c1, q1, fun h' X' => ⟨_, ar, ep, X' _ _ ek, ⟨rfl, rfl, rfl⟩, rfl, fun e he => q5 e (Array.mem_toList_iff.mpr he), q3, by rw [q4]; exact c2⟩, q2⟩
        · cases e
      · cases e
    · cases e
  · cases c
end
end Mi
set_option Elab.async false
set_option linter.all false
set_option maxRecDepth 100000
set_option maxHeartbeats 1000000
set_option autoImplicit false
namespace Mi
noncomputable section
open PySem PySem.Spec PyProof.Rows L2

/-! ### e in D, e not in D, D[e] of a dict of the module -/
def inG (kds : List (Key × D)) : D → Option Rs := fun d => match keyD d with
  | some k => some (.sh (.bl (valD kds k).isSome))
  | none => none
def notInG (kds : List (Key × D)) : D → Option Rs := fun d => match keyD d with
  | some k => some (.sh (.bl (!(valD kds k).isSome)))
  | none => none
def ixG (kds : List (Key × D)) : D → Option Rs := fun d => match keyD d with
  | some k => (valD kds k).map .sh
  | none => none
section
variable {X : Cx} {e : Expr} {m : ME} {x : Str} {kds : List (Key × D)} {p pos : Pos}
theorem Shk.some_eq {K : PySem.W.Frag} {F : Hp} {k : Key} {vs : List (Key × V)} {ds : List (Key × D)} (h : Shk K F vs ds) : (valV vs k).isSome = (valD ds k).isSome := by
  obtain ⟨h1, h2⟩ := Shk.val (k := k) h
  cases e : valD ds k with
  | none => rw [h2 e]; rfl
  | some d => obtain ⟨v, e1, _⟩ := h1 d e; rw [e1]; rfl
theorem ev_inG (he : EV X e m) (h : Dg X.prog X.w X.K X.mg x kds) (hg : Gl X x := by rfl) (hd : (x == ("__debug__" : Str)) = false := by decide) (hm2 : behindInMarks .In (.Name x p) = false := by rfl) :
    EV X (.Compare e [.In] [.Name x p] pos) (mU (inG kds) m) := by
  obtain ⟨a, kvs, vs, hm, hs, rel, dd, sh⟩ := h
  have ho : OpR X (compareOp .In) (fun x y H Q => y = .ref a ∧ ∃ k, x = kV k ∧ Q (.bl (valV kvs k).isSome) H) := by
    rintro pins s σ H x y v u Q I rx ry ⟨rfl, k, rfl, q⟩
    cases (show u = Value.ref a from ry)
    refine wpAny_in_of (kV_is rx) hs (dd _ I.kIn).mapOf ?_
    rw [← (rel.val k).isSome_eq]
    exact ⟨.bl (valV kvs k).isSome, H, I.tok _, rfl, q⟩
  refine ev_of (pe_cmpR ho he (pe_glob (v := .ref a) hg hm rfl hd) hm2) fun σ H Q F ρ z ρ' R e k => ?_
  have ok : OkU X.K (fun x H Q => ∃ k, x = kV k ∧ Q (.bl (valV kvs k).isSome) H) (inG kds) := fun F H x d z Q l b q k => by
    unfold inG at q
    split at q
    · rename_i kk e1
      cases q
      refine ⟨kk, b.key e1, ?_⟩
      rw [(sh F).some_eq]
      exact ok_sc l (fun F => .bl _) k
    · cases q
  obtain ⟨F0, ρ0, r0, ρ1, R0, e0, k0⟩ := use1 ok R e k
  exact ⟨F0, ρ0, r0, ρ1, R0, e0, fun v F' H' a b c => ⟨rfl, k0 v F' H' a b c⟩⟩
theorem ev_notInG (he : EV X e m) (h : Dg X.prog X.w X.K X.mg x kds) (hg : Gl X x := by rfl) (hd : (x == ("__debug__" : Str)) = false := by decide) (hm2 : behindInMarks .NotIn (.Name x p) = false := by rfl) :
    EV X (.Compare e [.NotIn] [.Name x p] pos) (mU (notInG kds) m) := by
  obtain ⟨a, kvs, vs, hm, hs, rel, dd, sh⟩ := h
  have ho : OpR X (compareOp .NotIn) (fun x y H Q => y = .ref a ∧ ∃ k, x = kV k ∧ Q (.bl (!(valV kvs k).isSome)) H) := by
    rintro pins s σ H x y v u Q I rx ry ⟨rfl, k, rfl, q⟩
    cases (show u = Value.ref a from ry)
    refine wpAny_notIn_of (kV_is rx) hs (dd _ I.kIn).mapOf ?_
    rw [← (rel.val k).isSome_eq]
    exact ⟨.bl (!(valV kvs k).isSome), H, I.tok _, rfl, q⟩
  refine ev_of (pe_cmpR ho he (pe_glob (v := .ref a) hg hm rfl hd) hm2) fun σ H Q F ρ z ρ' R e k => ?_
  have ok : OkU X.K (fun x H Q => ∃ k, x = kV k ∧ Q (.bl (!(valV kvs k).isSome)) H) (notInG kds) := fun F H x d z Q l b q k => by
    unfold notInG at q
    split at q
    · rename_i kk e1
      cases q
      refine ⟨kk, b.key e1, ?_⟩
      rw [(sh F).some_eq]
      exact ok_sc l (fun F => .bl _) k
    · cases q
  obtain ⟨F0, ρ0, r0, ρ1, R0, e0, k0⟩ := use1 ok R e k
  exact ⟨F0, ρ0, r0, ρ1, R0, e0, fun v F' H' a b c => ⟨rfl, k0 v F' H' a b c⟩⟩
theorem tv_inG (he : EV X e m) (h : Dg X.prog X.w X.K X.mg x kds) (hg : Gl X x := by rfl) (hd : (x == ("__debug__" : Str)) = false := by decide) (hm2 : behindInMarks .In (.Name x p) = false := by rfl) :
    TV X (.Compare e [.In] [.Name x p] pos) (mTe (mU (inG kds) m)) := by
  obtain ⟨a, kvs, vs, hm, hs, rel, dd, sh⟩ := h
  have ho : OpR X (compareOp .In) (fun x y H Q => y = .ref a ∧ ∃ k, x = kV k ∧ Q (.bl (valV kvs k).isSome) H) := by
    rintro pins s σ H x y v u Q I rx ry ⟨rfl, k, rfl, q⟩
    cases (show u = Value.ref a from ry)
    refine wpAny_in_of (kV_is rx) hs (dd _ I.kIn).mapOf ?_
    rw [← (rel.val k).isSome_eq]
    exact ⟨.bl (valV kvs k).isSome, H, I.tok _, rfl, q⟩
  refine tv_of (pt_cmpR ho he (pe_glob (v := .ref a) hg hm rfl hd) hm2) fun σ H Q F ρ b ρ' R e k => ?_
  have ok : OkU X.K (fun x H Q => ∃ k, x = kV k ∧ Q (.bl (valV kvs k).isSome) H) (inG kds) := fun F H x d z Q l b q k => by
    unfold inG at q
    split at q
    · rename_i kk e1
      cases q
      refine ⟨kk, b.key e1, ?_⟩
      rw [(sh F).some_eq]
      exact ok_sc l (fun F => .bl _) k
    · cases q
  unfold mTe at e
  split at e
  · rename_i b' ρ1 e1
    cases e
    obtain ⟨F0, ρ0, r0, ρ1, R0, e0, k0⟩ := use1 ok R e1 (Q := fun v H' => ∃ c, v = .bl c ∧ Q c H') fun v F' H' ex h _ => ⟨b, (by cases (show Sh X.K F' v (.bl b) from h); rfl), k F' H' ex⟩
    exact ⟨F0, ρ0, r0, ρ1, R0, e0, fun v F' H' a b c => ⟨rfl, k0 v F' H' a b c⟩⟩
  · cases e
theorem tv_notInG (he : EV X e m) (h : Dg X.prog X.w X.K X.mg x kds) (hg : Gl X x := by rfl) (hd : (x == ("__debug__" : Str)) = false := by decide) (hm2 : behindInMarks .NotIn (.Name x p) = false := by rfl) :
    TV X (.Compare e [.NotIn] [.Name x p] pos) (mTe (mU (notInG kds) m)) := by
  obtain ⟨a, kvs, vs, hm, hs, rel, dd, sh⟩ := h
  have ho : OpR X (compareOp .NotIn) (fun x y H Q => y = .ref a ∧ ∃ k, x = kV k ∧ Q (.bl (!(valV kvs k).isSome)) H) := by
    rintro pins s σ H x y v u Q I rx ry ⟨rfl, k, rfl, q⟩
    cases (show u = Value.ref a from ry)
    refine wpAny_notIn_of (kV_is rx) hs (dd _ I.kIn).mapOf ?_
    rw [← (rel.val k).isSome_eq]
    exact ⟨.bl (!(valV kvs k).isSome), H, I.tok _, rfl, q⟩
  refine tv_of (pt_cmpR ho he (pe_glob (v := .ref a) hg hm rfl hd) hm2) fun σ H Q F ρ b ρ' R e k => ?_
  have ok : OkU X.K (fun x H Q => ∃ k, x = kV k ∧ Q (.bl (!(valV kvs k).isSome)) H) (notInG kds) := fun F H x d z Q l b q k => by
    unfold notInG at q
    split at q
    · rename_i kk e1
      cases q
      refine ⟨kk, b.key e1, ?_⟩
      rw [(sh F).some_eq]
      exact ok_sc l (fun F => .bl _) k
    · cases q
  unfold mTe at e
  split at e
  · rename_i b' ρ1 e1
    cases e
    obtain ⟨F0, ρ0, r0, ρ1, R0, e0, k0⟩ := use1 ok R e1 (Q := fun v H' => ∃ c, v = .bl c ∧ Q c H') fun v F' H' ex h _ => ⟨b, (by cases (show Sh X.K F' v (.bl b) from h); rfl), k F' H' ex⟩
    exact ⟨F0, ρ0, r0, ρ1, R0, e0, fun v F' H' a b c => ⟨rfl, k0 v F' H' a b c⟩⟩
  · cases e
theorem ev_ixG (he : EV X e m) (h : Dg X.prog X.w X.K X.mg x kds) (hg : Gl X x := by rfl) (hd : (x == ("__debug__" : Str)) = false := by decide) (hs : NoSl e := by exact fun _ _ => rfl) :
    EV X (.Subscript (.Name x p) e pos) (mU (ixG kds) m) := by
  obtain ⟨a, kvs, vs, hm, hsy, rel, dd, sh⟩ := h
  have pe : PE X (.Subscript (.Name x p) e pos) (fun σ H Q => tM X.K m σ H fun y H2 => ∃ k v, y = kV k ∧ valV kvs k = some v ∧ Q v H2) := by
    refine ⟨fun pins s σ H Q I h => ?_⟩
    refine subD_of PySem.F.slot_dict_getitem.lookup hs (thn ((pe_glob (X := X) (v := .ref a) (pos := p) hg hm rfl hd).run pins s σ H (fun y H1 => y = .ref a ∧ H1 = H) I ⟨rfl, rfl⟩) fun u s1 ⟨x, H1, I1, rx, e1, e2⟩ => ?_)
    subst e1 e2
    obtain rfl : u = Value.ref a := rx
    refine thn (he.run pins s1 σ H1 _ I1 h) fun iv s2 ⟨y, H2, I2, ry, k, v, ey, ev, q2⟩ => ?_
    subst ey
    have d2 := dd _ I2.kIn
    refine ⟨d2.typeIs, ?_⟩
    obtain ⟨w', hw, rw'⟩ := RelO.some_of (v := v) (o := valueAt vs k) (by rw [← ev]; exact rel.val k)
    exact wpAny_getItem_of (kV_is ry) d2.mapOf hw ⟨v, H2, I2.tok _, rw', q2⟩
  refine ev_of pe fun σ H Q F ρ z ρ' R e k => ?_
  have ok : OkU X.K (fun y H Q => ∃ k v, y = kV k ∧ valV kvs k = some v ∧ Q v H) (ixG kds) := fun F H x d z Q l b q k => by
    unfold ixG at q
    split at q
    · rename_i kk e1
      simp only [Option.map_eq_some_iff] at q
      obtain ⟨d', q, rfl⟩ := q
      obtain ⟨v, e3, h3⟩ := (Shk.val (k := kk) (sh F)).1 d' q
      exact ⟨kk, v, b.key e1, e3, k v F H (Gr.refl l) h3⟩
    · cases q
  exact use1 ok R e k
end
end
end Mi
set_option Elab.async false
set_option linter.all false
set_option maxRecDepth 100000
set_option maxHeartbeats 1000000
set_option autoImplicit false
namespace Mi
noncomputable section
open PySem PySem.Spec PyProof.Rows L2
/-! ### the head's facts, with data -/
/-- sys.modules stands in the written part, a dict -/
def SysD (K : PySem.W.Frag) : Prop := ∃ o, K.lookup sysModules = some o ∧ o.cls = .type "dict"
def sysB (K : PySem.W.Frag) : Bool := match K.lookup sysModules with
  | some ⟨.type c, _, _, _⟩ => decide (c = "dict")
  | _ => false
theorem sysB_ok {K : PySem.W.Frag} (h : sysB K = true) : SysD K := by
  unfold sysB at h
  split at h
  · rename_i c _ _ _ e
    have hc : c = "dict" := of_decide_eq_true h
    subst hc
    exact ⟨_, e, rfl⟩
  · cases h
abbrev AlM : Type := Bool × List He.FnW × List (List Int)
def obsM (fa : List He.Fa) (fn : List He.DefD) (cs : List (Str × D)) (ks : List (Str × List (Key × D))) (K : PySem.W.Frag) : AlM :=
  (((fa.all fun f => f.ok K) && fn.all fun d => d.ok K) && ((cs.all fun c => cgB K c.1 c.2) && (sysB K && ks.all fun c => dgB K c.1 c.2)), fn.map fun d => He.fnW K d.at_, ks.map fun c => dgH K c.1)
def valM (fn : List He.DefD) (ks : List (Str × List (Key × D))) (w : World) : AlM := (true, fn.map He.DefD.val, ks.map fun c => c.2.map fun p => keyH w p.1)
def SaysM (fa : List He.Fa) (fn : List He.DefD) (cs : List (Str × D)) (ks : List (Str × List (Key × D))) (w : World) (K : PySem.W.Frag) : Prop := obsM fa fn cs ks K = valM fn ks w
def obsMG (n : Nat) (fa : List He.Fa) (fn : List He.DefD) (cs : List (Str × D)) (ks : List (Str × List (Key × D))) (g : Addr → Option Obj) : AlM := obsM fa fn cs ks (He.frG g (sysModules :: He.asD g n))
def hookM (n : Nat) (fa : List He.Fa) (fn : List He.DefD) (cs : List (Str × D)) (ks : List (Str × List (Key × D))) : PySem.W.Hook where
  α := AlM
  obs := fun s => obsMG n fa fn cs ks s.heap.get?
  val := fun w => valM fn ks w
  says := fun w h => ∃ K : PySem.W.Frag, K.In h ∧ SaysM fa fn cs ks w K
  of := fun _ _ e => ⟨_, He.frG_in, e⟩
  keeps := fun _ _ _ ⟨K, hK, c⟩ k => ⟨K, PySem.W.Frag.In.keeps hK k, c⟩
theorem obsMG_eq {n : Nat} {fa : List He.Fa} {fn : List He.DefD} {cs : List (Str × D)} {ks : List (Str × List (Key × D))} {g : Addr → Option Obj} {s : Shared} (h : ∀ a, g a = s.heap.get? a) : obsMG n fa fn cs ks g = (hookM n fa fn cs ks).obs s := by
  have e : g = s.heap.get? := funext h
  rw [e] <;> rfl
section
variable {fa : List He.Fa} {fn : List He.DefD} {cs : List (Str × D)} {ks : List (Str × List (Key × D))} {w : World} {K : PySem.W.Frag}
theorem SaysM.one (c : SaysM fa fn cs ks w K) : (((fa.all fun f => f.ok K) && fn.all fun d => d.ok K) && ((cs.all fun c => cgB K c.1 c.2) && (sysB K && ks.all fun c => dgB K c.1 c.2))) = true := congrArg (fun z : AlM => z.1) c
theorem SaysM.d (c : SaysM fa fn cs ks w K) : He.SaysD fa fn K := by
  have c1 := (He.ba c.one).1
  have c2 : fn.map (fun d => He.fnW K d.at_) = fn.map He.DefD.val := congrArg (fun z : AlM => z.2.1) c
  show ((_, _) : He.AlD) = (_, _)
  rw [c1, c2]
theorem SaysM.sys (c : SaysM fa fn cs ks w K) : SysD K := sysB_ok (He.ba (He.ba (He.ba c.one).2).2).1
theorem SaysM.con (c : SaysM fa fn cs ks w K) {h : Heap} {mg : Str → Option Value} (X : K.In h) (G : h.Ns mainGlobals mg) (i : Nat) {x : Str} {d : D} (e : cs[i]? = some (x, d)) : Gd K mg x d := by
  have c1 := (He.ba (He.ba c.one).2).1
  exact cgB_ok X G (List.all_eq_true.mp c1 _ (List.mem_of_getElem? e))
theorem SaysM.dic (c : SaysM fa fn cs ks w K) {P : Program} {h : Heap} {mg : Str → Option Value} (X : K.In h) (G : h.Ns mainGlobals mg) (i : Nat) {x : Str} {kds : List (Key × D)} (e : ks[i]? = some (x, kds)) : Dg P w K mg x kds := by
  have c1 := (He.ba (He.ba (He.ba c.one).2).2).2
  have c2 : ks.map (fun c => dgH K c.1) = ks.map fun c => c.2.map fun p => keyH w p.1 := congrArg (fun z : AlM => z.2.2) c
  have c3 : (ks.map (fun c => dgH K c.1))[i]? = (ks.map fun c => c.2.map fun p => keyH w p.1)[i]? := by rw [c2]
  rw [List.getElem?_map, List.getElem?_map, e] at c3
  exact dgB_ok X G (List.all_eq_true.mp c1 _ (List.mem_of_getElem? e)) (Option.some.inj c3)
end
end
end Mi
set_option Elab.async false
set_option linter.all false
set_option maxRecDepth 100000
set_option maxHeartbeats 1000000
set_option autoImplicit false
namespace Mi
noncomputable section
open PySem PySem.Spec PyProof.Rows L2
/-! ### repr of any data -/
mutual
def toG : D → Option PyData
  | .non => some .none
  | .bl b => some (.bool b)
  | .int i => some (.int i)
  | .str x => some (.str x)
  | .tup ds => (toGs ds).map .tuple
  | .lst ds => (toGs ds).map .list
  | .frl ds => (toGs ds).map .list
  | .dic kds => (toGk kds).map .dict
  | .ty _ => none
def toGs : List D → Option (List PyData)
  | [] => some []
  | d :: ds => match toG d, toGs ds with
    | some p, some ps => some (p :: ps)
    | _, _ => none
def toGk : List (Key × D) → Option (List (PyData × PyData))
  | [] => some []
  | (k, d) :: ds => match toG d, toGk ds with
    | some p, some ps => some ((kP k, p) :: ps)
    | _, _ => none
end
section
variable {X : Cx} {pins : List (Addr × Obj)} {σ : L2.St} {F H : Hp} {s : Shared}
theorem SysD.ne (sd : SysD X.K) (I : L2.Inv X pins σ H s) {a : Addr} {o : Obj} (e : s.heap.get? a = some o) (hc : o.cls = .type "list") : sysModules ≠ a := by
  intro z
  obtain ⟨q, h1, h2⟩ := sd
  have h3 := I.kIn _ _ h1
  rw [z, e] at h3
  cases h3
  rw [hc] at h2
  exact absurd h2 (by decide)
mutual
theorem Sh.readsG (sd : SysD X.K) (I : L2.Inv X pins σ H s) (l : Le F H) : ∀ {v : V} {d : D} {p : PyData} {u : Value}, Sh X.K F v d → toG d = some p → RelV v u → ∃ as, Reads s.heap u p as ∧ sysModules ∉ as
  | _, _, _, _, .non, e, r => by cases e; cases r; exact ⟨_, .none, by simp⟩
  | _, _, _, _, .bl b, e, r => by cases e; cases r; exact ⟨_, .bool b, by simp⟩
  | _, _, _, _, .int b, e, r => by cases e; obtain ⟨t, rfl⟩ := r; exact ⟨_, .int b t, by simp⟩
  | _, _, _, _, .str b, e, r => by cases e; obtain ⟨t, rfl⟩ := r; exact ⟨_, .str b t, by simp⟩
  | _, _, _, _, .ty b, e, r => by cases e
  | _, _, _, _, .dic h rs, e, r => by
    simp only [toG, Option.map_eq_some_iff] at e
    obtain ⟨ps, e1, rfl⟩ := e
    cases r
    obtain ⟨_, hs, us, kv, o, es, ep, ho, hx, hdat, _, pr, _⟩ := dk_rd I.hok (l.sub.rd _ _ trivial h)
    obtain ⟨bs, g1, g2, g3⟩ := Shk.readsG sd I l rs e1 kv pr
    refine ⟨_, .dict ho hx.1 hdat g1 g2, fun z => ?_⟩
    simp only [List.append_nil, List.cons_append, List.nil_append, List.mem_cons] at z
    rcases z with z | z
    · rw [← z] at hs
      exact absurd hs (by decide)
    · exact g3 z
  | _, _, _, _, .lst h rs, e, r => by
    simp only [toG, Option.map_eq_some_iff] at e
    obtain ⟨ps, e1, rfl⟩ := e
    cases r
    obtain ⟨its, rv, ⟨o, n, ho, hc, _, hd⟩, _⟩ := I.list (.inl (.inl (l _ _ h)))
    obtain ⟨as, ra, na⟩ := Shs.readsG sd I l rs e1 rv
    exact ⟨_, .list ho hc hd (by simpa using ra), fun z => by
      rcases List.mem_cons.mp z with z | z
      · exact sd.ne I ho hc z
      · exact na z⟩
  | _, _, _, _, .frl h rs, e, r => by
    simp only [toG, Option.map_eq_some_iff] at e
    obtain ⟨ps, e1, rfl⟩ := e
    cases r
    obtain ⟨its, rv, ⟨o, n, ho, hc, _, hd⟩, _⟩ := I.list (sqL_sub l.sub h)
    obtain ⟨as, ra, na⟩ := Shs.readsG sd I l rs e1 rv
    exact ⟨_, .list ho hc hd (by simpa using ra), fun z => by
      rcases List.mem_cons.mp z with z | z
      · exact sd.ne I ho hc z
      · exact na z⟩
  | _, _, _, _, .tup h rs, e, r => by
    simp only [toG, Option.map_eq_some_iff] at e
    obtain ⟨ps, e1, rfl⟩ := e
    cases r
    obtain ⟨its, rv, ⟨o, ho, hc, n, hd⟩, _⟩ := I.tuple (sqT_sub l.sub h.sq)
    obtain ⟨as, ra, na⟩ := Shs.readsG sd I l rs e1 rv
    exact ⟨as, .tuple ho hc hd (by simpa using ra), na⟩
theorem Shs.readsG (sd : SysD X.K) (I : L2.Inv X pins σ H s) (l : Le F H) : ∀ {vs : List V} {ds : List D} {ps : List PyData} {us : List Value}, Shs X.K F vs ds → toGs ds = some ps → Vals vs us → ∃ as, ReadsAll s.heap us ps as ∧ sysModules ∉ as
  | _, _, _, _, .nil, e, r => by cases e; cases r; exact ⟨[], .nil, by simp⟩
  | _, _, _, _, .cons h rs, e, r => by
    simp only [toGs] at e
    split at e
    · rename_i p ps2 e1 e2
      cases e
      cases r with
      | cons r1 r2 =>
        obtain ⟨as, a1, a2⟩ := Sh.readsG sd I l h e1 r1
        obtain ⟨bs, b1, b2⟩ := Shs.readsG sd I l rs e2 r2
        exact ⟨as ++ bs, .cons a1 b1, fun z => by
          rcases List.mem_append.mp z with z | z
          · exact a2 z
          · exact b2 z⟩
    · cases e
theorem Shk.readsG (sd : SysD X.K) (I : L2.Inv X pins σ H s) (l : Le F H) : ∀ {kvs : List (Key × V)} {kds : List (Key × D)} {ps : List (PyData × PyData)} {us : List (Key × Value)} {es : List DictEntry}, Shk X.K F kvs kds → toGk kds = some ps → KV kvs us → Pairs (mixKind X.prog X.w) es us →
    ∃ bs, ReadsAll s.heap (es.map (·.key)) (ps.map (·.1)) [] ∧ ReadsAll s.heap (es.map (·.val)) (ps.map (·.2)) bs ∧ sysModules ∉ bs
  | _, _, _, _, _, .nil, e, r, pr => by
    cases e
    cases r
    cases pr
    exact ⟨[], .nil, .nil, by simp⟩
  | _, _, _, _, _, .cons h rs, e, r, pr => by
    simp only [toGk] at e
    split at e
    · rename_i p ps2 e1 e2
      cases e
      cases r with
      | cons r1 r2 =>
        cases pr with
        | cons p1 p3 p2 =>
          obtain ⟨bs, g1, g2, g3⟩ := Shk.readsG sd I l rs e2 r2 p2
          obtain ⟨q1, q2⟩ := r1
          rw [← p3] at q2
          obtain ⟨as, a1, a2⟩ := Sh.readsG sd I l h e1 q2
          refine ⟨as ++ bs, .cons (as := []) (bs := []) ?_ g1, .cons a1 g2, fun z => ?_⟩
          · rw [← q1] at p1
            exact key_reads p1
          · rcases List.mem_append.mp z with z | z
            · exact a2 z
            · exact g3 z
    · cases e
end
theorem bo_readsG (sd : SysD X.K) (I : L2.Inv X pins σ H s) (l : Le F H) {v : V} {d : D} {p : PyData} {u : Value} (b : Bo X.K F H v d) (e : toG d = some p) (r : RelV v u) : ∃ as, Reads s.heap u p as ∧ sysModules ∉ as := by
  rcases b with b | ⟨a, rfl, n, o⟩
  · exact Sh.readsG sd I l b e r
  · cases d with
    | lst ds =>
      obtain ⟨vs, h, rs⟩ := o
      simp only [toG, Option.map_eq_some_iff] at e
      obtain ⟨ps, e1, rfl⟩ := e
      cases r
      obtain ⟨its, rv, ⟨o, n, ho, hc, _, hd⟩, _⟩ := I.list (.inl (.inl h))
      obtain ⟨as, ra, na⟩ := Shs.readsG sd I l rs e1 rv
      exact ⟨_, .list ho hc hd (by simpa using ra), fun z => by
        rcases List.mem_cons.mp z with z | z
        · exact sd.ne I ho hc z
        · exact na z⟩
    | dic ds =>
      obtain ⟨vs, h, rs⟩ := o
      simp only [toG, Option.map_eq_some_iff] at e
      obtain ⟨ps, e1, rfl⟩ := e
      cases r
      obtain ⟨_, hs, us, kv, o, es, ep, ho, hx, hdat, _, pr, _⟩ := dk_rd I.hok (.inl h)
      obtain ⟨bs, g1, g2, g3⟩ := Shk.readsG sd I l rs e1 kv pr
      refine ⟨_, .dict ho hx.1 hdat g1 g2, fun z => ?_⟩
      simp only [List.append_nil, List.cons_append, List.nil_append, List.mem_cons] at z
      rcases z with z | z
      · rw [← z] at hs
        exact absurd hs (by decide)
      · exact g3 z
    | _ => exact o.elim
def rReprG (K : PySem.W.Frag) : List V → Hp → VK → Prop := fun xs H Q => ∃ F x d p, xs = [x] ∧ Le F H ∧ Bo K F H x d ∧ toG d = some p ∧ shOk p = true ∧ Q (.str p.shown) H
theorem cr_reprG {k : Nat} (hr : Rm k X.A) (sd : SysD X.K) : CallR X (.builtin "repr") (rReprG X.K) := by
  intro pins s σ H xs us Q I r h
  obtain ⟨F, x, d, p, rfl, l, b, e, ok, q⟩ := h
  obtain ⟨u, rfl, ru⟩ := vals1 r
  simp only [shOk, Bool.and_eq_true, decide_eq_true_eq] at ok
  obtain ⟨⟨o1, o2⟩, o3⟩ := ok
  obtain ⟨as, ra, sm⟩ := bo_readsG sd I l b e ru
  have hu := hr.room.un
  have fin : ∀ (h' : Heap) (t : Tok) (tk : Nat), (∀ b o, s.heap.get? b = some o → h'.get? b = some o) → EP X pins σ Q (.str p.shown t) { s with heap := h', toks := tk } := fun h' t tk hk => ⟨.str p.shown, H, I.kept hk, ⟨t, rfl⟩, q⟩
  cases ra with
  | none => exact PySem.P.repr_of_none (fin s.heap _ _ fun _ _ z => z)
  | bool c => exact PySem.P.repr_of_bool (fin s.heap _ _ fun _ _ z => z)
  | int i t => exact PySem.P.repr_of_int (by simpa [PyData.showable] using o1) (fin s.heap _ _ fun _ _ z => z)
  | str z t => exact PySem.P.repr_of_str (fin s.heap _ _ fun _ _ z => z) o3
  | list h1 h2 h3 h4 => exact repr_of_reads' (.list h1 h2 h3 h4) o1 (fun _ => sm) hr.gd (by omega) (fun _ _ z => z) fin o3
  | tuple h1 h2 h3 h4 => exact repr_of_reads' (.tuple h1 h2 h3 h4) o1 (fun _ => sm) hr.gd (by omega) (fun _ _ z => z) fin o3
  | dict h1 h2 h3 h4 h5 => exact repr_of_reads' (.dict h1 h2 h3 h4 h5) o1 (fun _ => sm) hr.gd (by omega) (fun _ _ z => z) fin o3
def reprG : List D → Option Rs
  | [d] => match toG d with
    | some p => if shOk p then some (.sh (.str p.shown)) else none
    | none => none
  | _ => none
theorem ok_reprG {K : PySem.W.Frag} : OkC K (rReprG K) reprG := fun F H vs ds z Q l bb q k => by
  unfold reprG at q
  split at q
  · split at q
    · rename_i p e
      split at q
      · rename_i hz
        cases q
        obtain ⟨v, rfl, b⟩ := bb.one
        exact ⟨F, v, _, p, rfl, l, b, e, hz, ok_sc l (fun F => .str _) k⟩
      · cases q
    · cases q
  · cases q
end
end
end Mi
set_option Elab.async false
set_option linter.all false
set_option maxRecDepth 100000
set_option maxHeartbeats 1000000
set_option autoImplicit false
namespace Mi
noncomputable section
open PySem PySem.Spec PyProof.Rows L2
/-! ### zip of two lists, of two tuples -/
def zpD : D → D → Option (List D)
  | .lst ds, .lst es => some (dZip ds es)
  | .lst ds, .frl es => some (dZip ds es)
  | .frl ds, .lst es => some (dZip ds es)
  | .frl ds, .frl es => some (dZip ds es)
  | .tup ds, .tup es => some (dZip ds es)
  | _, _ => none
def iZa (l : MA) : MI := fun ρ => match l ρ with
  | some (rs, ρ1) => match shrs ρ1 rs with
    | some ([d, e], ρ2) => match zpD d e with
      | some zs => some (zs, ρ2)
      | none => none
    | _ => none
  | none => none
theorem itzT_ok {K : PySem.W.Frag} {F H : Hp} {a b : Addr} {vs us : List V} {ds es : List D} (h : SqT K F a vs) (r : Shs K F vs ds) (h' : SqT K F b us) (r' : Shs K F us es) : ItOK K (RZ.ItzT K a b) F H (dZip ds es) := by
  refine ⟨fun i F2 H2 z s l _ e => ?_, fun i F2 H2 s l _ hi => ?_⟩
  · obtain ⟨d, d', e1, e1', rfl⟩ := dZip_get e
    obtain ⟨v, e2, h1⟩ := r.get e1
    obtain ⟨u, e2', h1'⟩ := r'.get e1'
    have hs := sqT_sub (s.trans l.sub) h
    have hs' := sqT_sub (s.trans l.sub) h'
    refine ⟨⟨vs, us, v, u, hs, hs', e2, e2'⟩, fun x H3 ⟨T, y, y', e3, hT, e4, hy, hy'⟩ => ⟨upd F2 T (.tup [y, y']), by rw [e4]; exact Gr.new_sh l hT, ?_⟩⟩
    have := hy vs hs
    rw [e2] at this; cases this
    have := hy' us hs'
    rw [e2'] at this; cases this
    rw [e3]
    have sb := (le_upd (o := .tup [v, u]) (l.none hT)).sub
    exact .tup (.inl upd_same) (.cons (h1.sub (s.trans sb)) (.cons (h1'.sub (s.trans sb)) .nil))
  · rw [dZip_len] at hi
    exact ⟨vs, us, sqT_sub (s.trans l.sub) h, sqT_sub (s.trans l.sub) h', by rw [r.length, r'.length]; omega⟩
section
variable {X : Cx}
theorem iv_zipA {e e2 : Expr} {l : MA} {p pos tpos : Pos} {elts : List Expr} {kk : Nat} (hm : X.mg "zip" = none) (ha : AV X [e, e2] l) (hg : Gl X "zip" := by rfl) (hs : starEach [e, e2] X.env = (false, eval e X.env) :: starEach [e2] X.env := by rfl) (hpl : (backTo pos (starEach [e2] X.env)).any (·.1) = false := by rfl) :
    IV X (.Tuple elts kk tpos) (.Call (.Name "zip" p) [e, e2] [] pos) (iZa l) := by
  refine iv_of (RZ.pi_zipA hg hm ha hs hpl) fun σ H R ⟨F, ρ, ds, ρ', Re, e, k⟩ => ?_
  unfold iZa at e
  split at e
  · rename_i rs ρ1 e1
    split at e
    · rename_i d1 d2 ρ2 e2
      split at e
      · rename_i zs e3
        cases e
        refine ⟨F, ρ, _, _, Re, e1, fun vs F1 H1 X1 h1 nw => ?_⟩
        obtain ⟨F2, X2, s, _⟩ := shrs_step X1 h1 nw e2
        cases s with
        | cons s1 s2 =>
          cases s2 with
          | cons s2 s3 =>
            cases s3
            have goL : ∀ {a b : Addr} {us ws : List V} {xs ys : List D}, SqL X.K F2 a us → Shs X.K F2 us xs → SqL X.K F2 b ws → Shs X.K F2 ws ys → ds = dZip xs ys →
                ∃ a' b' xs' ys', [V.ref a, V.ref b] = [V.ref a', V.ref b'] ∧ ((SqL X.K H1 a' xs' ∧ SqL X.K H1 b' ys' ∧ R (Itz X.K a' b') H1) ∨ (SqT X.K H1 a' xs' ∧ SqT X.K H1 b' ys' ∧ R (RZ.ItzT X.K a' b') H1)) := by
              intro a b us ws xs ys q1 q2 q3 q4 q5
              subst q5
              exact ⟨a, b, us, ws, rfl, .inl ⟨sqL_sub X2.rep.le.sub q1, sqL_sub X2.rep.le.sub q3, k _ F2 H1 X2 (itz_ok q1 q2 q3 q4)⟩⟩
            cases s1 with
            | lst hs r =>
              cases s2 with
              | lst hs' r' => exact goL (.inl (.inl hs)) r (.inl (.inl hs')) r' (by simpa [zpD] using e3.symm)
              | frl hs' r' => exact goL (.inl (.inl hs)) r hs' r' (by simpa [zpD] using e3.symm)
              | _ => simp [zpD] at e3
            | frl hs r =>
              cases s2 with
              | lst hs' r' => exact goL hs r (.inl (.inl hs')) r' (by simpa [zpD] using e3.symm)
              | frl hs' r' => exact goL hs r hs' r' (by simpa [zpD] using e3.symm)
              | _ => simp [zpD] at e3
            | tup hs r =>
              cases s2 with
              | tup hs' r' =>
                have q5 := by simpa [zpD] using e3.symm
                subst q5
                exact ⟨_, _, _, _, rfl, .inr ⟨sqT_sub X2.rep.le.sub hs.sq, sqT_sub X2.rep.le.sub hs'.sq, k _ F2 H1 X2 (itzT_ok hs.sq r hs'.sq r')⟩⟩
              | _ => simp [zpD] at e3
            | _ => cases s2 <;> simp [zpD] at e3
      · cases e
    · cases e
  · cases e
end
end
end Mi
set_option Elab.async false
set_option linter.all false
set_option maxRecDepth 100000
set_option maxHeartbeats 1000000
set_option autoImplicit false
namespace Mi
noncomputable section
open PySem PySem.Spec PyProof.Rows L2
/-! ### is True, is False -/
section
variable {X : Cx}
theorem op_isB : OpR X (compareOp .Is) (fun x y H Q => ∃ b, y = .bl b ∧ Q (.bl (decide (x = .bl b))) H) := by
  intro pins s σ H x y v u Q I rx ry h
  obtain ⟨b, rfl, q⟩ := h
  cases ry
  cases x with
  | bl c =>
    cases rx
    refine wpAny_is_plain rfl (fin_bl I q ?_)
    cases b <;> cases c <;> rfl
  | non => cases rx; exact wpAny_is_plain rfl (fin_bl I q rfl)
  | ref a => cases rx; exact wpAny_is_plain rfl (fin_bl I q rfl)
  | int i => obtain ⟨t, rfl⟩ := rx; exact wpAny_is_plain rfl (fin_bl I q rfl)
  | str x => obtain ⟨t, rfl⟩ := rx; exact wpAny_is_plain rfl (fin_bl I q rfl)
  | byt x => obtain ⟨t, rfl⟩ := rx; exact wpAny_is_plain rfl (fin_bl I q rfl)
  | flt x => obtain ⟨t, rfl⟩ := rx; exact wpAny_is_plain rfl (fin_bl I q rfl)
  | ty n => cases rx; exact wpAny_is_plain rfl (fin_bl I q rfl)
def isBD : D → D → Option Rs
  | .bl a, .bl b => some (.sh (.bl (decide (a = b))))
  | .non, .bl _ => some (.sh (.bl false))
  | .int _, .bl _ => some (.sh (.bl false))
  | .str _, .bl _ => some (.sh (.bl false))
  | .tup _, .bl _ => some (.sh (.bl false))
  | .lst _, .bl _ => some (.sh (.bl false))
  | .frl _, .bl _ => some (.sh (.bl false))
  | .dic _, .bl _ => some (.sh (.bl false))
  | _, _ => none
end
section
variable {K : PySem.W.Frag}
theorem Bo.bl' {F H : Hp} {v : V} {b : Bool} (h : Bo K F H v (.bl b)) : v = .bl b := by
  rcases h with h | ⟨a, e, _, o⟩
  · cases h; rfl
  · exact o.elim
theorem Bo.ne_bl {F H : Hp} {v : V} {d : D} (h : Bo K F H v d) (n : ∀ b, d ≠ .bl b) (b : Bool) : v ≠ .bl b := by
  rcases h with h | ⟨a, e, _⟩
  · cases h <;> first | exact absurd rfl (n _) | exact fun z => nomatch z
  · rw [e]; exact fun z => nomatch z
theorem ok_isB : Ok2 K (fun x y H Q => ∃ b, y = .bl b ∧ Q (.bl (decide (x = .bl b))) H) isBD := fun F H x y d e z Q l b1 b2 q k => by
  unfold isBD at q
  split at q
  · rename_i a b
    cases q
    refine ⟨b, b2.bl', ?_⟩
    rw [b1.bl', show decide (V.bl a = V.bl b) = decide (a = b) by cases a <;> cases b <;> rfl]
    exact ok_sc l (fun F => .bl _) k
  all_goals first
    | (cases q; done)
    | (rename_i b
       cases q
       refine ⟨b, b2.bl', ?_⟩
       rw [decide_eq_false (b1.ne_bl (fun c z => nomatch z) b)]
       exact ok_sc l (fun F => .bl _) k)
end
end
end Mi
set_option Elab.async false
set_option linter.all false
set_option maxRecDepth 100000
set_option maxHeartbeats 1000000
set_option autoImplicit false
namespace Mi
noncomputable section
open PySem PySem.Spec PyProof.Rows L2
/-! ### a slot is shared from here on -/
def fz (i : Nat) (ρ : En) : En := match ρ[i]? with
  | some (some w) => ρ.set i (some ⟨false, w.pin, w.d⟩)
  | _ => ρ
def mFzS (i : Nat) (m : MS) : MS := fun ρ => m (fz i ρ)
def mFzE (i : Nat) (m : ME) : ME := fun ρ => m (fz i ρ)
section
variable {X : Cx} {K : PySem.W.Frag}
theorem fz_ex {F H : Hp} {σ : L2.St} {ρ : En} (R : Rep K F H σ ρ) (i : Nat) : ∃ F', Ex K F H σ ρ F' H σ (fz i ρ) := by
  unfold fz
  split
  · rename_i w e
    obtain ⟨v, e2, _⟩ := R.at_ i w e
    obtain ⟨F', h⟩ := Ex.freeze_at R e e2
    exact ⟨F', h.1⟩
  · exact ⟨F, Ex.refl R⟩
theorem sv_fz {st : Stmt} {m : MS} (i : Nat) (h : SV X st m) : SV X st (mFzS i m) :=
  sv_of h fun D σ H ⟨F, ρ, o, ρ', R, e, k⟩ => by
    obtain ⟨F1, X1⟩ := fz_ex R i
    refine ⟨F1, fz i ρ, o, ρ', X1.rep, e, fun σ' F' H' X2 => ?_⟩
    exact k σ' F' H' (X1.trans X2)
theorem ev_fz {ex : Expr} {m : ME} (i : Nat) (h : EV X ex m) : EV X ex (mFzE i m) :=
  ev_of h fun σ H Q F ρ r ρ' R e k => by
    obtain ⟨F1, X1⟩ := fz_ex R i
    exact ⟨F1, fz i ρ, r, ρ', X1.rep, e, fun v F' H' X2 h nw => k v F' H' (X1.trans X2) h nw⟩
end
section
variable {X : Cx} {tg e : Expr} {apos cpos : Pos}
theorem piW_vals {i : Nat} (he : PE X e (tVar i)) (hbase : attributeBase e "values" X.env (eval e X.env) = eval e X.env := by rfl) (hline : (apos.endLine == cpos.line) = true := by rfl) : PI X tg (.Call (.Attribute e "values" apos) [] [] cpos) (iW .vals (tVar i)) := pi_values he hbase hline
theorem piW_items {i : Nat} {elts : List Expr} {kk : Nat} {tpos : Pos} (he : PE X e (tVar i)) (hbase : attributeBase e "items" X.env (eval e X.env) = eval e X.env := by rfl) (hline : (apos.endLine == cpos.line) = true := by rfl) : PI X (.Tuple elts kk tpos) (.Call (.Attribute e "items" apos) [] [] cpos) (iW .items (tVar i)) := pi_items he hbase hline
theorem piW_keysM {i : Nat} (he : PE X e (tVar i)) (hbase : attributeBase e "keys" X.env (eval e X.env) = eval e X.env := by rfl) (hline : (apos.endLine == cpos.line) = true := by rfl) : PI X tg (.Call (.Attribute e "keys" apos) [] [] cpos) (iW .keys (tVar i)) := pi_keysM he hbase hline
end
end
end Mi
set_option Elab.async false
set_option linter.all false
set_option maxRecDepth 100000
set_option maxHeartbeats 1000000
set_option autoImplicit false
namespace Mi
noncomputable section
open PySem PySem.Spec PyProof.Rows L2
/-! ### d[k] = v -/
def stD : D → D → D → Option D
  | .dic kvs, k, y => match keyD k with
    | some kk => if kvs.length < sizeLine then some (.dic (putD kvs kk y)) else none
    | none => none
  | _, _, _ => none
def mStoD (i : Nat) (m : ME) (mi : ME) : MS := fun ρ => match m ρ with
  | some (r, ρ1) => match shr ρ1 r with
    | some (y, ρ2) => match ρ2[i]? with
      | some (some ⟨true, _, _⟩) => match mi ρ2 with
        | some (q, ρ3) => match peek ρ3 q with
          | some k => match ρ3[i]? with
            | some (some ⟨true, p, d⟩) => match stD d k y with
              | some d' => some (.nx, ρ3.set i (some ⟨true, p, d'⟩))
              | none => none
            | _ => none
          | none => none
        | none => none
      | _ => none
    | none => none
  | none => none
theorem bo_key {K : PySem.W.Frag} {F H : Hp} {y : V} {d : D} {k : Key} (h : Bo K F H y d) (e : keyD d = some k) : y = kV k := by
  unfold keyD at e
  split at e
  · cases e; exact h.int
  · cases e; exact h.str
  · cases e
section
variable {X : Cx} {K : PySem.W.Frag}
theorem stoD_use {i : Nat} {m mi : ME} {E : Ends} {σ : L2.St} {H : Hp} (h : tMS K (mStoD i m mi) E σ H) : tAsg (tM K m) (gSub (tM K (mVar i)) (tM K mi) rSetD) E σ H := by
  obtain ⟨F, ρ, o, ρ', R, e, k⟩ := h
  unfold mStoD at e
  split at e
  · rename_i r ρ1 e1
    split at e
    · rename_i y ρ2 e2
      split at e
      · rename_i p0 d0 e3
        split at e
        · rename_i q ρ3 e4
          split at e
          · rename_i kk e5
            split at e
            · rename_i p d e6
              split at e
              · rename_i d' e7
                cases e
                refine ⟨F, ρ, _, _, R, e1, fun v F1 H1 X1 h1 nw => ?_⟩
                obtain ⟨F2, X2, s2, _⟩ := Rv.shr_step X1 h1 nw e2
                refine ⟨F2, ρ2, .at i, ρ2, X2.rep, by unfold mVar; rw [e3]; rfl, fun v3 F3 H3 X3 h3 _ => ⟨F3, ρ2, _, _, X3.rep, e4, fun v4 F4 H4 X4 h4 _ => ?_⟩⟩
                obtain ⟨es', w', ew⟩ := h3
                obtain ⟨v', ev, hw⟩ := X4.rep.at_ i _ e6
                rw [es'] at ev
                cases ev
                obtain ⟨a, ea, fa, o⟩ : ∃ a, v3 = .ref a ∧ F4 a = none ∧ OwO K F4 H4 a d := by simpa [HW] using hw
                have sy := (s2.sub X3.sub).sub X4.sub
                have bk := HR.bo X4.rep h4 e5
                unfold stD at e7
                split at e7
                · split at e7
                  · rename_i kk' e8
                    split at e7
                    · rename_i hl
                      cases e7
                      obtain ⟨us, e9, r9⟩ : ∃ us, H4 a = some (.dK us) ∧ Shk K F4 us _ := o
                      have ek := bo_key bk e8
                      have X5 := Ex.write (d' := .dic (putD _ kk' y)) X4.rep e6 (by rw [es', ea]) (o := .dK (putK us kk' v)) ⟨_, upd_same, Shk.put sy r9⟩
                      exact ⟨a, _, ea, by rw [ek]; exact DPut.k e9 (by rw [r9.length]; exact hl), k σ F4 _ (((X2.trans X3).trans X4).trans X5)⟩
                    · cases e7
                  · cases e7
                · cases e7
              · cases e
            · cases e
          · cases e
        · cases e
      · cases e
    · cases e
  · cases e
theorem sv_stoD {kk : Nat} (hr : Rm kk X.A) (i : Nat) {x : Str} {e ix : Expr} {m mi : ME} {npos tpos pos : Pos} (he : EV X e m) (hi : EV X ix mi) (ho : EV X (.Name x npos) (mVar i) := by exact ev_var _)
    (ha : ∀ v, assign (.Subscript (.Name x npos) ix tpos) X.env v = (do
      let ov ← holding [v] (eval (.Name x npos) X.env)
      let iv ← holding [v, ov] (eval ix X.env)
      standAt tpos
      holding [v, ov, iv] (setItem ov iv v)
      release [v, ov, iv] []) := by intro _; rfl)
    (hs : swapsWithSole [.Subscript (.Name x npos) ix tpos] e pos.line X.env = pure false := by rfl) (hw : swappedStores [.Subscript (.Name x npos) ix tpos] e X.env = pure none := by rfl)
    (h1 : (assignEach [.Subscript (.Name x npos) ix tpos] X.env).map (·.2) = [assign (.Subscript (.Name x npos) ix tpos) X.env] := by rfl) : SV X (.Assign [.Subscript (.Name x npos) ix tpos] e pos) (mStoD i m mi) :=
  sv_of (ps_asg he (pg_sub ho hi (set_dict (by have := hr.room.units; omega)) ha) hs hw h1) fun E σ H h => stoD_use h
end
end
end Mi
set_option Elab.async false
set_option linter.all false
set_option maxRecDepth 100000
set_option maxHeartbeats 1000000
set_option autoImplicit false
namespace Mi
noncomputable section
open PySem PySem.Spec PyProof.Rows L2
/-! ### list(range(a, b)) -/
def lrD : D → D → Option Rs
  | .int i, .int j => if big (RgOk i j) then some (.ow (.lst (dRange i (j - i).toNat))) else none
  | _, _ => none
def rLR : R2 := fun x y H Q => ∃ i j, x = .int i ∧ y = .int j ∧ RgOk i j ∧ ∀ q, H q = none → Q (.ref q) (upd H q (.lst (rgV i j)))
section
variable {X : Cx} {K : PySem.W.Frag}
theorem rg_shs {F : Hp} (a b : Int) : Shs K F (rgV a b) (dRange a (b - a).toNat) := by
  unfold rgV dRange
  generalize List.range (b - a).toNat = l
  induction l with
  | nil => exact .nil
  | cons x l ih => exact .cons (.int _) ih
theorem ok_lr : Ok2 K rLR lrD := fun F H x y d e z Q l b1 b2 q k => by
  unfold lrD at q
  split at q
  · rename_i i j
    split at q
    · rename_i hb
      cases q
      exact ⟨i, j, b1.int, b2.int, hb, new_lst l (rg_shs i j) k⟩
    · cases q
  · cases q
theorem ev_lr2 {a b : Expr} {m n : ME} {p p2 pos pos2 : Pos} (hm : X.mg "list" = none) (hm2 : X.mg "range" = none) (ha : EV X a m) (hb : EV X b n) (hc : X.calm = true := by rfl) (hg : Gl X "list" := by rfl) (hg2 : Gl X "range" := by rfl)
    (na : starEach [a, b] X.env = (false, eval a X.env) :: starEach [b] X.env := by rfl) (nb : starEach [b] X.env = (false, eval b X.env) :: starEach [] X.env := by rfl) (hp : (backTo pos2 (starEach [b] X.env)).any (·.1) = false := by rfl)
    (ne : starEach [.Call (.Name "range" p2) [a, b] [] pos2] X.env = (false, eval (.Call (.Name "range" p2) [a, b] [] pos2) X.env) :: starEach [] X.env := by rfl) :
    EV X (.Call (.Name "list" p) [.Call (.Name "range" p2) [a, b] [] pos2] [] pos) (m2 lrD m n) :=
  ev_of (pe_listRg hc hg hm (prg_2 hg2 hm2 ha hb na nb hp) ne) fun σ H Q F ρ z ρ' R e k => by
    have := use2 (ok_lr (K := X.K)) R e k
    exact this
theorem ev_lr1 {a : Expr} {m : ME} {p p2 pos pos2 : Pos} (hm : X.mg "list" = none) (hm2 : X.mg "range" = none) (ha : EV X a m) (hc : X.calm = true := by rfl) (hg : Gl X "list" := by rfl) (hg2 : Gl X "range" := by rfl)
    (na : starEach [a] X.env = (false, eval a X.env) :: starEach [] X.env := by rfl)
    (ne : starEach [.Call (.Name "range" p2) [a] [] pos2] X.env = (false, eval (.Call (.Name "range" p2) [a] [] pos2) X.env) :: starEach [] X.env := by rfl) :
    EV X (.Call (.Name "list" p) [.Call (.Name "range" p2) [a] [] pos2] [] pos) (mU (lrD (.int 0)) m) :=
  ev_of (pe_listRg hc hg hm (prg_1 hg2 hm2 ha na) ne) fun σ H Q F ρ z ρ' R e k => by
    have ok : OkU X.K (fun x H Q => ∃ n, x = .int n ∧ RgOk 0 n ∧ ∀ q, H q = none → Q (.ref q) (upd H q (.lst (rgV 0 n)))) (lrD (.int 0)) := fun F H x d z Q l b1 q k => by
      unfold lrD at q
      split at q
      · rename_i i j e1
        split at q
        · rename_i hb
          cases q
          cases e1
          exact ⟨j, b1.int, hb, new_lst l (rg_shs 0 j) k⟩
        · cases q
      · cases q
    have := use1 ok R e k
    exact this
end
/-! ### xs[::s], s 1 or -1 -/
def stpL : D → D → Option Rs
  | .lst ds, .int s => if s = -1 then some (.ow (.lst ds.reverse)) else if s = 1 then some (.ow (.lst ds)) else none
  | _, _ => none
def rStI (K : PySem.W.Frag) (x : V) (i : Int) (H : Hp) (Q : VK) : Prop := ∃ a xs, x = .ref a ∧ SqL K H a xs ∧ (i = -1 ∨ i = 1) ∧ ∀ p, H p = none → Q (.ref p) (upd H p (.lst (if i = -1 then xs.reverse else xs)))
def rStL (K : PySem.W.Frag) : R2 := fun x y H Q => ∃ i, y = .int i ∧ rStI K x i H Q
section
variable {X : Cx} {K : PySem.W.Frag}
theorem pick_one (its : List Value) : slicePick its.toArray none none (some 1) = its.toArray := by
  have e : slicePick its.toArray none none (some 1) = slicePick its.toArray none none none := rfl
  rw [e, slicePick_cut]
  simp [HT.sIx]
theorem pick_step (its : List Value) {i : Int} (h : i = -1 ∨ i = 1) : slicePick its.toArray none none (some i) = (if i = -1 then its.reverse else its).toArray := by
  rcases h with rfl | rfl
  · rw [PySem.W.krv_pick]; simp
  · rw [pick_one]; simp
theorem pe_stepL {e st : Expr} {te ts : TE} {p3 pos : Pos} (he : PE X e te) (hst0 : PE X st ts) : PE X (.Subscript e (.Slice none none (some st) p3) pos) (fun σ H Q => te σ H fun x H1 => ts σ H1 fun y H2 => rStL X.K x y H2 Q) := by
  refine ⟨fun pins s σ H Q I h => ?_⟩
  refine Subscript_ (thn (he.run pins s σ H _ I h) fun v s1 ⟨x, H1, I1, r1, q1⟩ => ?_)
  have hst : PO X (some st) (tPart ts) := po_some hst0
  refine wpAny_Slice (thn (po_none.run pins s1 σ H1 (fun o H2 => o = none ∧ H2 = H1) I1 ⟨rfl, rfl⟩) fun vl s2 ⟨l, H2, I2, pl, el, e2⟩ => ?_)
  subst el e2
  refine thn (po_none.run pins s2 σ H2 (fun o H3 => o = none ∧ H3 = H2) I2 ⟨rfl, rfl⟩) fun vu s3 ⟨u, H3, I3, pu, eu, e3⟩ => ?_
  subst eu e3
  refine thn (hst.run pins s3 σ H3 (fun o H4 => match o with | some i => rStI X.K x i H4 Q | none => False) I3 q1) fun vs s4 ⟨o, H4, I4, ps, q2⟩ => ?_
  cases o with
  | none => exact q2.elim
  | some i =>
  obtain ⟨a, xs, ex, hx, hi, q⟩ : rStI X.K x i H4 Q := q2
  subst ex
  cases r1
  have I5 : Inv X pins σ H4 { s4 with heap := s4.heap.push { cls := .type "slice", data := .fields #[vl, vu, vs] } } := I4.kept (t' := s4.toks) fun b ob q => Heap.get?_push_of_some _ q
  obtain ⟨its, r, ht, hz⟩ := I5.list hx
  have hlen := r.length
  show wpAny (model X.prog X.w) X.A (subscriptTail e (.Slice none none (some st) p3) (.ref a) (.ref s4.heap.objs.size)) (EP X pins σ Q) X.xe { s4 with heap := s4.heap.push { cls := .type "slice", data := .fields #[vl, vu, vs] } }
  refine tail_any (ops := [.ref a, .ref s4.heap.objs.size]) ht.isList.typeIs (PySem.slot_list_getitem.lookup) ?_ (by with_unfolding_all rfl)
  refine wpAny_getItem_list_slice ht.isList (Heap.IsSliceOf.new _ vl vu vs) pl pu ps (by rcases hi with rfl | rfl <;> decide) ?_ (by rw [List.size_toArray]; omega)
  rw [pick_step its hi]
  refine ⟨.ref _, _, I5.laid (t' := s4.toks) (o := .lst (if i = -1 then xs.reverse else xs)) (fun b ob q => Heap.get?_push_of_some _ q) (Nat.le_refl _) ?_, rfl, q _ (I5.hok.fresh (Nat.le_refl _))⟩
  rcases hi with rfl | rfl
  · exact ⟨by simpa using hz, _, 0, r.reverse, Heap.get?_push_size _ rfl⟩
  · exact ⟨hz, _, 0, r, Heap.get?_push_size _ rfl⟩
theorem ok_stpL : Ok2 K (rStL K) stpL := fun F H x y d e z Q l b1 b2 q k => by
  unfold stpL at q
  split at q
  · rename_i ds s
    obtain ⟨a, vs, e1, h1, r⟩ := b1.list l
    refine ⟨s, b2.int, a, vs, e1, h1, ?_⟩
    split at q
    · rename_i hs
      cases q
      subst hs
      refine ⟨.inl rfl, ?_⟩
      have := new_lst l r.reverse k
      simpa using this
    · rename_i hs
      split at q
      · rename_i hs2
        cases q
        subst hs2
        refine ⟨.inr rfl, ?_⟩
        have := new_lst l r k
        simpa using this
      · cases q
  · cases q
theorem ev_stepL {e st : Expr} {m n : ME} {p3 pos : Pos} (he : EV X e m) (hs : EV X st n) : EV X (.Subscript e (.Slice none none (some st) p3) pos) (m2 stpL m n) :=
  ev_of (pe_stepL he hs) fun σ H Q F ρ z ρ' R e k => use2 ok_stpL R e k
end
end
end Mi
set_option Elab.async false
set_option linter.all false
set_option maxRecDepth 100000
set_option maxHeartbeats 1000000
set_option autoImplicit false
namespace Mi
noncomputable section
open PySem PySem.Spec PyProof.Rows L2 HT
/-! ### ts[::-1] -/
section
variable {prog : Program} {w : World} {A : Around} {E : Value → Shared → Prop} {s : Shared}
theorem sliceApplied_rev {sl : Addr} {vl vu vs : Value} {n : Nat} {Q : Int × Int × Nat → Shared → Prop} (hs : s.heap.IsSliceOf sl vl vu vs) (pl : IsPart vl none) (pu : IsPart vu none) (ps : IsPart vs (some (-1)))
    (h : Q ((n : Int) - 1, -1, n) s) : wpAny (model prog w) A (Builtin.Slice.sliceApplied (.ref sl) (pure (n : Int))) Q E s := by
  obtain ⟨os, hos, hcs, hds⟩ := id hs
  unfold Builtin.Slice.sliceApplied Builtin.Slice.sliceFields
  refine wpAny_bind (wpAny_bind (wpAny_field hos hds (x := vl) rfl (wpAny_bind (wpAny_field hos hds (x := vu) rfl (wpAny_bind (wpAny_field hos hds (x := vs) rfl (wpAny_pure ?_)))))))
  refine wpAny_bind (slicePart_ ps ?_)
  show wpAny _ _ (if ((-1 : Int) == 0) = true then _ else _) _ _ s
  rw [if_neg (by decide)]
  refine wpAny_bind (slicePart_ pl (wpAny_bind (slicePart_ pu (wpAny_bind (wpAny_pure ?_)))))
  show wpAny _ _ (match Builtin.Slice.sliceAdjust none none (-1) (n : Int) with | (lo, hi) => pure (lo, (-1 : Int), Builtin.Slice.slicePlaces lo hi (-1))) _ _ s
  have e1 : Builtin.Slice.sliceAdjust none none (-1) (n : Int) = ((n : Int) - 1, -1) := by simp [Builtin.Slice.sliceAdjust]
  rw [e1]
  show wpAny _ _ (pure ((n : Int) - 1, (-1 : Int), Builtin.Slice.slicePlaces ((n : Int) - 1) (-1) (-1))) _ _ s
  have e2 : Builtin.Slice.slicePlaces ((n : Int) - 1) (-1) (-1) = n := by
    unfold Builtin.Slice.slicePlaces
    rw [if_neg (by decide)]
    by_cases hn : n = 0
    · subst hn; decide
    · rw [if_pos (by omega)]
      have : ((n : Int) - 1 - -1 - 1) / (- -1) = (n : Int) - 1 := by rw [show (- -1 : Int) = 1 from rfl, Int.ediv_one]; omega
      rw [this]; omega
  rw [e2]
  exact wpAny_pure h
theorem pick_rev (xs : Array Value) : ((List.range xs.size).filterMap fun (m : Nat) => xs[(((xs.size : Int) - 1) + (m : Int) * (-1)).toNat]?).toArray = xs.toList.reverse.toArray := by
  congr 1
  apply List.ext_getElem?
  intro i
  by_cases hi : i < xs.size
  · have e : ∀ (l : List Nat), (∀ m ∈ l, m < xs.size) → (l.filterMap fun (m : Nat) => xs[(((xs.size : Int) - 1) + (m : Int) * (-1)).toNat]?) = l.map fun m => xs.toList.reverse.getD m default := by
      intro l hl
      induction l with
      | nil => rfl
      | cons m l ih =>
        have hm := hl m (by simp)
        have e1 : (((xs.size : Int) - 1) + (m : Int) * (-1)).toNat = xs.size - 1 - m := by omega
        have e2 : xs[xs.size - 1 - m]? = some (xs[xs.size - 1 - m]'(by omega)) := Array.getElem?_eq_getElem (by omega)
        rw [List.filterMap_cons, e1, e2, ih fun k hk => hl k (by simp [hk])]
        simp [List.getElem?_reverse, hm]
    rw [e _ (fun m hm => by simpa using hm)]
    simp [hi]
  · have h1 : xs.toList.reverse[i]? = none := by simp; omega
    rw [h1]
    apply List.getElem?_eq_none
    refine Nat.le_trans (List.length_filterMap_le _ _) ?_
    simp; omega
theorem getItem_tuple_rev {t sl : Addr} {items : Array Value} {vl vu vs : Value} {Q : Value → Shared → Prop} (ht : IsTup s.heap t items) (hs : s.heap.IsSliceOf sl vl vu vs) (pl : IsPart vl none) (pu : IsPart vu none) (ps : IsPart vs (some (-1)))
    (h : Q (.ref s.heap.objs.size) { s with heap := s.heap.push { cls := .type "tuple", data := .seq items.toList.reverse.toArray } })
    (hsz : items.size ≤ sizeLine) : wpAny (model prog w) A (getItem (.ref t) (.ref sl)) Q E s := by
  have htake : sizeOk (.seq items.toList.reverse.toArray) := by
    show items.toList.reverse.toArray.size ≤ sizeLine
    simp; omega
  obtain ⟨os, hos, hcs, hds⟩ := id hs
  have hTs : s.TypeIs (.ref sl) "slice" := ⟨os, hos, hcs⟩
  unfold getItem
  try with_reducible refine wpAny_holding ?_
  first | refine wpAny_bind (wpAny_pure ?_) | skip
  refine wpAny_bind (wpAny_sequenceKey ht.typeIs (by decide) ?_)
  refine wpAny_bind (wpAny_callSpecial?_slot (name := Str.ofString "__getitem__") ht.typeIs PyProof.Rows.slot_tuple_getitem
    (wpAny_call_entry PyProof.Rows.slot_tuple_getitem ht.typeIs entry_tuple_getitem ?_ (args_tuple_getitem _ _)))
  show wpAny _ _ (Builtin.Tuple.tupleItemsOf (.ref t) >>= _) _ _ s
  refine wpAny_bind (tupleItemsOf_ ht ?_)
  refine wpAny_bind (wpAny_typeOf hTs ?_)
  rw [if_pos (by decide)]
  refine wpAny_bind (sliceApplied_rev hs pl pu ps ?_)
  have hno : ¬ ((((items.size : Int) - 1) == 0 && (-1 : Int) == 1 && items.size == items.size) = true) := by
    intro q
    rw [Bool.and_eq_true, Bool.and_eq_true] at q
    exact absurd q.1.2 (by decide)
  show wpAny _ _ (if (((items.size : Int) - 1) == 0 && (-1 : Int) == 1 && items.size == items.size) = true then _ else _) _ _ s
  rw [if_neg hno, pick_rev]
  first
    | exact wpAny_bind (m := Builtin.Tuple.tupleExact _) (wpAny_newObj_type (wpAny_pure ⟨_, rfl, wpAny_pure h⟩) htake)
    | exact wpAny_bind (m := Builtin.Tuple.tupleExact _) (wpAny_newObj_type (wpAny_bind (wpAny_pure (wpAny_pure ⟨_, rfl, wpAny_pure h⟩))) htake)
    | exact wpAny_bind (wpAny_bind (m := Builtin.Tuple.tupleExact _) (wpAny_newObj_type (wpAny_pure (wpAny_pure ⟨_, rfl, wpAny_pure h⟩)) htake))
    | exact wpAny_bind (wpAny_bind (m := Builtin.Tuple.tupleExact _) (wpAny_newObj_type (wpAny_pure ⟨_, rfl, wpAny_pure h⟩) htake))
end
def stpA : D → D → Option Rs
  | .lst ds, .int s => if s = -1 then some (.ow (.lst ds.reverse)) else if s = 1 then some (.ow (.lst ds)) else none
  | .tup ds, .int s => if s = -1 then some (.sh (.tup ds.reverse)) else none
  | _, _ => none
def rStJ (K : PySem.W.Frag) (x : V) (i : Int) (H : Hp) (Q : VK) : Prop := rStI K x i H Q ∨ ∃ a xs, x = .ref a ∧ SqT K H a xs ∧ i = -1 ∧ ∀ p, H p = none → Q (.ref p) (upd H p (.tup xs.reverse))
def rStA (K : PySem.W.Frag) : R2 := fun x y H Q => ∃ i, y = .int i ∧ rStJ K x i H Q
section
variable {X : Cx} {K : PySem.W.Frag}
theorem pe_stepA {e st : Expr} {te ts : TE} {p3 pos : Pos} (he : PE X e te) (hst0 : PE X st ts) : PE X (.Subscript e (.Slice none none (some st) p3) pos) (fun σ H Q => te σ H fun x H1 => ts σ H1 fun y H2 => rStA X.K x y H2 Q) := by
  refine ⟨fun pins s σ H Q I h => ?_⟩
  refine Subscript_ (thn (he.run pins s σ H _ I h) fun v s1 ⟨x, H1, I1, r1, q1⟩ => ?_)
  have hst : PO X (some st) (tPart ts) := po_some hst0
  refine wpAny_Slice (thn (po_none.run pins s1 σ H1 (fun o H2 => o = none ∧ H2 = H1) I1 ⟨rfl, rfl⟩) fun vl s2 ⟨l, H2, I2, pl, el, e2⟩ => ?_)
  subst el e2
  refine thn (po_none.run pins s2 σ H2 (fun o H3 => o = none ∧ H3 = H2) I2 ⟨rfl, rfl⟩) fun vu s3 ⟨u, H3, I3, pu, eu, e3⟩ => ?_
  subst eu e3
  refine thn (hst.run pins s3 σ H3 (fun o H4 => match o with | some i => rStJ X.K x i H4 Q | none => False) I3 q1) fun vs s4 ⟨o, H4, I4, ps, q2⟩ => ?_
  cases o with
  | none => exact q2.elim
  | some i =>
  have I5 : Inv X pins σ H4 { s4 with heap := s4.heap.push { cls := .type "slice", data := .fields #[vl, vu, vs] } } := I4.kept (t' := s4.toks) fun b ob q => Heap.get?_push_of_some _ q
  rcases (show rStJ X.K x i H4 Q from q2) with ⟨a, xs, ex, hx, hi, q⟩ | ⟨a, xs, ex, hx, hi, q⟩
  · subst ex
    cases r1
    obtain ⟨its, r, ht, hz⟩ := I5.list hx
    have hlen := r.length
    show wpAny (model X.prog X.w) X.A (subscriptTail e (.Slice none none (some st) p3) (.ref a) (.ref s4.heap.objs.size)) (EP X pins σ Q) X.xe { s4 with heap := s4.heap.push { cls := .type "slice", data := .fields #[vl, vu, vs] } }
    refine tail_any (ops := [.ref a, .ref s4.heap.objs.size]) ht.isList.typeIs (PySem.slot_list_getitem.lookup) ?_ (by with_unfolding_all rfl)
    refine wpAny_getItem_list_slice ht.isList (Heap.IsSliceOf.new _ vl vu vs) pl pu ps (by rcases hi with rfl | rfl <;> decide) ?_ (by rw [List.size_toArray]; omega)
    rw [pick_step its hi]
    refine ⟨.ref _, _, I5.laid (t' := s4.toks) (o := .lst (if i = -1 then xs.reverse else xs)) (fun b ob q => Heap.get?_push_of_some _ q) (Nat.le_refl _) ?_, rfl, q _ (I5.hok.fresh (Nat.le_refl _))⟩
    rcases hi with rfl | rfl
    · exact ⟨by simpa using hz, _, 0, r.reverse, Heap.get?_push_size _ rfl⟩
    · exact ⟨hz, _, 0, r, Heap.get?_push_size _ rfl⟩
  · subst ex
    subst hi
    cases r1
    obtain ⟨its, r, ht, hz⟩ := I5.tuple hx
    have hlen := r.length
    show wpAny (model X.prog X.w) X.A (subscriptTail e (.Slice none none (some st) p3) (.ref a) (.ref s4.heap.objs.size)) (EP X pins σ Q) X.xe { s4 with heap := s4.heap.push { cls := .type "slice", data := .fields #[vl, vu, vs] } }
    refine tail_any (ops := [.ref a, .ref s4.heap.objs.size]) ht.typeIs (PyProof.Rows.slot_tuple_getitem.lookup) ?_ (by with_unfolding_all rfl)
    refine getItem_tuple_rev ht (Heap.IsSliceOf.new _ vl vu vs) pl pu ps ?_ (by rw [List.size_toArray]; omega)
    refine ⟨.ref _, _, I5.laid (t' := s4.toks) (o := .tup xs.reverse) (fun b ob q => Heap.get?_push_of_some _ q) (Nat.le_refl _) ?_, rfl, q _ (I5.hok.fresh (Nat.le_refl _))⟩
    exact ⟨by simpa using hz, _, r.reverse, IsTup.new _ _⟩
theorem ok_stpA : Ok2 K (rStA K) stpA := fun F H x y d e z Q l b1 b2 q k => by
  unfold stpA at q
  split at q
  · rename_i ds s
    obtain ⟨i, e1, h⟩ := ok_stpL (K := K) F H x y (.lst ds) (.int s) z Q l b1 b2 q k
    exact ⟨i, e1, .inl h⟩
  · rename_i ds s
    obtain ⟨a, vs, e1, _, h1, r⟩ := b1.tupl l
    split at q
    · rename_i hs
      cases q
      exact ⟨s, b2.int, .inr ⟨a, vs, e1, h1, hs, new_tup l r.reverse k⟩⟩
    · cases q
  · cases q
theorem ev_stepA {e st : Expr} {m n : ME} {p3 pos : Pos} (he : EV X e m) (hs : EV X st n) : EV X (.Subscript e (.Slice none none (some st) p3) pos) (m2 stpA m n) :=
  ev_of (pe_stepA he hs) fun σ H Q F ρ z ρ' R e k => use2 ok_stpA R e k
end
end
end Mi
set_option Elab.async false
set_option linter.all false
set_option maxRecDepth 100000
set_option maxHeartbeats 1000000
set_option autoImplicit false
namespace Mi
noncomputable section
open PySem PySem.Spec PyProof.Rows L2
/-! ### t[lo:hi], the whole too -/
def slWD : D → Option Int → Option Int → Option Rs
  | .tup ds, lo, hi => some (.sh (.tup (cutA ds lo hi)))
  | d, lo, hi => slD d lo hi
def mSlW (m : ME) (lo hi : MO) : ME := fun ρ => match m ρ with
  | some (r, ρ1) => match lo ρ1 with
    | some (a, ρ2) => match hi ρ2 with
      | some (b, ρ3) => match peek ρ3 r with
        | some d => match slWD d a b with
          | some z => some (z.rv, ρ3)
          | none => none
        | none => none
      | none => none
    | none => none
  | none => none
section
variable {X : Cx} {K : PySem.W.Frag}
theorem cutA_whole {ds : List D} {lo hi : Option Int} (h : HT.sIx ds.length 0 lo = 0 ∧ HT.sIx ds.length ds.length hi = ds.length) : cutA ds lo hi = ds := by
  unfold cutA
  rw [h.1, h.2]
  simp
theorem slWD_ok {F H : Hp} {x : V} {d : D} {lo hi : Option Int} {z : Rs} {Q : VK} (l : Le F H) (b : Bo K F H x d) (q : slWD d lo hi = some z) (k : ∀ v F' H', Gr F H F' H' → HN K H F' H' v z → Q v H') : rSlL K x lo hi H Q ∨ rSlS x lo hi H Q ∨ L2.rSlA K x lo hi H Q := by
  unfold slWD at q
  split at q
  · rename_i ds
    cases q
    obtain ⟨a, vs, e1, h0, h1, r⟩ := b.tupl l
    refine .inr (.inr ⟨a, vs, e1, h1, fun hw => ?_, fun hw => new_tup l (r.cut lo hi) k⟩)
    rw [r.length] at hw
    refine k _ F H (Gr.refl l) ?_
    rw [cutA_whole hw]
    exact .tup h0 r
  · rename_i hn
    have := slD_ok l b q k
    rcases this with h | h | ⟨a, xs, e1, h1, hw, q2⟩
    · exact .inl h
    · exact .inr (.inl h)
    · exact .inr (.inr ⟨a, xs, e1, h1, fun z => absurd z hw, fun _ => q2⟩)
theorem ev_sliceW {e : Expr} {m : ME} {lo hi : Option Expr} {ml mh : MO} {p2 pos : Pos} (he : EV X e m) (hl : OV X lo ml) (hu : OV X hi mh) : EV X (.Subscript e (.Slice lo hi none p2) pos) (mSlW m ml mh) := by
  refine ev_of (pe_slice (SlR.or sl_list (SlR.or sl_str sl_tupA)) he hl hu) fun σ H Q F ρ r ρ' R e k => ?_
  unfold mSlW at e
  split at e
  · rename_i r1 ρ1 e1
    split at e
    · rename_i a ρ2 e2
      split at e
      · rename_i b ρ3 e3
        split at e
        · rename_i d e4
          split at e
          · rename_i z e5
            cases e
            refine ⟨F, ρ, _, _, R, e1, fun v F1 H1 X1 h1 _ => ⟨F1, ρ1, _, _, X1.rep, e2, fun F2 H2 X2 => ⟨F2, ρ2, _, _, X2.rep, e3, fun F3 H3 X3 => ?_⟩⟩⟩
            have X123 := (X1.trans X2).trans X3
            refine slWD_ok X3.rep.le (HR.bo X3.rep ((h1.ex X2).ex X3) e4) e5 fun v2 F4 H4 g h4 => ?_
            have q := h4.hr X3.rep
            exact k v2 F4 H4 (X123.trans (Gr.ex X3.rep g)) q.1 (q.2.back X123)
          · cases e
        · cases e
      · cases e
    · cases e
  · cases e
end
/-! ### max of a list -/
def mxL : List Int → Int
  | [] => 0
  | [x] => x
  | x :: y :: r => max x (mxL (y :: r))
theorem mxL_mem : ∀ {ns : List Int}, 0 < ns.length → mxL ns ∈ ns
  | [], h => by simp at h
  | [x], _ => by simp [mxL]
  | x :: y :: r, _ => by
    have := mxL_mem (ns := y :: r) (by simp)
    show max x (mxL (y :: r)) ∈ x :: y :: r
    by_cases h : x ≤ mxL (y :: r)
    · rw [Int.max_eq_right h]; exact List.mem_cons_of_mem _ this
    · rw [Int.max_eq_left (by omega)]; simp
theorem mxL_le : ∀ {ns : List Int} {y : Int}, y ∈ ns → y ≤ mxL ns
  | [x], y, h => by simp at h; simp [mxL, h]
  | x :: z :: r, y, h => by
    show y ≤ max x (mxL (z :: r))
    rcases List.mem_cons.mp h with rfl | h
    · omega
    · have := mxL_le (ns := z :: r) h
      omega
def maxLD : List D → Option Rs
  | [.lst ds] => match intsD ds with
    | some (n :: ns) => some (.sh (.int (mxL (n :: ns))))
    | _ => none
  | _ => none
section
variable {K : PySem.W.Frag}
theorem ok_maxL : OkC K (rMax K) maxLD := fun F H vs ds z Q l bb q k => by
  unfold maxLD at q
  split at q
  · split at q
    · rename_i n bs e
      cases q
      obtain ⟨v, rfl, b⟩ := bb.one
      obtain ⟨a, us, e1, h1, r⟩ := b.list l
      refine ⟨a, n :: bs, by rw [e1], by rw [← r.ints e]; exact h1, by simp, fun m hm hy => ?_⟩
      have : m = mxL (n :: bs) := Int.le_antisymm (mxL_le hm) (hy _ (mxL_mem (by simp)))
      rw [this]
      exact ok_sc l (fun F => .int _) k
    · cases q
  · cases q
end
end
end Mi
set_option Elab.async false
set_option linter.all false
set_option maxRecDepth 100000
set_option maxHeartbeats 1000000
set_option autoImplicit false
namespace Mi
noncomputable section
open PySem PySem.Spec PyProof.Rows L2
/-! ### x in t, a tuple, by data -/
def rInT (K : PySem.W.Frag) : R2 := fun x y H Q => ∃ d ds, Dp K H x d ∧ Dp K H y (.tuple ds) ∧ SeqAt.shaped d = true ∧ SeqAt.shaped (.tuple ds) = true ∧ Q (.bl (ds.any fun z => PyData.eqv z d)) H
section
variable {X : Cx} {K : PySem.W.Frag}
theorem op_inT (hu : X.A.units + 65 < cLine) : OpR X (compareOp .In) (rInT X.K) := by
  intro pins s σ H x y v u Q I rx ry h
  obtain ⟨d, ds, hd, he, sd, se, q⟩ := h
  obtain ⟨as, r1⟩ := Dp.reads I d x v hd rx
  obtain ⟨bs, r2⟩ := Dp.reads I (.tuple ds) y u he ry
  exact SeqAt.in_tuple_reads r2 r1 (SeqAt.canLay_of_shaped se) (SeqAt.canLay_of_shaped sd) (room_in_shaped sd hu) ⟨.bl _, H, I, rfl, q⟩
def inT (d : D) : D → Option Bool
  | .tup ds => match toP d, toPs ds with
    | some p, some ps => if SeqAt.shaped p && SeqAt.shaped (.tuple ps) then some (ps.any fun z => PyData.eqv z p) else none
    | _, _ => none
  | _ => none
def inWD (d e : D) : Option Rs := match inD d e with
  | some z => some z
  | none => (inT d e).map fun b => .sh (.bl b)
theorem op_inW {k : Nat} (hr : Rm k X.A) : OpR X (compareOp .In) (fun x y H Q => rInA X.K x y H Q ∨ rInT X.K x y H Q) := OpR.or (op_inA hr) (op_inT (by have := hr.room.un; omega))
theorem ok_inW : Ok2 K (fun x y H Q => rInA K x y H Q ∨ rInT K x y H Q) inWD := fun F H x y d e z Q l b1 b2 q k => by
  unfold inWD at q
  split at q
  · rename_i z' e1
    cases q
    exact .inl (ok_in F H x y d e z Q l b1 b2 e1 k)
  · simp only [Option.map_eq_some_iff] at q
    obtain ⟨b, q, rfl⟩ := q
    have hq : Q (.bl b) H := ok_sc l (fun F => .bl _) k
    unfold inT at q
    split at q
    · rename_i ds
      split at q
      · rename_i p ps e1 e2
        split at q
        · rename_i h
          cases q
          simp only [Bool.and_eq_true] at h
          exact .inr ⟨p, ps, b1.dp l e1, b2.dp l (by simp [toP, e2]), h.1, h.2, hq⟩
        · cases q
      · cases q
    · cases q
end
end
end Mi
set_option Elab.async false
set_option linter.all false
set_option maxRecDepth 100000
set_option maxHeartbeats 1000000
set_option autoImplicit false
namespace Mi
noncomputable section
open PySem PySem.Spec PyProof.Rows L2
/-! ### a truth + an int -/
def rAddB : R2 := fun x y H Q => ∃ b i, x = .bl b ∧ y = .int i ∧ Q (.int ((if b = true then (1 : Int) else 0) + i)) H
section
variable {X : Cx} {K : PySem.W.Frag}
theorem op_addB : OpR X (binaryOp .Add) rAddB := by
  intro pins s σ H x y v u Q I rx ry h
  obtain ⟨b, i, rfl, rfl, q⟩ := h
  cases rx
  obtain ⟨t, rfl⟩ := ry
  exact IntBool.add_bool_int ⟨.int _, H, I.tok _, ⟨_, rfl⟩, q⟩
def addB : D → D → Option Rs
  | .bl b, .int j => some (.sh (.int ((if b = true then (1 : Int) else 0) + j)))
  | _, _ => none
def addWD (d e : D) : Option Rs := match addD d e with
  | some z => some z
  | none => addB d e
theorem ok_addB : Ok2 K rAddB addB := fun F H x y d e z Q l b1 b2 q k => by
  unfold addB at q
  split at q
  · rename_i b j
    cases q
    exact ⟨b, j, b1.bl, b2.int, ok_sc l (fun F => .int _) k⟩
  · cases q
theorem ev_addW {a b : Expr} {m n : ME} {pos : Pos} (ha : EV X a m) (hb : EV X b n) : EV X (.BinOp a .Add b pos) (m2 addWD m n) :=
  ev_op (OpR.or (OpR.or op_add (OpR.or op_add_str (OpR.or op_cat op_catA))) op_addB) (Ok2.or (Ok2.of (Ok2.or ok_addI (Ok2.or ok_addS (Ok2.or ok_addL ok_addT))) fun d e z q => by rw [addD_eq] at q; exact q) ok_addB) ha hb
end
end
end Mi
set_option Elab.async false
set_option linter.all false
set_option maxRecDepth 100000
set_option maxHeartbeats 1000000
set_option autoImplicit false
namespace Mi
noncomputable section
open PySem PySem.Spec PyProof.Rows L2
/-! ### d.get(k, x) -/
def getWD : D → D → D → Option D
  | .dic kvs, k, x => match keyD k with
    | some kk => some ((valD kvs kk).getD x)
    | none => none
  | _, _, _ => none
def isDc : D → Bool
  | .dic _ => true
  | _ => false
def mGet2 (o m n : ME) : ME := fun ρ => match o ρ with
  | some (r, ρ0) => match peek ρ0 r with
    | some d0 => if isDc d0 then match m ρ0 with
      | some (.sh k, ρ1) => match n ρ1 with
        | some (.sh x, ρ2) => match peek ρ2 r with
          | some d => match getWD d k x with
            | some z => some (.sh z, ρ2)
            | none => none
          | none => none
        | _ => none
      | _ => none
      else none
    | none => none
  | none => none
section
variable {X : Cx} {K : PySem.W.Frag}
theorem ev_get2 {kk : Nat} (hr : Rm kk X.A) {o e f : Expr} {mo m n : ME} {apos cpos : Pos} (ho : EV X o mo) (he : EV X e m) (hf : EV X f n)
    (h1 : attributeBase o "get" X.env (eval o X.env) = eval o X.env := by rfl)
    (h2 : ((backTo cpos (starEach [e, f] X.env)).all (fun x => !x.1) && (backToKw cpos (keywordEach [] X.env)).all (fun x => x.1.isSome) && decide (([e, f] : List Expr).length + ([] : List Keyword).length + (if ([] : List Keyword).isEmpty then 0 else 1) < 30)) = true := by rfl)
    (h3 : (apos.endLine == cpos.line) = true := by rfl) (h4 : backTo cpos (starEach [e, f] X.env) = [(false, eval e X.env), (false, eval f X.env)] := by rfl) :
    EV X (.Call (.Attribute o "get" apos) [e, f] [] cpos) (mGet2 mo m n) := by
  refine ev_of (pe_dget2 (by have := hr.room.units; omega) ho he hf ⟨h1, h2, h3, h4⟩) fun σ H Q F ρ z ρ' R eq k => ?_
  unfold mGet2 at eq
  split at eq
  · rename_i r ρ0 e0
    split at eq
    · rename_i d0 e1
      split at eq
      · rename_i hd
        split at eq
        · rename_i kd ρ1 e2
          split at eq
          · rename_i xd ρ2 e3
            split at eq
            · rename_i d e4
              split at eq
              · rename_i zz e5
                cases eq
                refine ⟨F, ρ, _, _, R, e0, fun v F1 H1 X1 h1 n1 => ?_⟩
                have b0 := HR.bo X1.rep h1 e1
                obtain ⟨ds0, rfl⟩ : ∃ ds, d0 = .dic ds := by cases d0 <;> first | exact ⟨_, rfl⟩ | cases hd
                obtain ⟨a, us, ea, ra, _⟩ := b0.dict X1.rep.le
                refine ⟨a, ea, .inl ⟨us, ra⟩, F1, ρ0, _, _, X1.rep, e2, fun v2 F2 H2 X2 h2 n2 => ⟨F2, ρ1, _, _, X2.rep, e3, fun v3 F3 H3 X3 h3 n3 => ?_⟩⟩
                have b4 := HR.bo X3.rep ((h1.ex X2).ex X3) e4
                obtain ⟨kvs, rfl⟩ : ∃ ds, d = .dic ds := by cases d <;> first | exact ⟨_, rfl⟩ | cases e5
                cases e6 : keyD kd with
                | none => simp [getWD, e6] at e5
                | some kk' =>
                  simp [getWD, e6] at e5
                  subst e5
                  obtain ⟨a', us', ea', ra', rs⟩ := b4.dict X3.rep.le
                  rw [ea] at ea'
                  cases ea'
                  have ky : v2 = kV kk' := bo_key (K := X.K) (F := F3) (H := H3) (.inl (Sh.sub X3.sub h2)) e6
                  refine ⟨valV us' kk', .inl ⟨us', kk', ra', ky, rfl⟩, k _ F3 H3 ((X1.trans X2).trans X3) ?_ trivial⟩
                  have gv := rs.val (k := kk')
                  cases q : valD kvs kk' with
                  | none => rw [gv.2 q]; exact h3
                  | some y =>
                    obtain ⟨v', e7, s7⟩ := gv.1 y q
                    rw [e7]; exact s7
              · cases eq
            · cases eq
          · cases eq
        · cases eq
      · cases eq
    · cases eq
  · cases eq
end
/-! ### sorted: texts -/
theorem ltCps_anti : ∀ {a b : List Nat}, ltCps a b = false → ltCps b a = false → a = b
  | [], [], _, _ => rfl
  | [], _ :: _, h, _ => by simp [ltCps] at h
  | _ :: _, [], _, h => by simp [ltCps] at h
  | x :: a, y :: b, h1, h2 => by
    simp [ltCps] at h1 h2
    have e : x = y := by omega
    subst e
    rw [ltCps_anti (h1.2 rfl) (h2.2 rfl)]
theorem ltCps_trans' : ∀ {a b c : List Nat}, ltCps b a = false → ltCps c b = false → ltCps c a = false
  | [], [], [], _, _ => rfl
  | [], [], _ :: _, _, _ => rfl
  | [], _ :: _, [], _, h => by simp [ltCps] at h
  | [], _ :: _, _ :: _, _, _ => rfl
  | _ :: _, [], _, h, _ => by simp [ltCps] at h
  | _ :: _, _ :: _, [], _, h => by simp [ltCps] at h
  | x :: a, y :: b, z :: c, h1, h2 => by
    simp [ltCps] at h1 h2 ⊢
    refine ⟨by omega, fun e => ?_⟩
    have e1 : x = y := by omega
    have e2 : y = z := by omega
    subst e1; subst e2
    exact ltCps_trans' (h1.2 rfl) (h2.2 rfl)
theorem rising_le : ∀ {ys : List Str} {x : Str}, risingS x ys = true → ∀ y ∈ ys, ltCps y.cps.toList x.cps.toList = false
  | [], _, _, y, hy => by cases hy
  | z :: ys, x, h, y, hy => by
    simp [risingS] at h
    rcases List.mem_cons.mp hy with rfl | hy
    · exact h.1
    · exact ltCps_trans' h.1 (rising_le h.2 y hy)
theorem str_anti {x y : Str} (h1 : ltCps x.cps.toList y.cps.toList = false) (h2 : ltCps y.cps.toList x.cps.toList = false) : x = y := by
  have := ltCps_anti h1 h2
  cases x; cases y
  simp at this
  simp [this]
theorem ltCps_irr : ∀ a : List Nat, ltCps a a = false
  | [] => rfl
  | x :: a => by simp [ltCps, ltCps_irr a]
theorem sorted_uniq : ∀ {ys zs : List Str}, ys.Perm zs → sortedS ys = true → sortedS zs = true → ys = zs
  | [], zs, p, _, _ => by rw [List.nil_perm.mp p]
  | y :: ys, [], p, _, _ => by have := p.length_eq; simp at this
  | y :: ys, z :: zs, p, h1, h2 => by
    have e : y = z := by
      have m1 : y ∈ z :: zs := p.mem_iff.mp (by simp)
      have m2 : z ∈ y :: ys := p.mem_iff.mpr (by simp)
      have r1 : risingS y ys = true := h1
      have r2 : risingS z zs = true := h2
      have a : ltCps z.cps.toList y.cps.toList = false := by
        rcases List.mem_cons.mp m2 with rfl | m
        · exact ltCps_irr _
        · exact rising_le r1 _ m
      have b : ltCps y.cps.toList z.cps.toList = false := by
        rcases List.mem_cons.mp m1 with rfl | m
        · exact ltCps_irr _
        · exact rising_le r2 _ m
      exact str_anti b a
    subst e
    have r1 : risingS y ys = true := h1
    have r2 : risingS y zs = true := h2
    have s1 : sortedS ys = true := by
      cases ys with
      | nil => rfl
      | cons a l => simp [risingS] at r1; exact r1.2
    have s2 : sortedS zs = true := by
      cases zs with
      | nil => rfl
      | cons a l => simp [risingS] at r2; exact r2.2
    rw [sorted_uniq (p.cons_inv) s1 s2]
open Classical in
/-- the rising order of texts -/
def sortS (ks : List Str) : List Str := if h : ∃ ys : List Str, ys.Perm ks ∧ sortedS ys = true then h.choose else []
theorem sortS_eq {ks ys : List Str} (p : ys.Perm ks) (s : sortedS ys = true) : ys = sortS ks := by
  have h : ∃ ys : List Str, ys.Perm ks ∧ sortedS ys = true := ⟨ys, p, s⟩
  unfold sortS
  rw [dif_pos h]
  obtain ⟨p2, s2⟩ := h.choose_spec
  exact sorted_uniq (p.trans p2.symm) s s2
theorem sortS_mem {ks : List Str} {y : Str} (h : y ∈ sortS ks) : y ∈ ks := by
  unfold sortS at h
  split at h
  · rename_i g; exact g.choose_spec.1.mem_iff.mp h
  · cases h
theorem sortS_len (ks : List Str) : (sortS ks).length ≤ ks.length := by
  unfold sortS
  split
  · rename_i g; exact Nat.le_of_eq g.choose_spec.1.length_eq
  · simp
def keysS : List (Key × D) → Option (List Str)
  | [] => some []
  | (.inr x, _) :: kvs => match keysS kvs with
    | some ks => some (x :: ks)
    | none => none
  | _ => none
theorem keysS_eq : ∀ {kvs : List (Key × D)} {ks : List Str}, keysS kvs = some ks → kvs.map (·.1) = ks.map Sum.inr
  | [], _, e => by cases e; rfl
  | (.inl i, d) :: kvs, _, e => by simp [keysS] at e
  | (.inr x, d) :: kvs, ks, e => by
    unfold keysS at e
    cases q : keysS kvs with
    | none => rw [q] at e; cases e
    | some l => rw [q] at e; cases e; simp [keysS_eq q]
def sortD : List D → Option Rs
  | [.dic kvs] => match keysS kvs with
    | some ks => if ks.length < 64 then some (.ow (.lst ((sortS ks).map .str))) else none
    | none => none
  | [.lst ds] => match strsD ds with
    | some ks => if ks.length < 64 then some (.ow (.lst ((sortS ks).map .str))) else none
    | none => none
  | _ => none
section
variable {X : Cx} {K : PySem.W.Frag}
theorem Shk.keys {F : Hp} : ∀ {vs : List (Key × V)} {ds : List (Key × D)}, Shk K F vs ds → vs.map (·.1) = ds.map (·.1)
  | _, _, .nil => rfl
  | _, _, .cons _ r => by simp [Shk.keys r]
def rSortA (K : PySem.W.Frag) : List V → Hp → VK → Prop := fun xs H Q => (∃ (a : Addr) (kvs : List (Key × V)) (ks : List Str), xs = [.ref a] ∧ Rd H a (.dK kvs) ∧ kvs.map (·.1) = ks.map Sum.inr ∧ ks.length < 64 ∧
    ∀ ys p, ys.Perm ks → sortedS ys = true → H p = none → Q (.ref p) (upd H p (.lst (ys.map V.str)))) ∨ rSortedS K xs H Q
theorem cr_sortA (hc : X.calm = true) : CallR X (.builtin "sorted") (rSortA X.K) := CallR.or (call_sortedD hc) cr_sortedS
theorem ok_sort : OkC K (rSortA K) sortD := fun F H vs ds z Q l bb q k => by
  unfold sortD at q
  split at q
  · split at q
    · rename_i ks e
      split at q
      · rename_i hl
        cases q
        obtain ⟨v, rfl, b⟩ := bb.one
        obtain ⟨a, us, e1, h1, r⟩ := b.dict l
        refine .inl ⟨a, us, ks, by rw [e1], h1, by rw [r.keys]; exact keysS_eq e, hl, fun ys p pm ss hp => ?_⟩
        rw [sortS_eq pm ss]
        exact new_lst l (shs_strs _) k p hp
      · cases q
    · cases q
  · split at q
    · rename_i ks e
      split at q
      · rename_i hl
        cases q
        obtain ⟨v, rfl, b⟩ := bb.one
        obtain ⟨a, us, e1, h1, r⟩ := b.list l
        refine .inr ⟨a, ks, by rw [e1], by rw [← r.strs e]; exact h1, hl, fun ys p pm ss hp => ?_⟩
        rw [sortS_eq pm ss]
        exact new_lst l (shs_strs _) k p hp
      · cases q
    · cases q
  · cases q
end
end
end Mi
set_option Elab.async false
set_option linter.all false
set_option maxRecDepth 100000
set_option maxHeartbeats 1000000
set_option autoImplicit false
namespace Mi
noncomputable section
open PySem PySem.Spec PyProof.Rows L2
/-! ### lent for a while: all that is owned is shared while an expression is reckoned that tells a scalar; behind it all is owned as ahead -/
def fzW (o : Option W) : Option W := o.map fun w => ⟨false, w.pin, w.d⟩
def fzA (ρ : En) : En := ρ.map fzW
def scl : D → Bool
  | .non => true
  | .bl _ => true
  | .int _ => true
  | .str _ => true
  | _ => false
def mBor (m : ME) : ME := fun ρ => match m (fzA ρ) with
  | some (.sh d, _) => if scl d then some (.sh d, ρ) else none
  | _ => none
section
variable {X : Cx} {K : PySem.W.Frag}
open Classical in
def FA (F H : Hp) (σ : L2.St) (ρ : En) : Hp := fun a => if Own σ ρ a then H a else F a
theorem fzA_at {ρ : En} {i : Nat} {w : W} (h : (fzA ρ)[i]? = some (some w)) : ∃ u, ρ[i]? = some (some u) ∧ w = ⟨false, u.pin, u.d⟩ := by
  unfold fzA at h
  rw [List.getElem?_map] at h
  cases q : ρ[i]? with
  | none => rw [q] at h; cases h
  | some o =>
    rw [q] at h
    cases o with
    | none => cases h
    | some u => exact ⟨u, rfl, by simpa [fzW] using h.symm⟩
theorem fzA_noown {σ : L2.St} {ρ : En} {a : Addr} : ¬ Own σ (fzA ρ) a := by
  rintro ⟨i, p, d, e1, _⟩
  obtain ⟨u, _, e⟩ := fzA_at e1
  cases e
theorem rep_fzA {F H : Hp} {σ : L2.St} {ρ : En} (R : Rep K F H σ ρ) : Rep K (FA F H σ ρ) H σ (fzA ρ) := by
  have le : Le F (FA F H σ ρ) := fun a o e => by
    unfold FA
    rw [if_neg]
    · exact e
    · intro hw
      rw [(R.own_there hw).1] at e; cases e
  refine ⟨fun a o e => ?_, fun i w e => ?_, fun i j p q d e a h1 => ?_, ?_⟩
  · unfold FA at e
    split at e
    · exact e
    · exact R.le a o e
  · obtain ⟨u, eu, rfl⟩ := fzA_at e
    obtain ⟨v, ev, hw⟩ := R.at_ i u eu
    refine ⟨v, ev, ?_⟩
    show Sh K _ v u.d
    by_cases ho : u.own = true
    · obtain ⟨a, ea, fa, o⟩ : ∃ a, v = .ref a ∧ F a = none ∧ OwO K F H a u.d := by simpa [HW, ho] using hw
      have hown : Own σ ρ a := ⟨i, u.pin, u.d, by rw [eu]; cases u; simp at ho; simp [ho], by rw [ev, ea]⟩
      have fe : FA F H σ ρ a = H a := by unfold FA; rw [if_pos hown]
      subst ea
      cases q : u.d with
      | lst ds => rw [q] at o; obtain ⟨vs, e1, r⟩ := o; exact .lst (by rw [fe, e1]) (r.sub le.sub)
      | dic ds => rw [q] at o; obtain ⟨vs, e1, r⟩ := o; exact .dic (.inl (by rw [fe, e1])) (r.sub le.sub)
      | _ => rw [q] at o; exact o.elim
    · have : Sh K F v u.d := by simpa [HW, ho] using hw
      exact this.sub le.sub
  · obtain ⟨u, _, e2⟩ := fzA_at h1
    cases e2
  · simp [fzA, R.len]
theorem ev_bor {e : Expr} {m : ME} (h : EV X e m) : EV X e (mBor m) :=
  ev_of h fun σ H Q F ρ r ρ' R eq k => by
    unfold mBor at eq
    split at eq
    · rename_i d ρ2 e1
      split at eq
      · rename_i hs
        cases eq
        refine ⟨FA F H σ ρ, fzA ρ, .sh d, ρ2, rep_fzA R, e1, fun v F' H' X' hr _ => ?_⟩
        have keep : Le H H' := fun a o e => X'.frame a o e fzA_noown
        have R' : Rep X.K F H' σ ρ := by
          refine ⟨R.le.trans keep, fun i w e => ?_, R.inj, R.len⟩
          obtain ⟨v, ev, hw⟩ := R.at_ i w e
          refine ⟨v, ev, hw.ex (Sub.refl F) fun a ea ho => ?_⟩
          have ew : w = ⟨true, w.pin, w.d⟩ := by cases w; simp at ho; simp [ho]
          obtain ⟨n, o, eo⟩ := R.own_there (a := a) ⟨i, w.pin, w.d, by rw [← ew]; exact e, by rw [ev, ea]⟩
          exact ⟨n, by rw [eo, keep a o eo]⟩
        refine k v F H' ⟨R', Sub.refl F, fun a o e _ => keep a o e, fun a o e => ⟨o, keep a o e⟩, fun a o e => .inl ⟨o, e⟩, fun i p d a h1 h2 => .inl ⟨d, h1, h2⟩, fun i w h => ⟨w, h⟩, fun i w h p => ⟨rfl, w, h, p⟩, rfl⟩ ?_ trivial
        have sv : Sh X.K F' v d := hr
        cases d with
        | non => cases sv; exact Sh.non
        | bl b => cases sv; exact Sh.bl b
        | int b => cases sv; exact Sh.int b
        | str b => cases sv; exact Sh.str b
        | _ => cases hs
      · cases eq
    · cases eq
end
end
end Mi
set_option Elab.async false
set_option linter.all false
set_option maxRecDepth 100000
set_option maxHeartbeats 1000000
set_option autoImplicit false
namespace Mi
noncomputable section
open PySem PySem.Spec PyProof.Rows L2
/-! ### {k: v for ..} -/
def dcL (tg : D → En → Option En) (tt : MT) (tk tv : ME) (vs : List Nat) : List D → List (Key × D) → En → Option (List (Key × D) × En)
  | [], acc, ρ => some (acc, ρ)
  | d :: ds, acc, ρ => match tg d ρ with
    | some ρ1 => match tt ρ1 with
      | some (true, ρ2) => match tk ρ2 with
        | some (r, ρ3) => match peek ρ3 r with
          | some kd => match keyD kd with
            | some kk => match tv ρ3 with
              | some (q, ρ4) => match shr ρ4 q with
                | some (y, ρ5) => if acc.length < sizeLine then dcL tg tt tk tv vs ds (putD acc kk y) (wipeR ρ5 vs) else none
                | none => none
              | none => none
            | none => none
          | none => none
        | none => none
      | some (false, ρ2) => dcL tg tt tk tv vs ds acc (wipeR ρ2 vs)
      | none => none
    | none => none
def mDc (mi : MI) (tg : D → En → Option En) (tt : MT) (tk tv : ME) (vs : List Nat) : ME := fun ρ => match mi ρ with
  | some (ds, ρ1) => match dcL tg tt tk tv vs ds [] (wipeR ρ1 vs) with
    | some (acc, ρ2) => some (.ow (.dic acc), resto ρ1 ρ2 vs)
    | none => none
  | none => none
theorem dc_core' {K : PySem.W.Frag} {is vs : List Nat} {g : TG} {tg : D → En → Option En} {tt : MT} {tk tv : ME} (hg : TgOk K is g tg) (hv : ∀ i ∈ is, i ∈ vs) {σ : L2.St} {H F F1 H1 : Hp} {ρ ρ1 ρE : En} {ds : List D} {accE : List (Key × D)} {J : It} {Q : VK} (X1 : Ex K F H σ ρ F1 H1 σ ρ1) (it : ItOK K J F1 H1 ds) (e2 : dcL tg tt tk tv vs ds [] (wipeR ρ1 vs) = some (accE, ρE))
    (k : ∀ v F' H', Ex K F H σ ρ F' H' σ (resto ρ1 ρE vs) → HR K F' H' σ (resto ρ1 ρE vs) v (.ow (.dic accE)) → Nw H v (.ow (.dic accE)) → Q v H') (D : Addr) (hD : H1 D = none) :
    ∃ W : Nat → Nat → Hp → Prop, (∃ m, W 0 m (upd H1 D (.dK []))) ∧ ∀ i m H, W i m H → (J.stop i H ∧ Q (.ref D) H) ∨ (J.go i H ∧ ∃ Nx : Hp → Prop, (∀ H', Nx H' → ∃ m', m' < m ∧ W (i + 1) m' H') ∧ ∀ x H', J.yld i H x H' → g x (L2.wipe σ vs) H' fun σ2 H2 => L2.wipe σ2 vs = L2.wipe σ vs ∧ tMT K tt σ2 H2 fun b H3 =>
      if b = true then tM K tk σ2 H3 fun y H4 => tM K tv σ2 H4 fun z H5 => ∃ kvs k, y = kV k ∧ H5 D = some (.dK kvs) ∧ kvs.length < sizeLine ∧ Nx (upd H5 D (.dK (putK kvs k z))) else Nx H3) := by
  have R1 := X1.rep
  have Rw : Rep K F1 H1 (L2.wipe σ vs) (wipeR ρ1 vs) := R1.wipe
  have fD : F1 D = none := R1.le.none hD
  refine ⟨fun i m H' => ∃ F' ρ' acc us, Ex K F1 H1 (L2.wipe σ vs) (wipeR ρ1 vs) F' H' (L2.wipe σ vs) ρ' ∧ dcL tg tt tk tv vs (ds.drop i) acc ρ' = some (accE, ρE) ∧ i + m = ds.length ∧ H' D = some (.dK us) ∧ Shk K F' us acc ∧ F' D = none ∧ ¬ Own (L2.wipe σ vs) ρ' D,
    ⟨ds.length, F1, wipeR ρ1 vs, [], [], ?_, by simpa using e2, by omega, upd_same, .nil, fD, fun o => ?_⟩, ?_⟩
  · exact (Ex.refl Rw).upd_new hD fD fun o => by
      obtain ⟨_, ob, eo⟩ := Rw.own_there o
      rw [hD] at eo; cases eo
  · obtain ⟨_, ob, eo⟩ := Rw.own_there o
    rw [hD] at eo; cases eo
  rintro i m H2 ⟨F2, ρ2, acc, us, X2, e3, hm, eD, sD, f2, no2⟩
  have kept := X2.kept Rw
  by_cases hi : i < ds.length
  · have hd : ds[i]? = some ds[i] := List.getElem?_eq_getElem hi
    obtain ⟨hgo, hy⟩ := it.go i F2 H2 ds[i] X2.sub X2.rep.le kept hd
    rw [List.drop_eq_getElem_cons hi] at e3
    unfold dcL at e3
    split at e3
    · rename_i ρ3 e4
      -- a turn: what stays of the list
      have pre : ∀ x H', J.yld i H2 x H' → ∀ (Q' : L2.St → Hp → Prop), (∀ F3 σ3, Ex K F2 H2 (L2.wipe σ vs) ρ2 F3 H' σ3 ρ3 → L2.wipe σ3 vs = L2.wipe σ vs → Q' σ3 H') → g x (L2.wipe σ vs) H' Q' := fun x H' y Q' hQ => by
        obtain ⟨F3, gr, sh⟩ := hy x H' y
        have X3 := Gr.ex X2.rep gr
        exact hg F2 H2 (L2.wipe σ vs) ρ2 F3 H' (L2.wipe σ vs) ρ2 x ds[i] ρ3 Q' X3 sh e4 fun σ' us hs _ X4 => hQ F3 σ' X4 (by rw [hs, wipe_setVs hv, wipe_wipe])
      -- D is kept by what the turn does
      have keepD : ∀ {F' H' : Hp} {σ' : L2.St} {ρ' : En}, Ex K F2 H2 (L2.wipe σ vs) ρ2 F' H' σ' ρ' → H' D = some (.dK us) ∧ Shk K F' us acc ∧ F' D = none ∧ ¬ Own σ' ρ' D := fun {F' H' σ' ρ'} X' => by
        refine ⟨X'.frame D _ eD no2, sD.sub X'.sub, ?_, fun z => ?_⟩
        · cases q : F' D with
          | none => rfl
          | some z =>
            rcases X'.newF D z q with ⟨u, e'⟩ | e' | e'
            · rw [f2] at e'; cases e'
            · rw [eD] at e'; cases e'
            · exact absurd e' no2
        · rcases X'.ownd z with z | z
          · exact no2 z
          · rw [eD] at z; cases z
      split at e3
      · rename_i ρ4 e5
        split at e3
        · rename_i rk ρk e6
          split at e3
          · rename_i kd ek
            split at e3
            · rename_i kk ek2
              split at e3
              · rename_i r ρ5 e6v
                split at e3
                · rename_i y ρ6 e7
                  split at e3
                  · rename_i hz
                    refine .inr ⟨hgo, fun H' => ∃ F' us', Ex K F1 H1 (L2.wipe σ vs) (wipeR ρ1 vs) F' H' (L2.wipe σ vs) (wipeR ρ6 vs) ∧ H' D = some (.dK us') ∧ Shk K F' us' (putD acc kk y) ∧ F' D = none ∧ ¬ Own (L2.wipe σ vs) (wipeR ρ6 vs) D,
                      fun H' ⟨F', us', X', q1, q2, q3, q4⟩ => ⟨m - 1, by omega, F', wipeR ρ6 vs, putD acc kk y, us', X', e3, by omega, q1, q2, q3, q4⟩, fun x H' hy' => pre x H' hy' _ fun F3 σ3 X3 hw => ⟨hw, F3, ρ3, _, _, X3.rep, e5, fun F4 H4 X4 => iteT ?_⟩⟩
                    refine ⟨F4, ρ4, _, _, X4.rep, e6, fun vk Fk Hk Xk hk nwk => ⟨Fk, ρk, _, _, Xk.rep, e6v, fun v F5 H5 X5 h5 nw => ?_⟩⟩
                    have ky : vk = kV kk := bo_key (HR.bo Xk.rep hk ek) ek2
                    obtain ⟨F6, X6, s6, sb6, _⟩ := Rv.shr_step X5 h5 nw e7
                    have X26 := ((X3.trans X4).trans Xk).trans X6
                    obtain ⟨d1, d2, d3, d4⟩ := keepD X26
                    refine ⟨us, kk, ky, d1, by rw [sD.length]; exact hz, F6, putK us kk v, ?_, upd_same, Shk.put s6 d2, d3, fun z => ?_⟩
                    · have := ((X2.trans X26).upd_new (p := D) (o := .dK (putK us kk v)) hD d3 d4).wipe (vs := vs)
                      rw [hw] at this
                      exact this
                    · rw [← hw] at z
                      exact d4 (wipe_own z)
                  · cases e3
                · cases e3
              · cases e3
            · cases e3
          · cases e3
        · cases e3
      · rename_i ρ4 e5
        refine .inr ⟨hgo, fun H' => ∃ F', Ex K F1 H1 (L2.wipe σ vs) (wipeR ρ1 vs) F' H' (L2.wipe σ vs) (wipeR ρ4 vs) ∧ H' D = some (.dK us) ∧ Shk K F' us acc ∧ F' D = none ∧ ¬ Own (L2.wipe σ vs) (wipeR ρ4 vs) D,
          fun H' ⟨F', X', q1, q2, q3, q4⟩ => ⟨m - 1, by omega, F', wipeR ρ4 vs, acc, us, X', e3, by omega, q1, q2, q3, q4⟩, fun x H' hy' => pre x H' hy' _ fun F3 σ3 X3 hw => ⟨hw, F3, ρ3, _, _, X3.rep, e5, fun F4 H4 X4 => iteF ?_⟩⟩
        have X24 := X3.trans X4
        obtain ⟨d1, d2, d3, d4⟩ := keepD X24
        have := (X2.trans X24).wipe (vs := vs)
        rw [hw] at this
        exact ⟨F4, this, d1, d2, d3, fun z => by rw [← hw] at z; exact d4 (wipe_own z)⟩
      · cases e3
    · cases e3
  · rw [List.drop_eq_nil_of_le (by omega)] at e3
    cases e3
    refine .inl ⟨it.stop i F2 H2 X2.sub X2.rep.le kept (by omega), ?_⟩
    have X3 := Ex.unwipe R1 X2
    have nw : H D = none := X1.none_back hD
    refine k _ F2 H2 (X1.trans X3) ⟨D, rfl, f2, ⟨us, eD, sD⟩, fun z => ?_⟩ ⟨D, rfl, nw⟩
    obtain ⟨j, p, d, q1, q2⟩ := z
    rcases X3.own j p d D q1 q2 with ⟨d', q3, q4⟩ | _
    · obtain ⟨_, ob, eo⟩ := R1.own_there ⟨j, p, d', q3, q4⟩
      rw [hD] at eo; cases eo
    · by_cases hj : j ∈ vs
      · rw [resto_in (by rw [X2.len, wipeR_len]) hj] at q1
        obtain ⟨_, ob, eo⟩ := R1.own_there ⟨j, p, d, q1, q2⟩
        rw [hD] at eo; cases eo
      · rw [resto_out hj] at q1
        exact no2 ⟨j, p, d, q1, by rw [wipe_ne hj]; exact q2⟩
theorem dc_use {K : PySem.W.Frag} {mi : MI} {is vs : List Nat} {g : TG} {tg : D → En → Option En} {tt : MT} {tk tv : ME} (hg : TgOk K is g tg) (hv : ∀ i ∈ is, i ∈ vs) {σ : L2.St} {H : Hp} {Q : VK} {F ρ z ρe} (R : Rep K F H σ ρ) (e : mDc mi tg tt tk tv vs ρ = some (z, ρe))
    (k : ∀ v F' H', Ex K F H σ ρ F' H' σ ρe → HR K F' H' σ ρe v z → Nw H v z → Q v H') : tDc (tMI K mi) g (tMT K tt) (tM K tk) (tM K tv) vs σ H Q := by
  unfold mDc at e
  split at e
  · rename_i ds ρ1 e1
    split at e
    · rename_i accE ρE e2
      cases e
      exact ⟨F, ρ, ds, ρ1, R, e1, fun J F1 H1 X1 it D hD => dc_core' hg hv X1 it e2 k D hD⟩
    · cases e
  · cases e
section
variable {X : Cx} {kx vx tg iter : Expr} {ifs : List Expr} {scope : Scope} {own : List (Str × Nat)} {pos : Pos} {mi : MI} {is : List Nat} {g : TG} {mt : D → En → Option En} {tt : MT} {tk tv : ME}
theorem ev_dc (hc : X.calm = true) (hN : X.N.Nodup) (okt : TgOk X.K is g mt) (hv : ∀ i ∈ is, i ∈ own.map (·.2)) (hi : IV X tg iter mi) (ok : BlkOk X.N X.env.scope scope own)
    (hg : ∀ (s : Shared) (H : Hp) (C : Addr) (cl : List (Str × Addr)) (fp : List Addr), PG (X.blk s H scope (compEnvC scope cl C X.env) fp) tg g) (ht : ∀ (s : Shared) (H : Hp) (C : Addr) (cl : List (Str × Addr)) (fp : List Addr), TVs (X.blk s H scope (compEnvC scope cl C X.env) fp) ifs tt)
    (hk : ∀ (s : Shared) (H : Hp) (C : Addr) (cl : List (Str × Addr)) (fp : List Addr), EV (X.blk s H scope (compEnvC scope cl C X.env) fp) kx tk)
    (he : ∀ (s : Shared) (H : Hp) (C : Addr) (cl : List (Str × Addr)) (fp : List Addr), EV (X.blk s H scope (compEnvC scope cl C X.env) fp) vx tv) (hs : ∀ x, foldedSetIterable iter X.env x = pure x := by intro _; rfl) :
    EV X (.DictComp kx vx [⟨tg, iter, ifs, 0⟩] scope pos) (mDc mi mt tt tk tv (own.map (·.2))) :=
  ev_of (pe_dc hc hN hi ok hg ht hk he hs) fun σ H Q F ρ r ρ' R e k => dc_use okt hv R e k
end
end
end Mi
set_option Elab.async false
set_option linter.all false
set_option maxRecDepth 100000
set_option maxHeartbeats 1000000
set_option autoImplicit false
namespace Mi
noncomputable section
open PySem PySem.Spec PyProof.Rows L2
/-! ### dict(zip(a, b)) -/
def tDZ (K : PySem.W.Frag) (ta : TA) : TE := fun σ H Q => ta σ H fun vs H1 => ∃ (a b : Addr) (ks : List Key) (ys : List V), vs = [.ref a, .ref b] ∧ SqL K H1 a (ks.map kV) ∧ SqL K H1 b ys ∧ ks.length = ys.length ∧ ∀ p, H1 p = none → Q (.ref p) (upd H1 p (.dK (mergeK [] (ks.zip ys))))
theorem kv_zip : ∀ {ks : List Key} {ys : List V} {us : List Value}, Vals ys us → KV (ks.zip ys) (ks.zip us)
  | [], ys, us, _ => by simp; exact .nil
  | k :: ks, _, _, .nil => by simp; exact .nil
  | k :: ks, _, _, .cons r rr => by simp; exact .cons ⟨rfl, r⟩ (kv_zip rr)
theorem keys_is {P : Program} {w : World} : ∀ {ks : List Key} {us : List Value}, Vals (ks.map kV) us → ∀ {i : Nat} {u : Value}, us[i]? = some u → ∃ k, ks[i]? = some k ∧ keyIs k u = true
  | [], us, r, i, u, e => by
    rw [List.map_nil] at r
    cases r
    simp at e
  | k :: ks, us, r, i, u, e => by
    rw [List.map_cons] at r
    cases r with
    | cons h t =>
      cases i with
      | zero => cases e; exact ⟨k, rfl, kV_is (P := P) (w := w) h⟩
      | succ i =>
        obtain ⟨k', e1, e2⟩ := keys_is (P := P) (w := w) t (i := i) (u := u) (by simpa using e)
        exact ⟨k', by simpa using e1, e2⟩
section
variable {X : Cx}
theorem pe_dictZip {e e2 : Expr} {ta : TA} {p p2 pos pos2 : Pos} (hc : X.calm = true) (hg : Gl X "dict") (hm : X.mg "dict" = none) (hg2 : Gl X "zip") (hm2 : X.mg "zip" = none) (ha : PA X [e, e2] ta)
    (na : starEach [.Call (.Name "zip" p2) [e, e2] [] pos2] X.env = (false, eval (.Call (.Name "zip" p2) [e, e2] [] pos2) X.env) :: starEach [] X.env := by rfl)
    (hs : starEach [e, e2] X.env = (false, eval e X.env) :: starEach [e2] X.env := by rfl) (hpl : (backTo pos2 (starEach [e2] X.env)).any (·.1) = false := by rfl) :
    PE X (.Call (.Name "dict" p) [.Call (.Name "zip" p2) [e, e2] [] pos2] [] pos) (tDZ X.K ta) := by
  refine ⟨fun pins s σ H Q I h => ?_⟩
  refine Call_ (ld_blt I hg hm bb_dict (PyProof.Rows.callWith_type1 (args_cons (Call_ (ld_blt I hg2 hm2 PyProof.Rows.boot_zip (PyProof.Rows.callWith_type1 (thn (ha.run pos2 pins s σ H _ I h) fun us s1 ⟨vs, H1, I1, r1, q1⟩ => ?_) hs hpl))) na) na))
  obtain ⟨a, b, ks, ys, ex, hqx, hqy, hlen, q⟩ := q1
  subst ex
  cases r1 with
  | cons r rr =>
    cases rr with
    | cons r' rr =>
      cases rr
      cases r
      cases r'
      obtain ⟨its, rv, p1, hz1⟩ := I1.list hqx
      obtain ⟨its2, rv2, p2, hz2⟩ := I1.list hqy
      have la : a < s1.heap.objs.size := p1.lt
      have lb : b < s1.heap.objs.size := p2.lt
      refine call_zip_2 p1.isList p2.isList fun h' hz hTI hTO h1 h2 hsz hk => args_nil ?_
      have l1 : its.length = ks.length := by have := rv.length; simpa using this.symm
      have l2 : its2.length = ys.length := rv2.length.symm
      have I2 : Inv X pins σ H1 { s1 with heap := h' } := I1.kept (t' := s1.toks) hk
      refine PySem.call_dict_pairs (knd := mixKind X.prog X.w) (kvs := ks.zip its2) (PairArg.zip _ _ _ _ _ a b (PySem.W.ktu_apart s1.heap.objs.size a b la lb) its.toArray its2.toArray) (I2.ok.hd hc) ⟨hz, hTI, ⟨_, _, hTO⟩, h1, h2, p1.isList.at fun o e => hk _ o e, p2.isList.at fun o e => hk _ o e⟩
        ⟨by simp; omega, fun i key v hr => ?_⟩ (by simp; omega) fun h'' tk hd' k => ?_
      · obtain ⟨e1, e2⟩ := hr
        obtain ⟨k, g1, g2⟩ := keys_is (P := X.prog) (w := X.w) rv (i := i) (u := key) (by simpa using e1)
        have e2' : its2[i]? = some v := by simpa using e2
        exact ⟨k, by rw [List.getElem?_zip_eq_some]; exact ⟨g1, e2'⟩, g2⟩
      · have hmm : (h'.objs.size == sysModules) = false := beq_eq_false_iff_ne.mpr (Nat.ne_of_gt I2.big)
        have hl : (mergeK [] (ks.zip ys)).length ≤ sizeLine := by
          refine Nat.le_trans (length_mergeK _ []) ?_
          simp
          omega
        exact ⟨.ref h'.objs.size, upd H1 h'.objs.size (.dK (mergeK [] (ks.zip ys))), I1.laid (t' := tk) (fun c o hc' => k c o (fun hm' => by
            have : c < s1.heap.objs.size := Heap.lt_size hc'
            have e' : c = s1.heap.objs.size + 4 ∨ c = s1.heap.objs.size + 3 ∨ c = s1.heap.objs.size ∨ c = s1.heap.objs.size + 1 := by simpa using hm'
            rcases e' with z | z | z | z <;> rw [z] at this
            · exact absurd this (Nat.not_lt.mpr (Nat.le_add_right _ _))
            · exact absurd this (Nat.not_lt.mpr (Nat.le_add_right _ _))
            · exact absurd this (Nat.lt_irrefl _)
            · exact absurd this (Nat.not_lt.mpr (Nat.le_add_right _ _))) (hk c o hc')) (by rw [hsz]; omega) (show ObjOk X.prog X.w _ _ _ (.dK (mergeK [] (ks.zip ys))) from ⟨hl, hmm, merged [] (ks.zip its2), KV.merge (kv_zip rv2) .nil, hd'⟩), rfl, q _ (I1.hok.fresh (by rw [hsz]; omega))⟩
/-- keys of data -/
def keysOf : List D → Option (List Key)
  | [] => some []
  | d :: ds => match keyD d with
    | some k => match keysOf ds with
      | some ks => some (k :: ks)
      | none => none
    | none => none
def dzD : D → D → Option Rs
  | .lst as, .lst bs => match keysOf as with
    | some ks => if ks.length = bs.length then some (.ow (.dic (mergeD [] (ks.zip bs)))) else none
    | none => none
  | _, _ => none
variable {K : PySem.W.Frag}
theorem Shs.keysV {F : Hp} : ∀ {vs : List V} {ds : List D} {ks : List Key}, Shs K F vs ds → keysOf ds = some ks → vs = ks.map kV
  | _, _, _, .nil, e => by cases e; rfl
  | _, _, _, .cons (d := d) (ds := ds) h r, e => by
    unfold keysOf at e
    cases q : keyD d with
    | none => rw [q] at e; cases e
    | some k =>
      rw [q] at e
      cases q2 : keysOf ds with
      | none => rw [q2] at e; cases e
      | some ks =>
        rw [q2] at e
        cases e
        rw [List.map_cons, bo_key (K := K) (F := F) (H := F) (.inl h) q, Shs.keysV r q2]
theorem shk_zip {F : Hp} : ∀ {ks : List Key} {vs : List V} {ds : List D}, Shs K F vs ds → Shk K F (ks.zip vs) (ks.zip ds)
  | [], _, _, _ => by simp; exact .nil
  | _ :: _, _, _, .nil => by simp; exact .nil
  | k :: ks, _, _, .cons h r => by simp; exact .cons h (shk_zip r)
def mDZ (m : MA) : ME := fun ρ => match m ρ with
  | some (rs, ρ1) => match peeks ρ1 rs with
    | some [a, b] => match dzD a b with
      | some z => some (z.rv, ρ1)
      | none => none
    | _ => none
  | none => none
theorem ev_dz {e e2 : Expr} {m : MA} {p p2 pos pos2 : Pos} (hm : X.mg "dict" = none) (hm2 : X.mg "zip" = none) (ha : AV X [e, e2] m) (hc : X.calm = true := by rfl) (hg : Gl X "dict" := by rfl) (hg2 : Gl X "zip" := by rfl)
    (na : starEach [.Call (.Name "zip" p2) [e, e2] [] pos2] X.env = (false, eval (.Call (.Name "zip" p2) [e, e2] [] pos2) X.env) :: starEach [] X.env := by rfl)
    (hs : starEach [e, e2] X.env = (false, eval e X.env) :: starEach [e2] X.env := by rfl) (hpl : (backTo pos2 (starEach [e2] X.env)).any (·.1) = false := by rfl) :
    EV X (.Call (.Name "dict" p) [.Call (.Name "zip" p2) [e, e2] [] pos2] [] pos) (mDZ m) :=
  ev_of (pe_dictZip hc hg hm hg2 hm2 ha na hs hpl) fun σ H Q F ρ z ρ' R eq k => by
    unfold mDZ at eq
    split at eq
    · rename_i rs ρ1 e1
      split at eq
      · rename_i da db e2
        split at eq
        · rename_i zz e3
          cases eq
          refine ⟨F, ρ, rs, _, R, e1, fun vs F1 H1 X1 h1 _ => ?_⟩
          have bb := HRs.bos X1.rep h1 e2
          obtain ⟨v, u, rfl, b1, b2⟩ := bb.two
          unfold dzD at e3
          split at e3
          · rename_i as bs
            split at e3
            · rename_i ks e4
              split at e3
              · rename_i hl
                cases e3
                obtain ⟨a, us, ea, ha', ra⟩ := b1.list X1.rep.le
                obtain ⟨b, ws, eb, hb', rb⟩ := b2.list X1.rep.le
                refine ⟨a, b, ks, ws, by rw [ea, eb], by rw [← ra.keysV e4]; exact ha', hb', by rw [rb.length]; exact hl, fun q hq => ?_⟩
                have g := Gr.new_own (o := .dK (mergeK [] (ks.zip ws))) X1.rep.le hq
                have hn : HN X.K H1 F1 (upd H1 q (.dK (mergeK [] (ks.zip ws)))) (.ref q) (.ow (.dic (mergeD [] (ks.zip bs)))) := ⟨q, rfl, hq, X1.rep.le.none hq, _, upd_same, Shk.merge (shk_zip rb) .nil⟩
                have hh := hn.hr X1.rep
                exact k _ F1 _ (X1.trans (Gr.ex X1.rep g)) hh.1 (hh.2.back X1)
              · cases e3
            · cases e3
          · cases e3
        · cases eq
      · cases eq
    · cases eq
end
end
end Mi
set_option Elab.async false
set_option linter.all false
set_option maxRecDepth 100000
set_option maxHeartbeats 1000000
set_option autoImplicit false
namespace Mi
noncomputable section
open PySem PySem.Spec PyProof.Rows L2
/-! ### xs.append(a new dict); xs[-1][k] = v -/
def mAS (i : Nat) (m : ME) (ky kv : Nat) : MS := fun ρ => match ρ[i]? with
  | some (some ⟨true, _, .lst _⟩) => match m ρ with
    | some (.ow (.dic kvs), ρ1) => match ρ1[i]? with
      | some (some ⟨true, p, .lst ds⟩) => match ρ1[ky]? with
        | some (some ⟨false, _, kd⟩) => match ρ1[kv]? with
          | some (some ⟨false, _, y⟩) => match keyD kd with
            | some kk => if ds.length < sizeLine ∧ kvs.length < sizeLine then some (.nx, ρ1.set i (some ⟨true, p, .lst (ds ++ [.dic (putD kvs kk y)])⟩)) else none
            | none => none
          | _ => none
        | _ => none
      | _ => none
    | _ => none
  | _ => none
theorem upd_comm {H : Hp} {a b : Addr} {x y : HO} (h : a ≠ b) : upd (upd H a x) b y = upd (upd H b y) a x := by
  funext c
  by_cases h1 : c = a
  · subst h1; rw [upd_ne h, upd_same, upd_same]
  · by_cases h2 : c = b
    · subst h2; rw [upd_same, upd_ne h1, upd_same]
    · rw [upd_ne h2, upd_ne h1, upd_ne h1, upd_ne h2]
section
variable {X : Cx} {K : PySem.W.Frag}
theorem Ex.freeze_since {F H F1 H1 : Hp} {σ : L2.St} {ρ ρ1 : En} (X1 : Ex K F H σ ρ F1 H1 σ ρ1) {l : Addr} {d : D} (n : H l = none) (f : F1 l = none) (o : OwO K F1 H1 l d) (no : ¬ Own σ ρ1 l) : ∃ F', Sh K F' (.ref l) d ∧ Ex K F H σ ρ F' H1 σ ρ1 ∧ Sub F1 F' := by
  obtain ⟨F', sh, R, sb, nf⟩ := Ex.freeze_new X1.rep f o no
  refine ⟨F', sh, ⟨R, X1.sub.trans sb, X1.frame, X1.live, fun a u e => ?_, X1.own, X1.asg, X1.pin, X1.len⟩, sb⟩
  rcases nf a u e with q | q
  · exact X1.newF a u q
  · subst q; exact .inr (.inl n)
theorem ss_as {kk : Nat} (hr : Rm kk X.A) (i ky kv : Nat) {x y z : Str} {e : Expr} {m : ME} {n1 n2 n3 n4 apos cpos p1 tp tp2 pos pu pc : Pos} {jc : Nat} (he : EV X e m)
    (hN : X.N[i]? = some x := by rfl) (hv : Vis X.env.scope x := by first | exact Or.inl rfl | exact Or.inr (Or.inl rfl) | exact Or.inr (Or.inr rfl))
    (hNk : X.N[ky]? = some y := by rfl) (hvk : Vis X.env.scope y := by first | exact Or.inl rfl | exact Or.inr (Or.inl rfl) | exact Or.inr (Or.inr rfl))
    (hNv : X.N[kv]? = some z := by rfl) (hvv : Vis X.env.scope z := by first | exact Or.inl rfl | exact Or.inr (Or.inl rfl) | exact Or.inr (Or.inr rfl))
    (hdx : (x == ("__debug__" : Str)) = false := by decide) (hcx : (x == ("__classdict__" : Str)) = false := by decide) (hdy : (y == ("__debug__" : Str)) = false := by decide) (hcy : (y == ("__classdict__" : Str)) = false := by decide) (hdz : (z == ("__debug__" : Str)) = false := by decide) (hcz : (z == ("__classdict__" : Str)) = false := by decide)
    (hbase : attributeBase (.Name x n1) "append" X.env (eval (.Name x n1) X.env) = eval (.Name x n1) X.env := by rfl)
    (hfew : ((backTo cpos (starEach [e] X.env)).all (fun x => !x.1) && (backToKw cpos (keywordEach [] X.env)).all (fun x => x.1.isSome) && decide ([e].length + ([] : List Keyword).length + (if ([] : List Keyword).isEmpty then 0 else 1) < 30)) = true := by rfl)
    (hline : (apos.endLine == cpos.line) = true := by rfl) (hs : starEach [e] X.env = (false, eval e X.env) :: starEach [] X.env := by rfl) (hplain : (backTo cpos (starEach [] X.env)).any (·.1) = false := by rfl)
    (hsw : swapsWith (.Call (.Attribute (.Name x n1) "append" apos) [e] [] cpos) none p1.line X.env = pure false := by rfl)
    (hpi : PlainIx (.UnaryOp .USub (.Constant (.int 1) jc pc) pu) := by exact fun _ _ => rfl)
    (ha : ∀ v, assign (.Subscript (.Subscript (.Name x n2) (.UnaryOp .USub (.Constant (.int 1) jc pc) pu) tp2) (.Name y n3) tp) X.env v = (do
      let ov ← holding [v] (eval (.Subscript (.Name x n2) (.UnaryOp .USub (.Constant (.int 1) jc pc) pu) tp2) X.env)
      let iv ← holding [v, ov] (eval (.Name y n3) X.env)
      standAt tp
      holding [v, ov, iv] (setItem ov iv v)
      release [v, ov, iv] []) := by intro _; rfl)
    (hs2 : swapsWithSole [.Subscript (.Subscript (.Name x n2) (.UnaryOp .USub (.Constant (.int 1) jc pc) pu) tp2) (.Name y n3) tp] (.Name z n4) pos.line X.env = pure false := by rfl)
    (hw2 : swappedStores [.Subscript (.Subscript (.Name x n2) (.UnaryOp .USub (.Constant (.int 1) jc pc) pu) tp2) (.Name y n3) tp] (.Name z n4) X.env = pure none := by rfl)
    (h1 : (assignEach [.Subscript (.Subscript (.Name x n2) (.UnaryOp .USub (.Constant (.int 1) jc pc) pu) tp2) (.Name y n3) tp] X.env).map (·.2) = [assign (.Subscript (.Subscript (.Name x n2) (.UnaryOp .USub (.Constant (.int 1) jc pc) pu) tp2) (.Name y n3) tp) X.env] := by rfl) :
    SVs X [.Expr (.Call (.Attribute (.Name x n1) "append" apos) [e] [] cpos) p1, .Assign [.Subscript (.Subscript (.Name x n2) (.UnaryOp .USub (.Constant (.int 1) jc pc) pu) tp2) (.Name y n3) tp] (.Name z n4) pos] (mAS i m ky kv) := by
  refine svs_of (pss_cons (ps_expr (pe_bm PySem.F.plainAttrs_list PySem.F.slot_list_append PySem.F.type_list_append mt_append (pe_var hN hv hdx hcx) (pa_cons he pa_nil hs) hbase hfew hline hs hplain) hsw)
    (pss_one (ps_asg (pe_var hNv hvv hdz hcz) (pg_sub (pe_ix ix_list (pe_var hN hv hdx hcx) (pe_un un_neg pe_int) hpi) (pe_var hNk hvk hdy hcy) (set_dict (by have := hr.room.units; omega)) ha) hs2 hw2 h1))) fun D σ H h => ?_
  obtain ⟨F, ρ, o, ρ', R, eq, k⟩ := h
  unfold mAS at eq
  split at eq
  · rename_i p0 ds0 e0
    split at eq
    · rename_i kvs ρ1 e1
      split at eq
      · rename_i p ds e2
        split at eq
        · rename_i pk kd e3
          split at eq
          · rename_i pv yd e4
            split at eq
            · rename_i kk' e5
              split at eq
              · rename_i hz
                cases eq
                obtain ⟨va, eva, hwa⟩ := R.at_ i _ e0
                obtain ⟨a, rfl, fa, us0, ha0, _⟩ : ∃ a, va = .ref a ∧ F a = none ∧ OwO X.K F H a (.lst ds0) := by simpa [HW] using hwa
                refine ⟨.ref a, eva, .inl ⟨rfl, us0, .inl (.inl ha0)⟩, F, ρ, _, _, R, e1, fun v F1 H1 X1 h1 nw => ?_⟩
                obtain ⟨l, rfl, fl, ⟨us, hl, rl⟩, nol⟩ := h1
                obtain ⟨l', el', nl⟩ := nw
                cases el'
                obtain ⟨va', eva', hwa'⟩ := X1.rep.at_ i _ e2
                rw [eva] at eva'
                cases eva'
                obtain ⟨a', ea', fa1, vs, ha1, ra1⟩ : ∃ a', V.ref a = .ref a' ∧ F1 a' = none ∧ OwO X.K F1 H1 a' (.lst ds) := by simpa [HW] using hwa'
                cases ea'
                have hown : Own σ ρ1 a := ⟨i, p, _, e2, eva⟩
                have hal : a ≠ l := fun q => nol (q ▸ hown)
                obtain ⟨vk, evk, hwk⟩ := X1.rep.at_ ky _ e3
                have sk : Sh X.K F1 vk kd := by simpa [HW] using hwk
                obtain ⟨vv, evv, hwv⟩ := X1.rep.at_ kv _ e4
                have sv : Sh X.K F1 vv yd := by simpa [HW] using hwv
                have ekey : vk = kV kk' := bo_key (K := X.K) (F := F1) (H := H1) (.inl sk) e5
                refine ⟨a, vs, .ref l, rfl, rfl, ha1, by rw [ra1.length]; exact hz.1, vv, evv, .ref a, eva, 1, rfl, a, vs ++ [.ref l], -1, .ref l, rfl, rfl, .inl (.inl upd_same), ?_, vk, evk, l, _, rfl, .inl ⟨us, kk', by rw [upd_ne (Ne.symm hal)]; exact hl, ekey, by rw [rl.length]; exact hz.2, rfl⟩, ?_⟩
                · have en : ixN (vs.length + 1) (-1) = some vs.length := by
                    unfold ixN
                    rw [if_neg (by omega), if_pos (by omega)]
                    congr 1
                    omega
                  unfold atI
                  simp [en]
                · have X2 := X1.upd_new (p := l) (o := .dK (putK us kk' vv)) nl fl nol
                  have o2 : OwO X.K F1 (upd H1 l (.dK (putK us kk' vv))) l (.dic (putD kvs kk' yd)) := ⟨_, upd_same, Shk.put sv rl⟩
                  obtain ⟨F2, s2, X3, sb2⟩ := Ex.freeze_since X2 nl fl o2 nol
                  have X4 := Ex.write (d' := .lst (ds ++ [.dic (putD kvs kk' yd)])) X3.rep e2 eva (o := .lst (vs ++ [.ref l])) ⟨_, upd_same, (ra1.sub sb2).append (.one s2)⟩
                  rw [upd_comm hal]
                  exact k σ F2 _ (X3.trans X4)
              · cases eq
            · cases eq
          · cases eq
        · cases eq
      · cases eq
    · cases eq
  · cases eq
/-- dict(d): a copy -/
def dictCD : List D → Option Rs
  | [.dic kvs] => some (.ow (.dic kvs))
  | _ => none
theorem ok_dictC : OkC K (fun xs H Q => ∃ (a : Addr) (kvs : List (Key × V)), xs = [.ref a] ∧ Rd H a (.dK kvs) ∧ ∀ p, H p = none → Q (.ref p) (upd H p (.dK kvs))) dictCD := fun F H vs ds z Q l bb q k => by
  unfold dictCD at q
  split at q
  · cases q
    obtain ⟨v, rfl, b⟩ := bb.one
    obtain ⟨a, us, e1, h1, r⟩ := b.dict l
    exact ⟨a, us, by rw [e1], h1, fun p hp => k _ F _ (Gr.new_own l hp) ⟨p, rfl, hp, l.none hp, us, upd_same, r⟩⟩
  · cases q
end
end
end Mi
set_option Elab.async false
set_option linter.all false
set_option maxRecDepth 100000
set_option maxHeartbeats 1000000
set_option autoImplicit false
/-! list(enumerate(xs)): a walk that yields pairs, gathered into a list -/
namespace Mi
noncomputable section
open PySem PySem.Spec PyProof.Rows L2
/-- the pairs of a walk: each a new tuple; what the walk itself writes lies in wr -/
structure PW (P : Program) (w : World) (A : Around) (I S : Addr) (wr : List Addr) (vs : List (Key × Value)) (St : Nat → Heap → Prop) : Prop where
  item : ∀ (i : Nat) (s : Shared) (Q : Option Value → Shared → Prop) (E : Value → Shared → Prop), i < vs.length → St i s.heap → S < s.heap.objs.size →
    (∀ (ky : Value) (k : Key) (x : Value) (g : Heap) (tk : Nat), vs[i]? = some (k, x) → (mixKind P w).is k ky = true → St (i + 1) g → g.get? s.heap.objs.size = some { cls := .type "tuple", data := .seq #[ky, x] } →
      (∀ b o, b ∉ wr → s.heap.get? b = some o → g.get? b = some o) → Q (some (.ref s.heap.objs.size)) { s with heap := g, toks := tk }) → wpAny (model P w) A (pyNext (.ref I)) Q E s
  done : ∀ (s : Shared) (Q : Option Value → Shared → Prop) (E : Value → Shared → Prop), St vs.length s.heap →
    (∀ (g : Heap) (tk : Nat), (∀ b o, b ∉ wr → s.heap.get? b = some o → g.get? b = some o) → Q none { s with heap := g, toks := tk }) → wpAny (model P w) A (pyNext (.ref I)) Q E s
  keep : ∀ (i : Nat) (g g' : Heap), St i g → (∀ b o, b ≠ S → g.get? b = some o → g'.get? b = some o) → St i g'
/-- what was gathered so far -/
structure Gat (P : Program) (w : World) (S : Addr) (vs : List (Key × Value)) (g : Heap) (i : Nat) (acc : Array Value) (c : Nat) (as : List Addr) : Prop where
  lst : g.get? S = some { cls := .type "list", dict := none, data := .seq acc c, slots := #[] }
  refs : acc.toList = as.map Value.ref
  many : as.length = i
  kdx : PySem.W.KdxG (mixKind P w) vs S g as
section
variable {P : Program} {w : World} {A : Around} {R : Result → Shared → Prop} {I S : Addr} {wr : List Addr} {vs : List (Key × Value)} {St : Nat → Heap → Prop} {s : Shared}
theorem pw_loop (Wk : PW P w A.in1 I S wr vs St) (low : ∀ b ∈ wr, b < S) (few : vs.length ≤ sizeLine) (res : Value) {g0 : Heap}
    (fin : ∀ (g : Heap) (tk : Nat) (acc : Array Value) (c : Nat) (as : List Addr), (∀ b o, b ≠ S → b ∉ wr → g0.get? b = some o → g.get? b = some o) → Gat P w S vs g vs.length acc c as → R (.ok (.ret res)) { s with heap := g, toks := tk }) :
    ∀ (m i : Nat) (g : Heap) (tk c : Nat) (acc : Array Value) (as : List Addr), i + m = vs.length → St i g → (∀ b o, b ≠ S → b ∉ wr → g0.get? b = some o → g.get? b = some o) → Gat P w S vs g i acc c as →
      codeAny (model P w) A (.builtin "list.extend.loop" ⟨[.ref S, .ref I, res], []⟩) R { s with heap := g, toks := tk } := by
  have offS : S ∉ wr := fun q => Nat.lt_irrefl _ (low S q)
  intro m
  induction m with
  | zero =>
    intro i g tk c acc as him st kp ga
    have ei : i = vs.length := by omega
    subst ei
    refine codeAny_builtin PySem.F.entry_extend_loop ?_; rw [Around.under_plainId PySem.F.plain_extend_loop _]
    show wpAny _ A.in1 (pyNext (Value.ref I) >>= _) _ _ _
    refine wpAny_bind (Wk.done { s with heap := g, toks := tk } _ _ st fun g' tk' k' => ?_)
    refine wpAny_pure (fin g' tk' acc c as (fun b o h1 h2 e => k' b o h2 (kp b o h1 h2 e)) ⟨k' S _ offS ga.lst, ga.refs, ga.many, ga.kdx.rise, ga.kdx.above, fun j a hj => ?_⟩)
    obtain ⟨ky, k, x, e1, e2, e3⟩ := ga.kdx.pairs j a hj
    exact ⟨ky, k, x, e1, e2, k' a _ (fun q => Nat.lt_asymm (low a q) (ga.kdx.above a (List.mem_of_getElem? hj))) e3⟩
  | succ m ih =>
    intro i g tk c acc as him st kp ga
    have lt : i < vs.length := by omega
    have lS : S < g.objs.size := Heap.lt_size ga.lst
    have za : acc.size = i := by have := congrArg List.length ga.refs; simp [ga.many] at this; exact this
    refine codeAny_builtin PySem.F.entry_extend_loop ?_; rw [Around.under_plainId PySem.F.plain_extend_loop _]
    show wpAny _ A.in1 (pyNext (Value.ref I) >>= _) _ _ _
    refine wpAny_bind (Wk.item i { s with heap := g, toks := tk } _ _ lt st lS fun ky k x g1 tk1 ex isk st1 tp k1 => ?_)
    dsimp only at tp k1 ⊢
    have l1 := k1 S _ offS ga.lst
    have nS : g.objs.size ≠ S := Nat.ne_of_gt lS
    have up : ∀ b o, b ≠ S → g1.get? b = some o → (g1.update S (Obj.mapSeq (·.push (Value.ref g.objs.size)))).get? b = some o := fun b o hb e => (Heap.get?_update_other _ _ (Ne.symm hb)).trans e
    show wpAny _ A.in1 (updateSeq S (·.push (Value.ref g.objs.size)) >>= _) _ _ _
    refine wpAny_bind (wpAny_updateSeq l1 rfl (wpAny_pure ⟨plainId_quiet PySem.F.plain_extend_loop _, ih (i + 1) _ tk1 _ (acc.push (Value.ref g.objs.size)) (as ++ [g.objs.size]) (by omega) (Wk.keep _ _ _ st1 up) (fun b o h1 h2 e => up b o h1 (k1 b o h2 (kp b o h1 h2 e)))
      ⟨Heap.get?_update_self _ l1 rfl, by rw [Array.toList_push, ga.refs]; simp, by simp [ga.many], ?_, ?_, ?_⟩⟩) (by rw [za]; omega) (by rw [Array.size_push, za]; omega))
    · rw [List.pairwise_append]
      exact ⟨ga.kdx.rise, List.pairwise_singleton _ _, fun a ha b hb => by rw [List.mem_singleton.mp hb]; exact ga.kdx.there ha⟩
    · intro a ha
      rcases List.mem_append.mp ha with q | q
      · exact ga.kdx.above a q
      · rw [List.mem_singleton.mp q]; exact lS
    · intro j b hj
      by_cases hjl : j < as.length
      · rw [List.getElem?_append_left hjl] at hj
        obtain ⟨ky', k', x', e1, e2, e3⟩ := ga.kdx.pairs j b hj
        have ab := ga.kdx.above b (List.mem_of_getElem? hj)
        exact ⟨ky', k', x', e1, e2, up b _ (Nat.ne_of_gt ab) (k1 b _ (fun q => Nat.lt_asymm (low b q) ab) e3)⟩
      · have ej : j = as.length := by
          have := (List.getElem?_eq_some_iff.mp hj).1
          simp at this; omega
        subst ej
        have eb : g.objs.size = b := by simpa using hj
        subst eb
        exact ⟨ky, k, x, by rw [ga.many]; exact ex, isk, up _ _ nS tp⟩
end
/-- an enumerate over a list at its i-th turn -/
def EnS (e it l S : Addr) (items : Array Value) (i : Nat) (g : Heap) : Prop := g.IsListIter it l i ∧ g.IsList l items ∧
  ((∃ old, IsEnum g e it i old) ∨ ∃ old T f oT, IsEnumHeld g e it i old T f ∧ g.get? T = some oT ∧ T ≠ e ∧ T ≠ it ∧ T ≠ S)
def vsE (items : List Value) : List (Key × Value) := items.zipIdx.map fun p => (.inl (p.2 : Int), p.1)
theorem vsE_len (items : List Value) : (vsE items).length = items.length := by simp [vsE]
theorem vsE_at {items : List Value} {i : Nat} {x : Value} (h : items[i]? = some x) : (vsE items)[i]? = some (.inl (i : Int), x) := by simp [vsE, h]
section
variable {P : Program} {w : World} {A : Around} {E : Value → Shared → Prop} {s : Shared} {e it l S : Addr} {items : List Value}
theorem pw_enum (hA : A.handled = none) (h1 : e ≠ it) (h2 : l ≠ e) (h3 : l ≠ it) (h4 : e ≠ S) (h5 : it ≠ S) (h6 : l ≠ S) : PW P w A e S [e, it] (vsE items) (EnS e it l S items.toArray) where
  item := fun i s Q E lt st lS k => by
    obtain ⟨si, sl, se⟩ := st
    rw [vsE_len] at lt
    have ex : items.toArray[i]? = some items[i] := by simp [lt]
    have ei : ((i + 1 : Nat) : Int) = (i : Int) + 1 := by omega
    have off : ∀ {g : Heap}, (∀ b o, b ≠ e → b ≠ it → s.heap.get? b = some o → g.get? b = some o) → ∀ b o, b ∉ [e, it] → s.heap.get? b = some o → g.get? b = some o := fun kk b o hb q => kk b o (fun z => hb (by simp [z])) (fun z => hb (by simp [z])) q
    have n1 : s.heap.objs.size ≠ it := by obtain ⟨_, q, _⟩ := si; exact Nat.ne_of_gt (Heap.lt_size q)
    have vi := vsE_at (items := items) (i := i) (x := items[i]) (by simp [lt])
    rcases se with ⟨old, q⟩ | ⟨old, T, f, oT, q, qT, t1, t2, t3⟩
    · exact wpAny_pyNext_enum_item q si sl ex h1 fun g a1 a2 a3 a4 a5 => k _ _ _ g _ vi (kV_is (P := P) (w := w) (show RelV (kV (.inl (i : Int))) _ from ⟨_, rfl⟩))
        ⟨a2, sl.at fun o z => a5 l o h2 h3 z, .inr ⟨_, _, false, _, by rw [ei]; exact a1, a3, Nat.ne_of_gt (Heap.lt_size q), n1, Nat.ne_of_gt lS⟩⟩ a3 (off a5)
    · exact wpAny_pyNext_enum_item_held q qT t1 t2 si sl ex h1 fun g a1 a2 a3 a4 a5 => k _ _ _ g _ vi (kV_is (P := P) (w := w) (show RelV (kV (.inl (i : Int))) _ from ⟨_, rfl⟩))
        ⟨a2, sl.at fun o z => a5 l o h2 h3 z, .inr ⟨old, T, true, oT, by rw [ei]; exact a1, a5 T oT t1 t2 qT, t1, t2, t3⟩⟩ a3 (off a5)
  done := fun s Q E st k => by
    obtain ⟨si, sl, se⟩ := st
    rw [vsE_len] at si se
    have ex : items.toArray[items.length]? = none := by simp
    have off : ∀ {g : Heap}, Heap.ExtBut it s.heap g → ∀ b o, b ∉ [e, it] → s.heap.get? b = some o → g.get? b = some o := fun kk b o hb q => kk b o (fun z => hb (by simp [z])) q
    rcases se with ⟨old, q⟩ | ⟨old, T, f, oT, q, qT, t1, t2, t3⟩
    · exact wpAny_pyNext_enum_end hA q si sl ex fun g a => k g s.toks (off a)
    · exact wpAny_pyNext_enum_end_held hA q si sl ex fun g a => k g s.toks (off a)
  keep := fun i g g' st k => by
    obtain ⟨si, sl, se⟩ := st
    refine ⟨si.at fun o z => k _ o h5 z, sl.at fun o z => k _ o h6 z, ?_⟩
    rcases se with ⟨old, q⟩ | ⟨old, T, f, oT, q, qT, t1, t2, t3⟩
    · exact .inl ⟨old, k _ _ h4 q⟩
    · exact .inr ⟨old, T, f, oT, k _ _ h4 q, k _ _ t3 qT, t1, t2, t3⟩
theorem en_nolen : typeLookup (.type "enumerate") "__len__" = pure none := by rw [typeLookup_type, builtinLookup_eq_fast]; kernel_rfl
theorem en_nohint : typeLookup (.type "enumerate") "__length_hint__" = pure none := by rw [typeLookup_type, builtinLookup_eq_fast]; kernel_rfl
theorem en_hint (hT : s.TypeIs (.ref e) "enumerate") {Q : Bool → Shared → Prop} (h : Q true s) : wpAny (model P w) A (Builtin.List.listLengthHint (.ref e)) Q E s := by
  unfold Builtin.List.listLengthHint
  refine wpAny_bind (wpAny_specialOf hT en_nolen ?_)
  show wpAny _ A (specialOf (Value.ref e) (Str.ofString "__length_hint__") >>= _) Q E s
  exact wpAny_bind (wpAny_specialOf hT en_nohint (wpAny_pure h))
theorem EnS.type {items : Array Value} {i : Nat} (h : EnS e it l S items i s.heap) : s.TypeIs (.ref e) "enumerate" := by
  obtain ⟨_, _, ⟨old, q⟩ | ⟨old, T, f, oT, q, _⟩⟩ := h
  · exact ⟨_, q, rfl⟩
  · exact ⟨_, q, rfl⟩
/-- what is wanted behind the gathering -/
abbrev Got (P : Program) (w : World) (R : Result → Shared → Prop) (S : Addr) (wr : List Addr) (vs : List (Key × Value)) (s : Shared) (res : Value) : Prop := ∀ (g : Heap) (tk : Nat) (acc : Array Value) (c : Nat) (as : List Addr), (∀ b o, b ≠ S → b ∉ wr → s.heap.get? b = some o → g.get? b = some o) → Gat P w S vs g vs.length acc c as → R (.ok (.ret res)) { s with heap := g, toks := tk }
abbrev More (P : Program) (w : World) (A : Around) (R : Result → Shared → Prop) : Fin → Shared → Prop := fun fin s' => match fin with
  | .done f => R (.ok f) s'
  | .again c' => c'.quiet = true ∧ codeAny (model P w) A c' R s'
theorem en_extend {R : Result → Shared → Prop} (hA : A.handled = none) (h1 : e ≠ it) (h2 : l ≠ e) (h3 : l ≠ it) (h4 : e < S) (h5 : it < S) (h6 : l < S) (few : items.length ≤ sizeLine) (res : Value) {c0 : Nat} {old : Value} (q0 : IsEnum s.heap e it 0 old) (si : s.heap.IsListIter it l 0) (sl : s.heap.IsList l items.toArray)
    (hS : s.heap.get? S = some { cls := .type "list", data := .seq #[] c0 }) (fin : Got P w R S [e, it] (vsE items) s res) :
    wpAny (model P w) A.in1 (Builtin.List.listExtendWith (.ref S) (.ref e) res) (More P w A R) (fun x s' => R (.error x) s') s := by
  have st : EnS e it l S items.toArray 0 s.heap := ⟨si, sl, .inl ⟨old, q0⟩⟩
  have Wk := pw_enum (P := P) (w := w) (A := A.in1) (S := S) (items := items) hA h1 h2 h3 (Nat.ne_of_lt h4) (Nat.ne_of_lt h5) (Nat.ne_of_lt h6)
  have go : ∀ (g : Heap) (c tk : Nat), (∀ b o, b ≠ S → s.heap.get? b = some o → g.get? b = some o) → g.get? S = some { cls := .type "list", data := .seq #[] c } →
      codeAny (model P w) A (.builtin "list.extend.loop" ⟨[.ref S, .ref e, res], []⟩) R { s with heap := g, toks := tk } := fun g c tk k q =>
    pw_loop (s := s) (g0 := s.heap) Wk (fun b hb => by simp at hb; rcases hb with rfl | rfl <;> assumption) (by rw [vsE_len]; exact few) res fin (vsE items).length 0 g tk c #[] [] (by omega) (Wk.keep 0 _ _ st k) (fun b o a _ z => k b o a z)
      ⟨q, rfl, rfl, List.Pairwise.nil, (fun _ z => nomatch z), fun j a z => by simp at z⟩
  have d1 : Builtin.List.listSameRef (.ref S) (.ref e) = false := by simp [Builtin.List.listSameRef, Nat.ne_of_gt h4]
  have d2 : (Value.type "enumerate" == Value.type "list") = false := by decide
  have d3 : (Value.type "enumerate" == Value.type "tuple") = false := by decide
  unfold Builtin.List.listExtendWith
  refine wpAny_bind (wpAny_typeOf st.type ?_)
  simp only [d1, d2, d3, Bool.or_false, Bool.false_eq_true, if_false]
  refine wpAny_bind (wpAny_pyIter_enum q0 ?_)
  refine wpAny_bind (wpAny_holding (en_hint st.type ?_))
  refine wpAny_ite_split (fun _ => ?_) (fun z => absurd (by rw [Bool.true_or]) z)
  refine wpAny_bind (wpAny_rule (wpAny_bind ?_))
  show wpAny _ _ (updateSeq S (·.push .none) >>= fun _ => updateSeq S (·.pop)) _ _ _
  have g1 := Heap.get?_update_self (Obj.mapSeq (·.push Value.none)) hS rfl
  have g2 := Heap.get?_update_self (Obj.mapSeq (·.pop)) g1 rfl
  refine wpAny_bind (wpAny_updateSeq hS rfl (wpAny_updateSeq (hz := by seq_fits) g1 rfl (wpAny_pure ⟨plainId_quiet PySem.F.plain_extend_loop _, go _ _ _ (fun b o hb z => ?_) g2⟩)))
  rw [Heap.get?_update_other _ _ (Ne.symm hb), Heap.get?_update_other _ _ (Ne.symm hb)]; exact z
theorem en_init {R : Result → Shared → Prop} (hA : A.handled = none) (h1 : e ≠ it) (h2 : l ≠ e) (h3 : l ≠ it) (h4 : e < S) (h5 : it < S) (h6 : l < S) (few : items.length ≤ sizeLine) {old : Value} (q0 : IsEnum s.heap e it 0 old) (si : s.heap.IsListIter it l 0) (sl : s.heap.IsList l items.toArray)
    (hS : s.heap.get? S = some { cls := .type "list", data := .seq #[] }) (fin : Got P w R S [e, it] (vsE items) s .none) :
    wpAny (model P w) A.in1 (Builtin.«list.__init__» ⟨[.ref S, .ref e], []⟩) (More P w A R) (fun x s' => R (.error x) s') s := by
  have g1 := Heap.get?_update_self (Obj.mapSeq (fun _ => (#[] : Array Value))) hS rfl
  have kk : ∀ b o, b ≠ S → s.heap.get? b = some o → (s.heap.update S (Obj.mapSeq (fun _ => (#[] : Array Value)))).get? b = some o := fun b o hb z => (Heap.get?_update_other _ _ (Ne.symm hb)).trans z
  show wpAny _ _ (do let was ← Builtin.List.listItems (.ref S); Builtin.List.listUpdate (.ref S) (fun _ => #[]); letGo was.toList.reverse; Builtin.List.listExtendWith (.ref S) (.ref e) .none) _ _ s
  refine wpAny_bind ?_
  unfold Builtin.List.listItems
  refine wpAny_bind (wpAny_seqItems hS rfl (wpAny_pure ?_))
  show wpAny _ _ (updateSeq S (fun _ => #[]) >>= fun _ => letGo ([] : List Value) >>= fun _ => Builtin.List.listExtendWith (.ref S) (.ref e) .none) _ _ s
  refine wpAny_bind (wpAny_updateSeq hS rfl (wpAny_bind (wpAny_letGo ?_)))
  exact en_extend hA h1 h2 h3 h4 h5 h6 few .none (kk _ _ (Nat.ne_of_lt h4) q0) (si.at fun o z => kk _ o (Nat.ne_of_lt h5) z) (sl.at fun o z => kk _ o (Nat.ne_of_lt h6) z) g1 fun g tk acc c as k ga => fin g tk acc c as (fun b o a1 a2 z => k b o a1 a2 (kk b o a1 z)) ga
/-- list(an enumerate over a list) -/
theorem call_list_enum {Q : Value → Shared → Prop} (hA : A.handled = none) (h1 : e ≠ it) (h2 : l ≠ e) (h3 : l ≠ it) (few : items.length ≤ sizeLine) {old : Value} (q0 : IsEnum s.heap e it 0 old) (si : s.heap.IsListIter it l 0) (sl : s.heap.IsList l items.toArray)
    (fin : ∀ (g : Heap) (tk : Nat) (acc : Array Value) (c : Nat) (as : List Addr), (∀ b o, b ∉ [e, it] → s.heap.get? b = some o → g.get? b = some o) → Gat P w s.heap.objs.size (vsE items) g (vsE items).length acc c as → Q (.ref s.heap.objs.size) { s with heap := g, toks := tk }) :
    wpAny (model P w) A (call (.type "list") [.ref e]) Q E s := by
  have le : e < s.heap.objs.size := Heap.lt_size q0
  have lit : it < s.heap.objs.size := by obtain ⟨_, z, _⟩ := si; exact Heap.lt_size z
  have ll : l < s.heap.objs.size := by obtain ⟨_, z, _⟩ := sl; exact Heap.lt_size z
  have hS : (s.heap.push { cls := .type "list", data := .seq #[] }).get? s.heap.objs.size = some { cls := .type "list", data := .seq #[] } := Heap.get?_push_size _ rfl
  refine callType_codes (Q₁ := fun ob s1 => ob = .ref s.heap.objs.size ∧ s1 = { s with heap := s.heap.push { cls := .type "list", data := .seq #[] } }) PySem.F.called_list (PySem.F.typeCall_list_1 _) PySem.F.entry_list_init (code_list_new _ ⟨rfl, rfl⟩) fun ob s1 hb => ?_
  obtain ⟨rfl, rfl⟩ := hb
  refine ⟨⟨_, hS, rfl⟩, PySem.F.args_list_init_2 _ _, ?_⟩
  refine en_init (A := A.in1) (items := items) hA h1 h2 h3 le lit ll few (Heap.get?_push_of_some _ q0) (si.at fun o z => Heap.get?_push_of_some _ z) (sl.at fun o z => Heap.get?_push_of_some _ z) hS fun g tk acc c as k ga => ?_
  exact ⟨rfl, fin g tk acc c as (fun b o a z => k b o (Nat.ne_of_lt (Heap.lt_size z)) a (Heap.get?_push_of_some _ z)) ga⟩
end
section
variable {X : Cx}
/-- objects that are new in the heap are tracked all at once -/
theorem inv_grow {pins : List (Addr × Obj)} {σ : L2.St} {H H' : Hp} {s : Shared} {g : Heap} {tk : Nat} (I : Inv X pins σ H s) (hk : ∀ b o, s.heap.get? b = some o → g.get? b = some o) (kp : ∀ b u, H b = some u → H' b = some u)
    (nw : ∀ b o, s.heap.get? b = some o → H' b = H b) (ok : ∀ b u, H b = none → H' b = some u → ObjOk X.prog X.w H' g b u) : Inv X pins σ H' { s with heap := g, toks := tk } := by
  refine I.call' (ch := []) rfl ⟨fun b o q _ _ _ => hk b o q, fun b o q _ _ _ => ⟨o.slots, hk b o q⟩, fun b o q n _ => by rw [nw b o q]; exact n, fun b o q _ => ⟨o, hk b o q⟩, fun b xs q => kp b _ q, fun b o u q => kp b _ q, fun b ps q => ⟨#[], by rw [kp b _ q]; simp⟩⟩ (fun b u q => ?_) I.bare fun b z => by simp at z
  cases e : H b with
  | none => exact ok b u e q
  | some v =>
    rw [kp b v e] at q
    cases q
    exact (I.hok b u e).stay (fun d x _ y => hk d x y) (fun d y => kp d _ y) fun d xs y => kp d _ y
def kvE (xs : List V) : List (Key × V) := xs.zipIdx.map fun p => (.inl (p.2 : Int), p.1)
theorem kv_enum : ∀ {xs : List V} {us : List Value} (n : Nat), Vals xs us → KV ((xs.zipIdx n).map fun p => ((.inl (p.2 : Int) : Key), p.1)) ((us.zipIdx n).map fun p => ((.inl (p.2 : Int) : Key), p.1))
  | _, _, n, .nil => by simp; exact .nil
  | _, _, n, .cons r rr => by simp; exact .cons ⟨rfl, r⟩ (kv_enum (n + 1) rr)
def tLE (K : PySem.W.Frag) (ta : TA) : TE := fun σ H Q => ta σ H fun vs H1 => ∃ (b : Addr) (xs : List V), vs = [.ref b] ∧ SqL K H1 b xs ∧
  ∀ (H' : Hp) (p : Addr) (ts : List Addr), (∀ b o, H1 b = some o → H' b = some o) → H1 p = none → (∀ t ∈ ts, H1 t = none) → p ∉ ts → H' p = some (.lst (ts.map V.ref)) → Paired (fun (t : Addr) (q : Key × V) => H' t = some (.tup [kV q.1, q.2])) ts (kvE xs) → Q (.ref p) H'
theorem pe_listEnum {a : Expr} {ta : TA} {p p2 pos pos2 : Pos} (hc : X.calm = true) (hg : Gl X "list") (hm : X.mg "list" = none) (hg2 : Gl X "enumerate") (hm2 : X.mg "enumerate" = none) (ha : PA X [a] ta)
    (na : starEach [.Call (.Name "enumerate" p2) [a] [] pos2] X.env = (false, eval (.Call (.Name "enumerate" p2) [a] [] pos2) X.env) :: starEach [] X.env := by rfl)
    (hs : starEach [a] X.env = (false, eval a X.env) :: starEach [] X.env := by rfl) (hpl : (backTo pos2 (starEach [] X.env)).any (·.1) = false := by rfl) :
    PE X (.Call (.Name "list" p) [.Call (.Name "enumerate" p2) [a] [] pos2] [] pos) (tLE X.K ta) := by
  refine ⟨fun pins s σ H Q I h => ?_⟩
  refine Call_ (ld_blt I hg hm bb_list (PyProof.Rows.callWith_type1 (args_cons (Call_ (ld_blt I hg2 hm2 boot_enumerate (PyProof.Rows.callWith_type1 (thn (ha.run pos2 pins s σ H _ I h) fun us s1 ⟨vs, H1, I1, r1, q1⟩ => ?_) hs hpl))) na) na))
  obtain ⟨b, xs, ex, hq, q⟩ := q1
  subst ex
  cases r1 with
  | cons r rr =>
    cases rr
    cases r
    obtain ⟨its, rv, pl, hz⟩ := I1.list hq
    have lb : b < s1.heap.objs.size := pl.lt
    refine call_enumerate_list pl.isList fun h' he hit hsz hk => args_nil ?_
    have I2 : Inv X pins σ H1 { s1 with heap := h' } := I1.kept (t' := s1.toks) hk
    have n1 : s1.heap.objs.size + 1 ≠ s1.heap.objs.size := Nat.succ_ne_self _
    refine call_list_enum (items := its) (I2.ok.hd hc) n1 (Nat.ne_of_lt (Nat.lt_succ_of_lt lb)) (Nat.ne_of_lt lb) (by have := rv.length; omega) he hit (pl.isList.at fun o z => hk _ o z) fun g tk acc c as k ga => ?_
    have hG := ga.kdx
    dsimp only at k ga hG ⊢
    have S0 : s1.heap.objs.size ≤ h'.objs.size := by rw [hsz]; exact Nat.le_add_right _ _
    have keep : ∀ d o, s1.heap.get? d = some o → g.get? d = some o := fun d o z => k d o (fun hm' => by
      have hd : d < s1.heap.objs.size := Heap.lt_size z
      simp at hm'
      rcases hm' with y | y <;> rw [y] at hd
      · exact absurd hd (Nat.not_lt.mpr (Nat.le_succ _))
      · exact Nat.lt_irrefl _ hd) (hk d o z)
    have kv : KV (kvE xs) (vsE its) := kv_enum 0 rv
    have nd : as.Nodup := List.Pairwise.imp (fun {x y} (z : x < y) => Nat.ne_of_lt z) hG.rise
    have hSn : h'.objs.size ∉ as := fun z => Nat.lt_irrefl _ (hG.above _ z)
    have newA : ∀ t ∈ as, H1 t = none := fun t ht => I1.hok.fresh (Nat.le_trans S0 (Nat.le_of_lt (hG.above t ht)))
    have newS : H1 h'.objs.size = none := I1.hok.fresh S0
    have lk : as.length = (kvE xs).length := by have := Paired.length kv; rw [this]; exact ga.many
    have atP := LiI.putT_at as (kvE xs) (upd H1 h'.objs.size (.lst (as.map V.ref))) lk nd
    have off : ∀ d, d ∉ as → d ≠ h'.objs.size → LiI.putT (upd H1 h'.objs.size (.lst (as.map V.ref))) as (kvE xs) d = H1 d := fun d z1 z2 => by rw [LiI.putT_off as _ _ z1, upd_ne z2]
    have eS : LiI.putT (upd H1 h'.objs.size (.lst (as.map V.ref))) as (kvE xs) h'.objs.size = some (.lst (as.map V.ref)) := by rw [LiI.putT_off as _ _ hSn, upd_same]
    have kp : ∀ d u, H1 d = some u → LiI.putT (upd H1 h'.objs.size (.lst (as.map V.ref))) as (kvE xs) d = some u := fun d u z => by
      rw [off d (fun y => by rw [newA d y] at z; cases z) (fun y => by rw [y, newS] at z; cases z)]; exact z
    refine ⟨.ref h'.objs.size, LiI.putT (upd H1 h'.objs.size (.lst (as.map V.ref))) as (kvE xs), inv_grow (tk := tk) I1 keep kp (fun d o z => ?_) (fun d u z y => ?_), rfl, q _ _ as kp newS newA hSn eS atP⟩
    · have hd : d < s1.heap.objs.size := Heap.lt_size z
      exact off d (fun y => absurd hd (Nat.not_lt.mpr (Nat.le_trans S0 (Nat.le_of_lt (hG.above d y))))) (fun y => absurd hd (Nat.not_lt.mpr (y ▸ S0)))
    · by_cases hb : d ∈ as
      · obtain ⟨j, pk, e1, e2, e3⟩ := LiI.paired_ix atP hb
        rw [e3] at y
        cases y
        obtain ⟨ky, kk, v, f1, f2, f3⟩ := hG.pairs j d e1
        obtain ⟨qv, g1, g2, g3⟩ := LiI.paired_get kv e2
        rw [f1] at g1
        cases g1
        have rk : RelV (kV pk.1) ky := by rw [g2]; exact relV_key (show keyIs kk ky = true from f2)
        exact ⟨by show 2 ≤ sizeLine; decide, [ky, v], .cons rk (.cons g3 .nil), ⟨_, f3, rfl, _, rfl⟩⟩
      · by_cases hb2 : d = h'.objs.size
        · rw [hb2] at y ⊢
          rw [eS] at y
          cases y
          refine ⟨?_, acc.toList, c, by rw [ga.refs]; exact LiI.vals_refs as, ?_⟩
          · have : (kvE xs).length = xs.length := by simp [kvE]
            rw [List.length_map, lk, this]; exact hz
          · rw [Array.toArray_toList]; exact ga.lst
        · rw [off d hb hb2, z] at y; cases y
end
end
end Mi
set_option Elab.async false
set_option linter.all false
set_option maxRecDepth 100000
set_option maxHeartbeats 1000000
set_option autoImplicit false
namespace Mi
noncomputable section
open PySem PySem.Spec PyProof.Rows L2
def enL (n : Nat) (ds : List D) : List D := (ds.zipIdx n).map fun p => .tup [.int (p.2 : Int), p.1]
def enD : D → Option Rs
  | .lst ds => some (.ow (.lst (enL 0 ds)))
  | _ => none
def mLE (m : MA) : ME := fun ρ => match m ρ with
  | some (rs, ρ1) => match peeks ρ1 rs with
    | some [a] => match enD a with
      | some z => some (z.rv, ρ1)
      | none => none
    | _ => none
  | none => none
section
variable {X : Cx} {K : PySem.W.Frag}
theorem shs_enum {F F' : Hp} (sb : Sub F F') : ∀ {ts : List Addr} {us : List V} {ds : List D} (n : Nat), Shs K F us ds → Paired (fun (t : Addr) (q : Key × V) => F' t = some (.tup [kV q.1, q.2])) ts ((us.zipIdx n).map fun p => ((.inl (p.2 : Int) : Key), p.1)) → Shs K F' (ts.map V.ref) (enL n ds)
  | _, _, _, n, .nil, pr => by
    simp at pr
    cases pr
    exact .nil
  | _, _, _, n, .cons h r, pr => by
    simp at pr
    cases pr with
    | cons q rest =>
      have ih := shs_enum sb (n + 1) r rest
      exact .cons (.tup (.inl q) (.cons (.int _) (.cons (h.sub sb) .nil))) ih
theorem ev_le {a : Expr} {m : MA} {p p2 pos pos2 : Pos} (hm : X.mg "list" = none) (hm2 : X.mg "enumerate" = none) (ha : AV X [a] m) (hc : X.calm = true := by rfl) (hg : Gl X "list" := by rfl) (hg2 : Gl X "enumerate" := by rfl)
    (na : starEach [.Call (.Name "enumerate" p2) [a] [] pos2] X.env = (false, eval (.Call (.Name "enumerate" p2) [a] [] pos2) X.env) :: starEach [] X.env := by rfl)
    (hs : starEach [a] X.env = (false, eval a X.env) :: starEach [] X.env := by rfl) (hpl : (backTo pos2 (starEach [] X.env)).any (·.1) = false := by rfl) :
    EV X (.Call (.Name "list" p) [.Call (.Name "enumerate" p2) [a] [] pos2] [] pos) (mLE m) :=
  ev_of (pe_listEnum hc hg hm hg2 hm2 ha na hs hpl) fun σ H Q F ρ z ρ' R eq k => by
    unfold mLE at eq
    split at eq
    · rename_i rs ρ1 e1
      split at eq
      · rename_i d e2
        split at eq
        · rename_i zz e3
          cases eq
          refine ⟨F, ρ, rs, _, R, e1, fun vs F1 H1 X1 h1 _ => ?_⟩
          have bb := HRs.bos X1.rep h1 e2
          obtain ⟨v, rfl, b1⟩ := bb.one
          obtain ⟨ds, rfl⟩ : ∃ ds, d = .lst ds := by cases d <;> first | exact ⟨_, rfl⟩ | cases e3
          cases e3
          obtain ⟨b, us, eb, hb, rb⟩ := b1.list X1.rep.le
          refine ⟨b, us, by rw [eb], hb, fun H' q ts kp nq nts nin hq pr => ?_⟩
          have L := X1.rep.le
          classical
          let F' : Hp := fun t => if t ∈ ts then H' t else F1 t
          have lf : Le F1 F' := fun t o e => by
            show (if t ∈ ts then H' t else F1 t) = some o
            rw [if_neg]
            · exact e
            · intro ht; rw [L.none (nts t ht)] at e; cases e
          have g : Gr F1 H1 F' H' := by
            refine ⟨fun t o e => ?_, lf, kp, fun t o e => ?_⟩
            · by_cases ht : t ∈ ts
              · simpa [F', ht] using e
              · exact kp t o (L t o (by simpa [F', ht] using e))
            · by_cases ht : t ∈ ts
              · exact .inr (nts t ht)
              · exact .inl (by simpa [F', ht] using e)
          have pr' : Paired (fun (t : Addr) (q : Key × V) => F' t = some (.tup [kV q.1, q.2])) ts (kvE us) := by
            have go : ∀ {as : List Addr} {kv : List (Key × V)}, (∀ t ∈ as, t ∈ ts) → Paired (fun (t : Addr) (q : Key × V) => H' t = some (.tup [kV q.1, q.2])) as kv → Paired (fun (t : Addr) (q : Key × V) => F' t = some (.tup [kV q.1, q.2])) as kv := by
              intro as kv hs pr
              induction pr with
              | nil => exact .nil
              | cons h t ih =>
                refine .cons ?_ (ih fun t ht => hs t (by simp [ht]))
                show (if _ ∈ ts then H' _ else F1 _) = _
                rw [if_pos (hs _ (by simp))]
                exact h
            exact go (fun _ h => h) pr
          have hn : HN X.K H1 F' H' (.ref q) (.ow (.lst (enL 0 ds))) := ⟨q, rfl, nq, by show (if q ∈ ts then H' q else F1 q) = none; rw [if_neg nin]; exact L.none nq, _, hq, shs_enum lf.sub 0 rb pr'⟩
          have hh := hn.hr X1.rep
          exact k _ F' _ (X1.trans (Gr.ex X1.rep g)) hh.1 (hh.2.back X1)
        · cases eq
      · cases eq
    · cases eq
end
end
end Mi
set_option Elab.async false
set_option linter.all false
set_option maxRecDepth 100000
set_option maxHeartbeats 1000000
set_option autoImplicit false
/-! for i, x in enumerate(a tuple) -/
namespace Mi
noncomputable section
open PySem PySem.Spec PyProof.Rows L2
theorem meets_enT (t : Addr) (items : Array Value) : Meets (Builtin.«enumerate.__new__» ⟨[.type "enumerate", .ref t], []⟩) (fun _ R s => s.heap.IsTuple t items ∧ R (.ok (.ret (.ref (s.heap.push { cls := .type "tuple_iterator", data := .fields #[.ref t, .int 0 0] }).objs.size)))
    { s with heap := (s.heap.push { cls := .type "tuple_iterator", data := .fields #[.ref t, .int 0 0] }).push { cls := .type "enumerate", data := .fields #[.none, .bool false, .ref s.heap.objs.size, rawInt 0, .none, .none] } }) :=
  .of_wp fun P w A R s ⟨ht, k⟩ => by
    obtain ⟨hp, g, d, tk, os⟩ := s
    have sb := sub_enumerate
    have it0 : ∀ {B : Around} {E : Value → Shared → Prop} {Q : Value → Shared → Prop}, Q (.ref hp.objs.size) ⟨hp.push { cls := .type "tuple_iterator", data := .fields #[.ref t, .int 0 0] }, g, d, tk, os⟩ → wpAny (model P w) B (pyIter (.ref t)) Q E ⟨hp, g, d, tk, os⟩ :=
      fun q => (begins_tuple t items).iter P w _ _ ⟨hp, g, d, tk, os⟩ _ ht q
    wp_walk using it0
    refine wpAny_stack_any fun st => wpAny_pure ?_; split
    · rename_i c _ _ _ _ _
      cases (c == Value.type "enumerate") <;> (wp_walk using it0) <;> exact ⟨_, rfl, k⟩
    · (wp_walk using it0); exact ⟨_, rfl, k⟩
section
variable {P : Program} {w : World} {A : Around} {E : Value → Shared → Prop} {s : Shared}
theorem call_enT {t : Addr} {items : Array Value} {Q : Value → Shared → Prop} (ht : s.heap.IsTuple t items)
    (k : ∀ g, IsEnum g (s.heap.objs.size + 1) s.heap.objs.size 0 .none → g.IsTupleIter s.heap.objs.size t 0 → g.objs.size = s.heap.objs.size + 2 → (∀ b o, s.heap.get? b = some o → g.get? b = some o) → Q (.ref (s.heap.objs.size + 1)) { s with heap := g }) :
    wpAny (model P w) A (call (.type "enumerate") [.ref t]) Q E s := by
  have z : (s.heap.push { cls := .type "tuple_iterator", data := .fields #[.ref t, .int 0 0] }).objs.size = s.heap.objs.size + 1 := Heap.size_push ..
  refine callType_new F.called_enumerate (by decide) (F.typeCall_enumerate_1 _) (F.newCall_enumerate_1 _) (fun ob => F.args_object_init_2 ob _) F.entry_enumerate_new (meets_enT t items) ⟨ht, ?_⟩
  show _ ∧ _
  rw [z]
  have q := Heap.get?_push_size (s.heap.push { cls := .type "tuple_iterator", data := .fields #[.ref t, .int 0 0] }) (o := { cls := .type "enumerate", data := .fields #[.none, .bool false, .ref s.heap.objs.size, rawInt 0, .none, .none] }) rfl
  rw [z] at q
  exact ⟨⟨_, q, rfl⟩, k _ q ⟨_, Heap.get?_push_of_some _ (Heap.get?_push_size _ rfl), rfl, rfl⟩ (by rw [Heap.size_push, z]) fun b o y => Heap.get?_push_of_some _ (Heap.get?_push_of_some _ y)⟩
end
/-- the tuple at a, each item in a new pair -/
def IteT (K : PySem.W.Frag) (a : Addr) : It :=
  ⟨fun i H => ∃ (xs : List V) (x : V), SqT K H a xs ∧ xs[i]? = some x, fun i H v H' => ∃ T x, v = .ref T ∧ H T = none ∧ H' = upd H T (.tup [.int (i : Nat), x]) ∧ ∀ xs, SqT K H a xs → xs[i]? = some x, fun i H => ∃ xs : List V, SqT K H a xs ∧ xs.length ≤ i⟩
theorem turn_enT {P : Program} {w : World} {K : PySem.W.Frag} {elts : List Expr} {kk : Nat} {tpos : Pos} (a e it : Addr) :
    Turn P w K (.Tuple elts kk tpos) (IteT K a) [e, it] e (fun i g => (∃ old, IsEnum g e it ((i : Nat) : Int) old) ∧ g.IsTupleIter it a i ∧ e ≠ it ∧ a ≠ it ∧ a ≠ e) where
  mem := by simp
  obj := fun i g st b hb => by
    obtain ⟨⟨old, q⟩, ⟨o, ho, _, hd⟩, _⟩ := st
    rcases (by simpa using hb : b = e ∨ b = it) with rfl | rfl
    · exact ⟨_, q, fun v z => nomatch z⟩
    · exact ⟨o, ho, fun v z => by rw [hd] at z; cases z⟩
  keep := fun i g g' ⟨⟨old, q⟩, h2, h3⟩ k => ⟨⟨old, k e (by simp) _ q⟩, h2.at fun o z => k it (by simp) o z, h3⟩
  item := by
    intro X hP hw hK hc i pins s σ H E I hf ⟨⟨old, q⟩, sit, n1, n2, n3⟩ ⟨xs, x, hx1, hx2⟩
    subst hP hw hK
    obtain ⟨its, rv, p, _⟩ := I.tuple hx1
    obtain ⟨u, hu, ru⟩ := rv.get hx2
    have le : e < s.heap.objs.size := Heap.lt_size q
    have lit : it < s.heap.objs.size := by obtain ⟨_, z, _⟩ := sit; exact Heap.lt_size z
    have pt : s.heap.IsTuple a its.toArray := p
    have il : i < its.toArray.size := by
      have := (List.getElem?_eq_some_iff.mp hu).1
      simpa using this
    refine wpAny_pyNext_enum_itemD (Draws.tuple (A := X.A.in1) (I.ok.hd hc) it a n2 its.toArray) q ⟨sit, pt⟩ il n1 (by simp [n1, Ne.symm n3]) fun y g tk hy ho hst hT hsz hk => ?_
    have ey : y = u := by
      have : its[i]? = some y := by simpa using hy
      rw [hu] at this; exact (Option.some.inj this).symm
    subst ey
    refine ⟨_, rfl, wpAny_letOwnedTupleGo_enum (s := { s with heap := g, toks := tk + 1 }) ho fun g2 he2 sb => ?_⟩
    have hT2 : g2.get? s.heap.objs.size = some { cls := .type "tuple", data := .seq #[.int i tk, y] } := (sb.2 _ (Nat.ne_of_gt le)).trans hT
    have nw : ObjOk X.prog X.w (upd H s.heap.objs.size (.tup [.int (i : Nat), x])) g2 s.heap.objs.size (.tup [.int (i : Nat), x]) := ⟨by show 2 ≤ sizeLine; decide, [.int i tk, y], .cons ⟨_, rfl⟩ (.cons ru .nil), ⟨_, hT2, rfl, _, rfl⟩⟩
    have J := I.turnedNew (h' := g2) (t' := tk + 1) (ch := [e, it]) (fun b ob hb z => (sb.2 b fun y => hb (by simp [y])).trans (hk b ob (fun y => hb (by simp [y])) (fun y => hb (by simp [y])) z)) hf (Nat.le_refl _) nw
    refine ⟨.ref s.heap.objs.size, _, J, rfl, ⟨_, x, rfl, I.hok.fresh (Nat.le_refl _), rfl, fun ys hy' => by rw [I.tuple_inj hy' hx1]; exact hx2⟩, ⟨⟨y, by rw [show ((i + 1 : Nat) : Int) = (i : Int) + 1 by omega]; exact he2⟩, hst.1.at fun o z => (sb.2 it (Ne.symm n1)).trans z, n1, n2, n3⟩, fun b hb => ?_⟩
    have lb : b < s.heap.objs.size := by rcases (by simpa using hb : b = e ∨ b = it) with rfl | rfl <;> assumption
    rw [upd_ne (Nat.ne_of_lt lb)]
    exact (hf b hb).1
  done := by
    intro X hP hw hK hc i pins s σ H E I hf ⟨⟨old, q⟩, sit, n1, n2, n3⟩ ⟨xs, hx1, hx2⟩
    subst hP hw hK
    obtain ⟨its, rv, p, _⟩ := I.tuple hx1
    obtain ⟨f0, f1, f2, f3, f4, f5⟩ := hf it (by simp)
    have pt : s.heap.IsTuple a its.toArray := p
    have hh := I.ok.hd hc
    have no : its.toArray[i]? = none := by have := rv.length; simp; omega
    have D : Draws X.prog X.w X.A.in1 it [it, a] i (fun _ _ => True) (fun j g => j = i ∧ g.IsTupleIter it a i ∧ g.IsTuple a its.toArray) :=
      ⟨fun _ _ st => let ⟨o, ho, _⟩ := st.2.1; ⟨o, ho⟩, fun _ _ _ st k => ⟨st.1, st.2.1.at fun o z => k it (by simp) o z, st.2.2.at fun o z => k a (by simp) o z⟩, fun j _ _ _ lj st _ => absurd st.1 (Nat.ne_of_lt lj), fun _ _ _ st k => wpAny_nextOf_tuple_end hh st.2.1 st.2.2 no k⟩
    exact wpAny_pyNext_enum_endD D q ⟨rfl, sit, pt⟩ fun g eb => ⟨rfl, I.turned (t' := s.toks) (fun b o hb z => eb b o hb z) f0 f1 f3 f4 f5⟩
  self := fun A i s Q E ⟨⟨_, q⟩, _⟩ h => wpAny_pyIter_enum q h
def iEnA (K : PySem.W.Frag) (ta : TA) : TI := fun σ H R => ta σ H fun vs H1 => ∃ a xs, vs = [.ref a] ∧ ((SqL K H1 a xs ∧ R (Ite K a) H1) ∨ (SqT K H1 a xs ∧ R (IteT K a) H1))
theorem pi_enA {X : Cx} {e : Expr} {ta : TA} {p pos tpos : Pos} {elts : List Expr} {kk : Nat} (hg : Gl X "enumerate") (hm : X.mg "enumerate" = none) (ha : PA X [e] ta) (hs : starEach [e] X.env = [(false, eval e X.env)] := by rfl) :
    PI X (.Tuple elts kk tpos) (.Call (.Name "enumerate" p) [e] [] pos) (iEnA X.K ta) := by
  refine ⟨fun pins s σ H R I h => ?_⟩
  refine Call_ (ld_blt I hg hm boot_enumerate (PyProof.Rows.callWith_type1 (thn (ha.run pos pins s σ H _ I h) fun us s1 ⟨vs, H1, I1, r1, a, xs, ex, q1⟩ => ?_) hs rfl))
  subst ex
  cases r1 with
  | cons r rr =>
    cases rr
    cases r
    have fp : ∀ b ∈ [s1.heap.objs.size + 1, s1.heap.objs.size], FpOk X pins H1 b := fun b hb => by
      have lb : s1.heap.objs.size ≤ b := by rcases (by simpa using hb : b = s1.heap.objs.size + 1 ∨ b = s1.heap.objs.size) with z | z <;> rw [z] <;> first | exact Nat.le_succ _ | exact Nat.le_refl _
      exact I1.fpOk lb (I1.hok.fresh lb)
    rcases q1 with ⟨hq, q⟩ | ⟨hq, q⟩
    · obtain ⟨its, rv, pl, _⟩ := I1.list hq
      refine call_enumerate_list pl.isList fun g b1 b2 b3 b4 => wpAny_pyIter_enum b1 ?_
      exact ⟨_, _, _, _, H1, rfl, I1.kept (t' := s1.toks) b4, turn_enum a (s1.heap.objs.size + 1) s1.heap.objs.size, ⟨⟨.none, b1⟩, b2, Nat.succ_ne_self _⟩, fp, q⟩
    · obtain ⟨its, rv, pt, _⟩ := I1.tuple hq
      have la : a < s1.heap.objs.size := by obtain ⟨o, ho, _⟩ := pt; exact Heap.lt_size ho
      refine call_enT (show s1.heap.IsTuple a its.toArray from pt) fun g b1 b2 b3 b4 => wpAny_pyIter_enum b1 ?_
      exact ⟨_, _, _, _, H1, rfl, I1.kept (t' := s1.toks) b4, turn_enT a (s1.heap.objs.size + 1) s1.heap.objs.size, ⟨⟨.none, b1⟩, b2, Nat.succ_ne_self _, Nat.ne_of_lt la, Nat.ne_of_lt (Nat.lt_succ_of_lt la)⟩, fp, q⟩
end
end Mi
set_option Elab.async false
set_option linter.all false
set_option maxRecDepth 100000
set_option maxHeartbeats 1000000
set_option autoImplicit false
namespace Mi
noncomputable section
open PySem PySem.Spec PyProof.Rows L2
def enW : D → Option (List D)
  | .lst ds => some (dEnum 0 ds)
  | .tup ds => some (dEnum 0 ds)
  | _ => none
def iEnW (l : MA) : MI := fun ρ => match l ρ with
  | some (rs, ρ1) => match shrs ρ1 rs with
    | some ([d], ρ2) => match enW d with
      | some zs => some (zs, ρ2)
      | none => none
    | _ => none
  | none => none
section
variable {X : Cx}
theorem iteT_ok {K : PySem.W.Frag} {F H : Hp} {a : Addr} {vs : List V} {ds : List D} (h : SqT K F a vs) (r : Shs K F vs ds) : ItOK K (IteT K a) F H (dEnum 0 ds) := by
  refine ⟨fun i F2 H2 z s l _ e => ?_, fun i F2 H2 s l _ hi => ⟨vs, sqT_sub (s.trans l.sub) h, by rw [r.length]; rw [dEnum_len] at hi; exact hi⟩⟩
  obtain ⟨d, e1, rfl⟩ := dEnum_get e
  obtain ⟨v, e2, h1⟩ := r.get e1
  have hs := sqT_sub (s.trans l.sub) h
  refine ⟨⟨vs, v, hs, e2⟩, fun x H3 ⟨T, y, e3, hT, e4, hy⟩ => ⟨upd F2 T (.tup [.int (i : Nat), y]), by rw [e4]; exact Gr.new_sh l hT, ?_⟩⟩
  have := hy vs hs
  rw [e2] at this; cases this
  rw [e3, Nat.zero_add]
  exact .tup (.inl upd_same) (.cons (.int _) (.cons (h1.sub (s.trans (le_upd (o := .tup [.int (i : Nat), v]) (l.none hT)).sub)) .nil))
theorem iv_enA {e : Expr} {l : MA} {p pos tpos : Pos} {elts : List Expr} {kk : Nat} (hm : X.mg "enumerate" = none) (ha : AV X [e] l) (hg : Gl X "enumerate" := by rfl) (hs : starEach [e] X.env = [(false, eval e X.env)] := by rfl) :
    IV X (.Tuple elts kk tpos) (.Call (.Name "enumerate" p) [e] [] pos) (iEnW l) := by
  refine iv_of (pi_enA hg hm ha hs) fun σ H R ⟨F, ρ, ds, ρ', Re, e, k⟩ => ?_
  unfold iEnW at e
  split at e
  · rename_i rs ρ1 e1
    split at e
    · rename_i d ρ2 e2
      split at e
      · rename_i zs e3
        cases e
        refine ⟨F, ρ, _, _, Re, e1, fun vs F1 H1 X1 h1 nw => ?_⟩
        obtain ⟨F2, X2, s, _⟩ := shrs_step X1 h1 nw e2
        cases s with
        | cons s1 s2 =>
          cases s2
          cases s1 with
          | lst hs r => cases e3; exact ⟨_, _, rfl, .inl ⟨.inl (.inl (X2.rep.le _ _ hs)), k _ F2 H1 X2 (ite_ok (.inl (.inl hs)) r)⟩⟩
          | tup hs r => cases e3; exact ⟨_, _, rfl, .inr ⟨sqT_sub X2.rep.le.sub hs.sq, k _ F2 H1 X2 (iteT_ok hs.sq r)⟩⟩
          | _ => cases e3
      · cases e
    · cases e
  · cases e
end
end
end Mi
set_option Elab.async false
set_option linter.all false
set_option maxRecDepth 100000
set_option maxHeartbeats 1000000
set_option autoImplicit false
namespace Mi
noncomputable section
open PySem PySem.Spec PyProof.Rows L2
/-! ### y = {k: v for ..} -/
theorem sw_dict {kx vx : Expr} {gs : List Comprehension} {scope : Scope} {pos py : Pos} {y : Str} {l : Nat} {env : Env} (h1 : env.scope.kind = .function) (h2 : env.scope.names.lookup y = some .local) (h3 : (py.line == pos.line) = true) (h4 : (scope.names.any fun (n, k) => n == y && (k == .local || k == .cell)) = false) :
    swapsWith (.DictComp kx vx gs scope pos) (some (.Name y py)) l env = pure true := by
  have k1 : env.kindOf y = some .local := h2
  have k2 : env.blockKind = .function := by (unfold Env.blockKind; rw [h1]; rfl)
  unfold swapsWith; simp only [k2, k1, h4, Expr.pos, h3]; rfl
section
variable {X : Cx} {kx vx tg iter : Expr} {ifs : List Expr} {scope : Scope} {own : List (Str × Nat)} {pos : Pos}
theorem ps_setDc {i : Nat} {y : Str} {py spos : Pos} {wi : TI} {g : TG} {tt : TT} {tk tv : TE} (hc : X.calm = true) (hN : X.N.Nodup) (hy : X.N[i]? = some y) (hyl : X.env.scope.names.lookup y = some .local)
    (hsw : swapsWith (.DictComp kx vx [⟨tg, iter, ifs, 0⟩] scope pos) (some (.Name y py)) spos.line X.env = pure true) (hi : PI X tg iter wi) (ok : BlkOk X.N X.env.scope scope own)
    (hg : ∀ (s : Shared) (H : Hp) (C : Addr) (cl : List (Str × Addr)) (fp : List Addr), PG (X.blk s H scope (compEnvC scope cl C X.env) fp) tg g) (ht : ∀ (s : Shared) (H : Hp) (C : Addr) (cl : List (Str × Addr)) (fp : List Addr), PTs (X.blk s H scope (compEnvC scope cl C X.env) fp) ifs tt)
    (hk : ∀ (s : Shared) (H : Hp) (C : Addr) (cl : List (Str × Addr)) (fp : List Addr), PE (X.blk s H scope (compEnvC scope cl C X.env) fp) kx tk) (he : ∀ (s : Shared) (H : Hp) (C : Addr) (cl : List (Str × Addr)) (fp : List Addr), PE (X.blk s H scope (compEnvC scope cl C X.env) fp) vx tv)
    (hs : ∀ x, foldedSetIterable iter X.env x = pure x) : PS X (.Assign [.Name y py] (.DictComp kx vx [⟨tg, iter, ifs, 0⟩] scope pos) spos) (tAsg (tDc wi g tt tk tv (own.map (·.2))) (gName i)) := by
  refine ⟨fun pins s σ H E I w => ?_⟩
  rw [exec_Assign_Name_used _ _ _ _ hsw]; refine wpAny_bind (wpAny_standAt (wpAny_bind ?_))
  show wpAny _ X.A (do let _ ← comprehension (.DictComp kx vx [⟨tg, iter, ifs, 0⟩] scope pos) scope X.env (firstIterPos [⟨tg, iter, ifs, 0⟩] pos) newDict false (eval iter X.env) (some (assign (.Name y py) X.env))) _ _ s
  have w' : tDc wi g tt tk tv (own.map (·.2)) σ H (fun x H1 => gName i x σ H1 E.nx) := w
  refine wpAny_bind (thn (dc_core (Qf := fun _ t => SP X pins E .next t) hc hN I hi ok hg ht hk he hs w' fun L C t m H' J q hn f => ?_) fun _ t hq => wpAny_pure (wpAny_pure hq))
  show wpAny _ _ (assign (.Name y py) X.env (.ref L)) _ _ _
  obtain ⟨f0, f1, _, f3, f4, f5⟩ := f
  refine wpAny_assign_Name (store_ok2 (v := V.ref L) J hN hy (.inl hyl) rfl (fun t2 J2 ⟨a, sb, ha⟩ => ?_) (.inr hyl))
  have na : C ≠ a := by rcases ha with z | z; (rw [z]; exact f1); exact fun e => f4 y a z e.symm
  exact ⟨m, hn.sameBut sb na, fun h3 sb3 => ⟨_, H', J2.turned (t' := t2.toks) (fun b o hb e => (sb3.2 b hb).trans e) f0 f1 f3 f4 f5, q⟩⟩
variable {mi : MI} {is : List Nat} {g : TG} {mt : D → En → Option En} {tt : MT} {tk tv : ME}
theorem sv_setDc {i : Nat} {y : Str} {py spos : Pos} (hc : X.calm = true) (hN : X.N.Nodup) (okt : TgOk X.K is g mt) (hv : ∀ i ∈ is, i ∈ own.map (·.2)) (hi : IV X tg iter mi) (ok : BlkOk X.N X.env.scope scope own)
    (hg : ∀ (s : Shared) (H : Hp) (C : Addr) (cl : List (Str × Addr)) (fp : List Addr), PG (X.blk s H scope (compEnvC scope cl C X.env) fp) tg g) (ht : ∀ (s : Shared) (H : Hp) (C : Addr) (cl : List (Str × Addr)) (fp : List Addr), TVs (X.blk s H scope (compEnvC scope cl C X.env) fp) ifs tt)
    (hk : ∀ (s : Shared) (H : Hp) (C : Addr) (cl : List (Str × Addr)) (fp : List Addr), EV (X.blk s H scope (compEnvC scope cl C X.env) fp) kx tk)
    (he : ∀ (s : Shared) (H : Hp) (C : Addr) (cl : List (Str × Addr)) (fp : List Addr), EV (X.blk s H scope (compEnvC scope cl C X.env) fp) vx tv)
    (hsw : swapsWith (.DictComp kx vx [⟨tg, iter, ifs, 0⟩] scope pos) (some (.Name y py)) spos.line X.env = pure true) (hy : X.N[i]? = some y := by rfl) (hyl : X.env.scope.names.lookup y = some .local := by rfl) (hs : ∀ x, foldedSetIterable iter X.env x = pure x := by intro _; rfl) :
    SV X (.Assign [.Name y py] (.DictComp kx vx [⟨tg, iter, ifs, 0⟩] scope pos) spos) (mSet i (mDc mi mt tt tk tv (own.map (·.2)))) :=
  sv_of (ps_setDc hc hN hy hyl hsw hi ok hg ht hk he hs) fun E σ H h => asg_use (fun σ H Q F ρ r ρ' R e k => dc_use okt hv R e k) h
end
end
end Mi
set_option Elab.async false
set_option linter.all false
set_option maxRecDepth 100000
set_option maxHeartbeats 1000000
set_option autoImplicit false
namespace Mi
noncomputable section
open PySem PySem.Spec PyProof.Rows L2
@[simp] theorem u_mVar (i : Nat) (ρ : En) : mVar i ρ = (match ρ[i]? with
  | some (some w) => if w.own = true then some (.at i, ρ) else some (.sh w.d, ρ)
  | _ => none) := rfl
@[simp] theorem u_mC (d : D) (ρ : En) : mC d ρ = (some (.sh d, ρ)) := rfl
@[simp] theorem u_mU (f : D → Option Rs) (m : ME) (ρ : En) : mU f m ρ = (match m ρ with
  | some (r, ρ1) => match peek ρ1 r with
    | some d => match f d with
      | some z => some (z.rv, ρ1)
      | none => none
    | none => none
  | none => none) := rfl
@[simp] theorem u_m2 (f : D → D → Option Rs) (m n : ME) (ρ : En) : m2 f m n ρ = (match m ρ with
  | some (r, ρ1) => match n ρ1 with
    | some (q, ρ2) => match peek ρ2 r with
      | some d => match peek ρ2 q with
        | some e => match f d e with
          | some z => some (z.rv, ρ2)
          | none => none
        | none => none
      | none => none
    | none => none
  | none => none) := rfl
@[simp] theorem u_mTru (m : ME) (ρ : En) : mTru m ρ = (match m ρ with
  | some (r, ρ1) => match peek ρ1 r with
    | some d => match truD d with
      | some b => some (b, ρ1)
      | none => none
    | none => none
  | none => none) := rfl
@[simp] theorem u_mTe (m : ME) (ρ : En) : mTe m ρ = (match m ρ with
  | some (.sh (.bl b), ρ1) => some (b, ρ1)
  | _ => none) := rfl
@[simp] theorem u_mAnd (a b : MT) (ρ : En) : mAnd a b ρ = (match a ρ with
  | some (true, ρ1) => b ρ1
  | some (false, ρ1) => some (false, ρ1)
  | none => none) := rfl
@[simp] theorem u_mOr (a b : MT) (ρ : En) : mOr a b ρ = (match a ρ with
  | some (true, ρ1) => some (true, ρ1)
  | some (false, ρ1) => b ρ1
  | none => none) := rfl
@[simp] theorem u_mNot (a : MT) (ρ : En) : mNot a ρ = (match a ρ with
  | some (b, ρ1) => some (!b, ρ1)
  | none => none) := rfl
@[simp] theorem u_mIf (t : MT) (a b : ME) (ρ : En) : mIf t a b ρ = (match t ρ with
  | some (true, ρ1) => a ρ1
  | some (false, ρ1) => b ρ1
  | none => none) := rfl
@[simp] theorem u_mAndV (a b : ME) (ρ : En) : mAndV a b ρ = (match a ρ with
  | some (r, ρ1) => match peek ρ1 r with
    | some d => match truD d with
      | some true => b ρ1
      | some false => some (r, ρ1)
      | none => none
    | none => none
  | none => none) := rfl
@[simp] theorem u_mOrV (a b : ME) (ρ : En) : mOrV a b ρ = (match a ρ with
  | some (r, ρ1) => match peek ρ1 r with
    | some d => match truD d with
      | some true => some (r, ρ1)
      | some false => b ρ1
      | none => none
    | none => none
  | none => none) := rfl
@[simp] theorem u_mNotV (a : ME) (ρ : En) : mNotV a ρ = (match mTru a ρ with
  | some (b, ρ1) => some (.sh (.bl (!b)), ρ1)
  | none => none) := rfl
@[simp] theorem u_mCh (f g : D → D → Option Rs) (m n l : ME) (ρ : En) : mCh f g m n l ρ = (match m ρ with
  | some (r, ρ1) => match n ρ1 with
    | some (q, ρ2) => match peek ρ2 r with
      | some d => match peek ρ2 q with
        | some e => match f d e with
          | some (.sh (.bl true)) => match l ρ2 with
            | some (s, ρ3) => match peek ρ3 q with
              | some e' => match peek ρ3 s with
                | some c => match g e' c with
                  | some z => some (z.rv, ρ3)
                  | none => none
                | none => none
              | none => none
            | none => none
          | some (.sh (.bl false)) => some (.sh (.bl false), ρ2)
          | _ => none
        | none => none
      | none => none
    | none => none
  | none => none) := rfl
@[simp] theorem u_mNil (ρ : En) : mNil  ρ = (some ([], ρ)) := rfl
@[simp] theorem u_mCons (m : ME) (l : MA) (ρ : En) : mCons m l ρ = (match m ρ with
  | some (r, ρ1) => match l ρ1 with
    | some (rs, ρ2) => some (r :: rs, ρ2)
    | none => none
  | none => none) := rfl
@[simp] theorem u_mTup (l : MA) (ρ : En) : mTup l ρ = (match l ρ with
  | some (rs, ρ1) => match shrs ρ1 rs with
    | some (ds, ρ2) => if ds.length ≤ sizeLine then some (.sh (.tup ds), ρ2) else none
    | none => none
  | none => none) := rfl
@[simp] theorem u_mLst (l : MA) (ρ : En) : mLst l ρ = (match l ρ with
  | some (rs, ρ1) => match shrs ρ1 rs with
    | some (ds, ρ2) => if ds.length ≤ sizeLine then some (.ow (.lst ds), ρ2) else none
    | none => none
  | none => none) := rfl
@[simp] theorem u_mCB (f : List D → Option Rs) (l : MA) (ρ : En) : mCB f l ρ = (match l ρ with
  | some (rs, ρ1) => match peeks ρ1 rs with
    | some ds => match f ds with
      | some z => some (z.rv, ρ1)
      | none => none
    | none => none
  | none => none) := rfl
@[simp] theorem u_mCall (g : MG) (bs : List Bool) (l : MA) (ρ : En) : mCall g bs l ρ = (match l ρ with
  | some (rs, ρ1) => match pass ρ1 bs rs with
    | some (q, ρ2) => if (slotsOf q).Nodup then match wsOf ρ2 q with
      | some ws => match g ws with
        | some (r, ws') => some (r.rv, back ρ2 q ws')
        | none => none
      | none => none
      else none
    | none => none
  | none => none) := rfl
@[simp] theorem u_mApp (l k : MA) (ρ : En) : mApp l k ρ = (match l ρ with
  | some (rs, ρ1) => match k ρ1 with
    | some (qs, ρ2) => some (rs ++ qs, ρ2)
    | none => none
  | none => none) := rfl
@[simp] theorem u_mPk (n m : Nat) (is : List Nat) (l k : MA) (ρ : En) : mPk n m is l k ρ = (match l ρ with
  | some (rs, ρ1) => match k ρ1 with
    | some (qs, ρ2) => if rs.length = n ∧ qs.length = m then some (pk is (rs ++ qs), ρ2) else none
    | none => none
  | none => none) := rfl
@[simp] theorem u_gOf (N : Nat) (m : MS) (ws : List W) : gOf N m ws = (match m (ww ws ++ List.replicate (N - ws.length) none) with
  | some (.rt r, ρ) => fin ws ρ r
  | some (.nx, ρ) => some (.sh .non, wsB ws ρ)
  | _ => none) := rfl
@[simp] theorem u_sNx (ρ : En) : sNx  ρ = (some (.nx, ρ)) := rfl
@[simp] theorem u_sSeq (a b : MS) (ρ : En) : sSeq a b ρ = (match a ρ with
  | some (.nx, ρ1) => b ρ1
  | some (o, ρ1) => some (o, ρ1)
  | none => none) := rfl
@[simp] theorem u_sDrop (m : ME) (ρ : En) : sDrop m ρ = (match m ρ with
  | some (_, ρ1) => some (.nx, ρ1)
  | none => none) := rfl
@[simp] theorem u_sRet (m : ME) (ρ : En) : sRet m ρ = (match m ρ with
  | some (r, ρ1) => some (.rt r, ρ1)
  | none => none) := rfl
@[simp] theorem u_sRetN (ρ : En) : sRetN  ρ = (some (.rt (.sh .non), ρ)) := rfl
@[simp] theorem u_sBk (ρ : En) : sBk  ρ = (some (.bk, ρ)) := rfl
@[simp] theorem u_sCt (ρ : En) : sCt  ρ = (some (.ct, ρ)) := rfl
@[simp] theorem u_sIf (t : MT) (a b : MS) (ρ : En) : sIf t a b ρ = (match t ρ with
  | some (true, ρ1) => a ρ1
  | some (false, ρ1) => b ρ1
  | none => none) := rfl
@[simp] theorem u_mSet (i : Nat) (m : ME) (ρ : En) : mSet i m ρ = (match m ρ with
  | some (r, ρ1) => match bindR ρ1 r with
    | some (w, ρ2) => match setW i w ρ2 with
      | some ρ3 => some (.nx, ρ3)
      | none => none
    | none => none
  | none => none) := rfl
@[simp] theorem u_mPar (is : List Nat) (l : MA) (ρ : En) : mPar is l ρ = (match l ρ with
  | some (rs, ρ1) => match bindRs ρ1 rs with
    | some (ws, ρ2) => match setWs is ws ρ2 with
      | some ρ3 => some (.nx, ρ3)
      | none => none
    | none => none
  | none => none) := rfl
@[simp] theorem u_tgN (i : Nat) (d : D) (ρ : En) : tgN i d ρ = (setW i (sw d) ρ) := rfl
@[simp] theorem u_tgT (is : List Nat) (d : D) (ρ : En) : tgT is d ρ = (match d with
  | .tup ds => if ds.length = is.length then setWs is (ds.map sw) ρ else none
  | _ => none) := rfl
@[simp] theorem u_mFor (mi : MI) (tg : D → En → Option En) (b : MS) (ρ : En) : mFor mi tg b ρ = (match mi ρ with
  | some (ds, ρ1) => forL tg b ds ρ1
  | none => none) := rfl
@[simp] theorem u_iSh (m : ME) (ρ : En) : iSh m ρ = (match m ρ with
  | some (r, ρ1) => match shr ρ1 r with
    | some (.lst ds, ρ2) => some (ds, ρ2)
    | some (.frl ds, ρ2) => some (ds, ρ2)
    | some (.tup ds, ρ2) => some (ds, ρ2)
    | some (.str x, ρ2) => some (x.cps.toList.map fun c => .str ⟨#[c]⟩, ρ2)
    | _ => none
  | none => none) := rfl
@[simp] theorem u_iR1 (l : MA) (ρ : En) : iR1 l ρ = (match l ρ with
  | some (rs, ρ1) => match peeks ρ1 rs with
    | some [.int j] => if big (-(2 ^ 62) ≤ j ∧ j < 2 ^ 62) then some (dRange 0 j.toNat, ρ1) else none
    | _ => none
  | none => none) := rfl
@[simp] theorem u_iR2 (l : MA) (ρ : En) : iR2 l ρ = (match l ρ with
  | some (rs, ρ1) => match peeks ρ1 rs with
    | some [.int i, .int j] => if big (-(2 ^ 62) ≤ i ∧ i < 2 ^ 62 ∧ -(2 ^ 62) ≤ j ∧ j < 2 ^ 62) then some (dRange i (j - i).toNat, ρ1) else none
    | _ => none
  | none => none) := rfl
@[simp] theorem u_iEn (l : MA) (ρ : En) : iEn l ρ = (match l ρ with
  | some (rs, ρ1) => match shrs ρ1 rs with
    | some ([.lst ds], ρ2) => some (dEnum 0 ds, ρ2)
    | _ => none
  | none => none) := rfl
@[simp] theorem u_iZp (l : MA) (ρ : En) : iZp l ρ = (match l ρ with
  | some (rs, ρ1) => match shrs ρ1 rs with
    | some ([.lst ds, .lst es], ρ2) => some (dZip ds es, ρ2)
    | _ => none
  | none => none) := rfl
@[simp] theorem u_mLc (mi : MI) (tg : D → En → Option En) (tt : MT) (te : ME) (vs : List Nat) (ρ : En) : mLc mi tg tt te vs ρ = (match mi ρ with
  | some (ds, ρ1) => match lcL tg tt te vs ds [] (wipeR ρ1 vs) with
    | some (acc, ρ2) => some (.ow (.lst acc), resto ρ1 ρ2 vs)
    | none => none
  | none => none) := rfl
@[simp] theorem u_mYes (ρ : En) : mYes  ρ = (some (true, ρ)) := rfl
@[simp] theorem u_oNo (ρ : En) : oNo  ρ = (some (none, ρ)) := rfl
@[simp] theorem u_oSo (m : ME) (ρ : En) : oSo m ρ = (match m ρ with
  | some (.sh (.int i), ρ1) => some (some i, ρ1)
  | _ => none) := rfl
@[simp] theorem u_mSl (m : ME) (lo hi : MO) (ρ : En) : mSl m lo hi ρ = (match m ρ with
  | some (r, ρ1) => match lo ρ1 with
    | some (a, ρ2) => match hi ρ2 with
      | some (b, ρ3) => match peek ρ3 r with
        | some d => match slD d a b with
          | some z => some (z.rv, ρ3)
          | none => none
        | none => none
      | none => none
    | none => none
  | none => none) := rfl
@[simp] theorem u_mMt (T : String) (f : D → List D → Option Rs) (m : ME) (l : MA) (ρ : En) : mMt T f m l ρ = (match m ρ with
  | some (r, ρ1) => match peek ρ1 r with
    | some d0 => if tyOk T d0 then match l ρ1 with
      | some (rs, ρ2) => match peek ρ2 r with
        | some d => match peeks ρ2 rs with
          | some ds => match f d ds with
            | some z => some (z.rv, ρ2)
            | none => none
          | none => none
        | none => none
      | none => none
      else none
    | none => none
  | none => none) := rfl
@[simp] theorem u_mMm (T : String) (f : D → List D → Option (D × D)) (i : Nat) (l : MA) (ρ : En) : mMm T f i l ρ = (match ρ[i]? with
  | some (some ⟨true, _, d0⟩) => if tyOk T d0 then match l ρ with
    | some (rs, ρ1) => match shrs ρ1 rs with
      | some (ds, ρ2) => match ρ2[i]? with
        | some (some ⟨true, p, d⟩) => match f d ds with
          | some (z, d') => some (.sh z, ρ2.set i (some ⟨true, p, d'⟩))
          | none => none
        | _ => none
      | none => none
    | none => none
    else none
  | _ => none) := rfl
@[simp] theorem u_mSto (i : Nat) (m : ME) (mi : ME) (ρ : En) : mSto i m mi ρ = (match m ρ with
  | some (r, ρ1) => match shr ρ1 r with
    | some (y, ρ2) => match ρ2[i]? with
      | some (some ⟨true, _, _⟩) => match mi ρ2 with
        | some (q, ρ3) => match peek ρ3 q with
          | some k => match ρ3[i]? with
            | some (some ⟨true, p, d⟩) => match stL d k y with
              | some d' => some (.nx, ρ3.set i (some ⟨true, p, d'⟩))
              | none => none
            | _ => none
          | none => none
        | none => none
      | _ => none
    | none => none
  | none => none) := rfl
@[simp] theorem u_mAug (i : Nat) (f : D → D → Option Rs) (m : ME) (ρ : En) : mAug i f m ρ = (match ρ[i]? with
  | some (some ⟨false, _, d⟩) => match m ρ with
    | some (r, ρ1) => match peek ρ1 r with
      | some e => match f d e with
        | some (.sh z) => match setW i (sw z) ρ1 with
          | some ρ2 => some (.nx, ρ2)
          | none => none
        | _ => none
      | none => none
    | none => none
  | _ => none) := rfl
@[simp] theorem u_mUnp (tg : D → En → Option En) (m : ME) (ρ : En) : mUnp tg m ρ = (match m ρ with
  | some (r, ρ1) => match shr ρ1 r with
    | some (d, ρ2) => match tg d ρ2 with
      | some ρ3 => some (.nx, ρ3)
      | none => none
    | none => none
  | none => none) := rfl
@[simp] theorem u_mDs (wk : Wk) (i : Nat) (ρ : En) : mDs wk i ρ = (match ρ[i]? with
  | some (some ⟨false, _, .dic kds⟩) => some (wkD wk kds, ρ)
  | _ => none) := rfl
@[simp] theorem u_mDnew (ρ : En) : mDnew  ρ = (some (.ow (.dic []), ρ)) := rfl
@[simp] theorem u_mDisp (l : List (ME × ME)) (ρ : En) : mDisp l ρ = (match prs ρ l with
  | some (kds, ρ1) => if kds.length ≤ 15 then some (.ow (.dic (mergeD [] kds)), ρ1) else none
  | none => none) := rfl
@[simp] theorem big_iff (p : Prop) : big p = p := rfl
@[simp] theorem u_mForD (wk : Wk) (i : Nat) (tg : D → En → Option En) (b : MS) (ρ : En) : mForD wk i tg b ρ = mFor (mDs wk i) tg b ρ := rfl
@[simp] theorem peek_sh (ρ : En) (d : D) : peek ρ (.sh d) = some d := rfl
@[simp] theorem peek_ow (ρ : En) (d : D) : peek ρ (.ow d) = some d := rfl
@[simp] theorem peek_at (ρ : En) (i : Nat) : peek ρ (.at i) = (match ρ[i]? with
    | some (some w) => some w.d
    | _ => none) := rfl
@[simp] theorem shr_sh (ρ : En) (d : D) : shr ρ (.sh d) = some (d, ρ) := rfl
@[simp] theorem shr_ow (ρ : En) (d : D) : shr ρ (.ow d) = some (d, ρ) := rfl
@[simp] theorem shr_at (ρ : En) (i : Nat) : shr ρ (.at i) = (match ρ[i]? with
    | some (some w) => some (w.d, ρ.set i (some ⟨false, w.pin, w.d⟩))
    | _ => none) := rfl
@[simp] theorem bindR_sh (ρ : En) (d : D) : bindR ρ (.sh d) = some (⟨false, false, d⟩, ρ) := rfl
@[simp] theorem bindR_ow (ρ : En) (d : D) : bindR ρ (.ow d) = some (⟨true, false, d⟩, ρ) := rfl
@[simp] theorem bindR_at (ρ : En) (i : Nat) : bindR ρ (.at i) = (match shr ρ (.at i) with
    | some (d, ρ1) => some (⟨false, false, d⟩, ρ1)
    | none => none) := rfl
@[simp] theorem rv_sh (d : D) : (Rs.sh d).rv = .sh d := rfl
@[simp] theorem rv_ow (d : D) : (Rs.ow d).rv = .ow d := rfl
def pinned : Option (Option W) → Bool
  | some (some w) => w.pin
  | _ => false
@[simp] theorem pinned_n : pinned none = false := rfl
@[simp] theorem pinned_sn : pinned (some none) = false := rfl
@[simp] theorem pinned_ss (w : W) : pinned (some (some w)) = w.pin := rfl
@[simp] theorem u_setW (i : Nat) (w : W) (ρ : En) : setW i w ρ = if pinned ρ[i]? = true then none else some (ρ.set i (some w)) := by
  unfold setW pinned
  rcases ρ[i]? with _ | _ | ⟨o, p, d⟩
  · rfl
  · rfl
  · cases p <;> rfl
@[simp] theorem bindRs_nil (ρ : En) : bindRs ρ [] = some ([], ρ) := rfl
@[simp] theorem bindRs_cons (ρ : En) (r : Rv) (rs : List Rv) : bindRs ρ (r :: rs) = (match bindR ρ r with
    | some (w, ρ1) => match bindRs ρ1 rs with
      | some (ws, ρ2) => some (w :: ws, ρ2)
      | none => none
    | none => none) := rfl
@[simp] theorem setWs_nil (ρ : En) : setWs [] [] ρ = some ρ := rfl
@[simp] theorem setWs_cons (i : Nat) (is : List Nat) (w : W) (ws : List W) (ρ : En) : setWs (i :: is) (w :: ws) ρ = (match setW i w ρ with
    | some ρ1 => setWs is ws ρ1
    | none => none) := rfl
@[simp] theorem shrs_nil (ρ : En) : shrs ρ [] = some ([], ρ) := rfl
@[simp] theorem shrs_cons (ρ : En) (r : Rv) (rs : List Rv) : shrs ρ (r :: rs) = (match shr ρ r with
    | some (d, ρ1) => match shrs ρ1 rs with
      | some (ds, ρ2) => some (d :: ds, ρ2)
      | none => none
    | none => none) := rfl
@[simp] theorem peeks_nil (ρ : En) : peeks ρ [] = some [] := rfl
@[simp] theorem peeks_cons (ρ : En) (r : Rv) (rs : List Rv) : peeks ρ (r :: rs) = (match peek ρ r with
    | some d => match peeks ρ rs with
      | some ds => some (d :: ds)
      | none => none
    | none => none) := rfl
@[simp] theorem pass_nil (ρ : En) : pass ρ [] [] = some ([], ρ) := rfl
@[simp] theorem pass_f (ρ : En) (bs : List Bool) (r : Rv) (rs : List Rv) : pass ρ (false :: bs) (r :: rs) = (match shr ρ r with
    | some (d, ρ1) => match pass ρ1 bs rs with
      | some (l, ρ2) => some (.inl d :: l, ρ2)
      | none => none
    | none => none) := rfl
@[simp] theorem pass_t (ρ : En) (bs : List Bool) (i : Nat) (rs : List Rv) : pass ρ (true :: bs) (.at i :: rs) = (match pass ρ bs rs with
    | some (l, ρ2) => some (.inr i :: l, ρ2)
    | none => none) := rfl
@[simp] theorem wsOf_nil (ρ : En) : wsOf ρ [] = some [] := rfl
@[simp] theorem wsOf_l (ρ : En) (d : D) (l : List (Sum D Nat)) : wsOf ρ (.inl d :: l) = (match wsOf ρ l with
    | some ws => some (⟨false, false, d⟩ :: ws)
    | none => none) := rfl
@[simp] theorem wsOf_r (ρ : En) (i : Nat) (l : List (Sum D Nat)) : wsOf ρ (.inr i :: l) = (match ρ[i]? with
    | some (some ⟨true, _, d⟩) => match wsOf ρ l with
      | some ws => some (⟨true, true, d⟩ :: ws)
      | none => none
    | _ => none) := rfl
@[simp] theorem slotsOf_nil : slotsOf [] = [] := rfl
@[simp] theorem slotsOf_l (d : D) (l : List (Sum D Nat)) : slotsOf (.inl d :: l) = slotsOf l := rfl
@[simp] theorem slotsOf_r (i : Nat) (l : List (Sum D Nat)) : slotsOf (.inr i :: l) = i :: slotsOf l := rfl
@[simp] theorem upW_some (u w : W) : upW (some (some u)) w = some ⟨w.own, u.pin, w.d⟩ := rfl
@[simp] theorem back_nil (ρ : En) (ws : List W) : back ρ [] ws = ρ := by cases ws <;> rfl
@[simp] theorem back_l (ρ : En) (d : D) (l : List (Sum D Nat)) (w : W) (ws : List W) : back ρ (.inl d :: l) (w :: ws) = back ρ l ws := rfl
@[simp] theorem back_r (ρ : En) (i : Nat) (l : List (Sum D Nat)) (w : W) (ws : List W) : back ρ (.inr i :: l) (w :: ws) = back (ρ.set i (upW ρ[i]? w)) l ws := rfl
@[simp] theorem wsB_nil (ρ : En) : wsB [] ρ = [] := by cases ρ with
  | nil => rfl
  | cons a b => cases a <;> rfl
@[simp] theorem wsB_cons (w u : W) (ws : List W) (ρ : En) : wsB (w :: ws) (some u :: ρ) = (if w.own = true then u else w) :: wsB ws ρ := rfl
@[simp] theorem fin_sh (ws : List W) (ρ : En) (d : D) : fin ws ρ (.sh d) = some (.sh d, wsB ws ρ) := rfl
@[simp] theorem fin_ow (ws : List W) (ρ : En) (d : D) : fin ws ρ (.ow d) = some (.ow d, wsB ws ρ) := rfl
@[simp] theorem fin_at (ws : List W) (ρ : En) (i : Nat) : fin ws ρ (.at i) = (match ρ[i]? with
    | some (some w) => if w.own = true then (if ws.length ≤ i then some (.ow w.d, wsB ws ρ) else none) else some (.sh w.d, wsB ws ρ)
    | _ => none) := rfl
@[simp] theorem wipeR_nil (ρ : En) : wipeR ρ [] = ρ := rfl
@[simp] theorem wipeR_cons (ρ : En) (v : Nat) (vs : List Nat) : wipeR ρ (v :: vs) = (wipeR ρ vs).set v none := rfl
@[simp] theorem resto_nil (ρ0 ρ : En) : resto ρ0 ρ [] = ρ := rfl
@[simp] theorem resto_cons (ρ0 ρ : En) (v : Nat) (vs : List Nat) : resto ρ0 ρ (v :: vs) = (resto ρ0 ρ vs).set v ((ρ0[v]?).getD none) := rfl
@[simp] theorem u_ww (l : List W) : ww l = l.map some := rfl
@[simp] theorem u_sw (d : D) : sw d = ⟨false, false, d⟩ := rfl
/-! data -/
@[simp] theorem addD_ii (a b : Int) : addD (.int a) (.int b) = some (.sh (.int (a + b))) := rfl
@[simp] theorem addD_ss (a b : Str) : addD (.str a) (.str b) = (if a.length + b.length ≤ sizeLine then some (.sh (.str (a ++ b))) else none) := rfl
@[simp] theorem addD_ll (a b : List D) : addD (.lst a) (.lst b) = (if a.length + b.length ≤ sizeLine then some (.ow (.lst (a ++ b))) else none) := rfl
@[simp] theorem addD_tt (a b : List D) : addD (.tup a) (.tup b) = (if a.length + b.length ≤ sizeLine then some (.sh (.tup (a ++ b))) else none) := rfl
@[simp] theorem subD_ii (a b : Int) : subD (.int a) (.int b) = some (.sh (.int (a - b))) := rfl
@[simp] theorem modD_ii (a b : Int) : modD (.int a) (.int b) = (if 0 < b then some (.sh (.int (a % b))) else none) := rfl
@[simp] theorem divD_ii (a b : Int) : divD (.int a) (.int b) = (if big (0 < b ∧ b < 18446744073709551616) then some (.sh (.int (a / b))) else none) := rfl
@[simp] theorem powD_ii (a b : Int) : powD (.int a) (.int b) = (if big (0 ≤ b ∧ b ≤ 1000000 ∧ a.natAbs < 2 ^ 64) then some (.sh (.int (a ^ b.toNat))) else none) := rfl
@[simp] theorem mulD_ii (a b : Int) : mulD (.int a) (.int b) = (if small a || small b then some (.sh (.int (a * b))) else none) := rfl
theorem mulD_si (x : Str) (n : Int) : mulD (.str x) (.int n) = (if big (-(2 ^ 63) ≤ n ∧ n < 2 ^ 31 ∧ x.length < 2 ^ 31 ∧ x.length * n.toNat ≤ sizeLine) then some (.sh (.str (strRep x n))) else none) := rfl
theorem mulD_li (x : List D) (n : Int) : mulD (.lst x) (.int n) = (if big (-(2 ^ 63) ≤ n ∧ n < 2 ^ 63 ∧ x.length * n.toNat ≤ sizeLine) then some (.ow (.lst (List.replicate n.toNat x).flatten)) else none) := rfl
@[simp] theorem negD_i (a : Int) : negD (.int a) = some (.sh (.int (-a))) := rfl
@[simp] theorem ltD_ii (a b : Int) : ltD (.int a) (.int b) = some (.sh (.bl (decide (a < b)))) := rfl
@[simp] theorem ltD_ss (a b : Str) : ltD (.str a) (.str b) = some (.sh (.bl (ltS a b))) := rfl
@[simp] theorem leD_ii (a b : Int) : leD (.int a) (.int b) = some (.sh (.bl (decide (a ≤ b)))) := rfl
@[simp] theorem gtD_ii (a b : Int) : gtD (.int a) (.int b) = some (.sh (.bl (decide (b < a)))) := rfl
@[simp] theorem geD_ii (a b : Int) : geD (.int a) (.int b) = some (.sh (.bl (decide (b ≤ a)))) := rfl
@[simp] theorem eqD_ii (a b : Int) : eqD (.int a) (.int b) = some (.sh (.bl (decide (a = b)))) := rfl
@[simp] theorem eqD_ss (a b : Str) : eqD (.str a) (.str b) = some (.sh (.bl (decide (a = b)))) := rfl
@[simp] theorem eqD_bb (a b : Bool) : eqD (.bl a) (.bl b) = some (.sh (.bl (decide (a = b)))) := rfl
@[simp] theorem neD_ii (a b : Int) : neD (.int a) (.int b) = some (.sh (.bl (!decide (a = b)))) := rfl
@[simp] theorem neD_ss (a b : Str) : neD (.str a) (.str b) = some (.sh (.bl (!decide (a = b)))) := rfl
@[simp] theorem neD_bb (a b : Bool) : neD (.bl a) (.bl b) = some (.sh (.bl (!decide (a = b)))) := rfl
@[simp] theorem ixD_l (ds : List D) (i : Int) : ixD (.lst ds) (.int i) = (match atI ds i with
    | some d => some (.sh d)
    | none => none) := by show Option.map Rs.sh (atI ds i) = _; cases atI ds i <;> rfl
@[simp] theorem ixD_f (ds : List D) (i : Int) : ixD (.frl ds) (.int i) = (match atI ds i with
    | some d => some (.sh d)
    | none => none) := by show Option.map Rs.sh (atI ds i) = _; cases atI ds i <;> rfl
@[simp] theorem ixD_t (ds : List D) (i : Int) : ixD (.tup ds) (.int i) = (match atI ds i with
    | some d => some (.sh d)
    | none => none) := by show Option.map Rs.sh (atI ds i) = _; cases atI ds i <;> rfl
@[simp] theorem ixD_s (z : Str) (i : Int) : ixD (.str z) (.int i) = (if z.length ≤ sizeLine then (match atI z.cps.toList i with
    | some c => some (.sh (.str ⟨#[c]⟩))
    | none => none) else none) := by show (if z.length ≤ sizeLine then (atI z.cps.toList i).map _ else none) = _; cases atI z.cps.toList i <;> rfl
@[simp] theorem ixD_ds (kvs : List (Key × D)) (x : Str) : ixD (.dic kvs) (.str x) = (match valD kvs (.inr x) with
    | some d => some (.sh d)
    | none => none) := by show Option.map Rs.sh (valD kvs (.inr x)) = _; cases valD kvs (.inr x) <;> rfl
@[simp] theorem ixD_di (kvs : List (Key × D)) (x : Int) : ixD (.dic kvs) (.int x) = (match valD kvs (.inl x) with
    | some d => some (.sh d)
    | none => none) := by show Option.map Rs.sh (valD kvs (.inl x)) = _; cases valD kvs (.inl x) <;> rfl
@[simp] theorem slD_l (ds : List D) (lo hi : Option Int) : slD (.lst ds) lo hi = some (.ow (.lst (cutA ds lo hi))) := rfl
@[simp] theorem slD_f (ds : List D) (lo hi : Option Int) : slD (.frl ds) lo hi = some (.ow (.lst (cutA ds lo hi))) := rfl
@[simp] theorem slD_s (z : Str) (lo hi : Option Int) : slD (.str z) lo hi = (if z.length ≤ sizeLine then some (.sh (.str (cutS z lo hi))) else none) := rfl
@[simp] theorem lenD_l (ds : List D) : lenD [.lst ds] = some (.sh (.int ds.length)) := rfl
@[simp] theorem lenD_f (ds : List D) : lenD [.frl ds] = some (.sh (.int ds.length)) := rfl
@[simp] theorem lenD_t (ds : List D) : lenD [.tup ds] = some (.sh (.int ds.length)) := rfl
@[simp] theorem lenD_d (ds : List (Key × D)) : lenD [.dic ds] = some (.sh (.int ds.length)) := rfl
@[simp] theorem lenD_s (z : Str) : lenD [.str z] = (if z.length ≤ sizeLine then some (.sh (.int z.length)) else none) := rfl
@[simp] theorem absD_i (i : Int) : absD [.int i] = some (.sh (.int (if i < 0 then -i else i))) := rfl
@[simp] theorem intD_i (i : Int) : intD [.int i] = some (.sh (.int i)) := rfl
@[simp] theorem intD_b (b : Bool) : intD [.bl b] = some (.sh (.int (if b then 1 else 0))) := rfl
@[simp] theorem listD_l (ds : List D) : listD [.lst ds] = some (.ow (.lst ds)) := rfl
@[simp] theorem listD_f (ds : List D) : listD [.frl ds] = some (.ow (.lst ds)) := rfl
@[simp] theorem listD_t (ds : List D) : listD [.tup ds] = some (.ow (.lst ds)) := rfl
@[simp] theorem tupleD_l (ds : List D) : tupleD [.lst ds] = some (.sh (.tup ds)) := rfl
@[simp] theorem tupleD_f (ds : List D) : tupleD [.frl ds] = some (.sh (.tup ds)) := rfl
@[simp] theorem tupleD_t (ds : List D) : tupleD [.tup ds] = some (.sh (.tup ds)) := rfl
@[simp] theorem maxD_ii (i j : Int) : maxD [.int i, .int j] = some (.sh (.int (if j > i then j else i))) := rfl
@[simp] theorem minD_ii (i j : Int) : minD [.int i, .int j] = some (.sh (.int (if j < i then j else i))) := rfl
@[simp] theorem truD_n : truD .non = some false := rfl
@[simp] theorem truD_b (b : Bool) : truD (.bl b) = some b := rfl
@[simp] theorem truD_i (i : Int) : truD (.int i) = some (i != 0) := rfl
@[simp] theorem truD_l (ds : List D) : truD (.lst ds) = some (!ds.isEmpty) := rfl
@[simp] theorem truD_f (ds : List D) : truD (.frl ds) = some (!ds.isEmpty) := rfl
@[simp] theorem truD_t (ds : List D) : truD (.tup ds) = some (!ds.isEmpty) := rfl
@[simp] theorem appD_l (xs : List D) (y : D) : appD (.lst xs) [y] = (if xs.length < sizeLine then some (.non, .lst (xs ++ [y])) else none) := rfl
@[simp] theorem extD_l (xs ys : List D) : extD (.lst xs) [.lst ys] = (if xs.length + ys.length ≤ sizeLine then some (.non, .lst (xs ++ ys)) else none) := rfl
@[simp] theorem iaddD_ii (a b : Int) : iaddD (.int a) (.int b) = some (.sh (.int (a + b))) := rfl
@[simp] theorem iaddD_ss (a b : Str) : iaddD (.str a) (.str b) = (if a.length + b.length ≤ sizeLine then some (.sh (.str (a ++ b))) else none) := rfl
@[simp] theorem joinD_l (a : Str) (ds : List D) : joinD (.str a) [.lst ds] = (match strsD ds with
    | some ys => if (ys.map (·.length)).sum + ys.length * a.length ≤ 16777216 then some (.sh (.str (Txt.join a ys))) else none
    | none => none) := rfl
@[simp] theorem tyOk_s (x : Str) : tyOk "str" (.str x) = true := rfl
@[simp] theorem tyOk_l (x : List D) : tyOk "list" (.lst x) = true := rfl
@[simp] theorem keyD_i (i : Int) : keyD (.int i) = some (.inl i) := rfl
@[simp] theorem keyD_s (x : Str) : keyD (.str x) = some (.inr x) := rfl
@[simp] theorem kD_i (i : Int) : kD (.inl i) = .int i := rfl
@[simp] theorem kD_s (x : Str) : kD (.inr x) = .str x := rfl
@[simp] theorem isND_n : isND .non .non = some (.sh (.bl true)) := rfl
@[simp] theorem isND_s (x : Str) : isND (.str x) .non = some (.sh (.bl false)) := rfl
@[simp] theorem isND_i (x : Int) : isND (.int x) .non = some (.sh (.bl false)) := rfl
@[simp] theorem isND_b (x : Bool) : isND (.bl x) .non = some (.sh (.bl false)) := rfl
@[simp] theorem notND_n : notND .non .non = some (.sh (.bl false)) := rfl
@[simp] theorem notND_s (x : Str) : notND (.str x) .non = some (.sh (.bl true)) := rfl
@[simp] theorem notND_i (x : Int) : notND (.int x) .non = some (.sh (.bl true)) := rfl
@[simp] theorem notND_b (x : Bool) : notND (.bl x) .non = some (.sh (.bl true)) := rfl
@[simp] theorem prs_nil (ρ : En) : prs ρ [] = some ([], ρ) := rfl
@[simp] theorem prs_cons (ρ : En) (a b : ME) (l : List (ME × ME)) : prs ρ ((a, b) :: l) = (match a ρ with
    | some (r, ρ1) => match peek ρ1 r with
      | some kd => match keyD kd with
        | some k => match b ρ1 with
          | some (q, ρ2) => match shr ρ2 q with
            | some (d, ρ3) => match prs ρ3 l with
              | some (kds, ρ4) => some ((k, d) :: kds, ρ4)
              | none => none
            | none => none
          | none => none
        | none => none
      | none => none
    | none => none) := rfl
@[simp] theorem dictD_l (ds : List D) : dictD [.lst ds] = (match pairsD ds with
    | some l => some (.ow (.dic (mergeD [] l)))
    | none => none) := rfl
@[simp] theorem reprD_1 (d : D) : reprD [d] = (match toR d with
    | some p => if shOk p then some (.sh (.str p.shown)) else none
    | none => none) := rfl
@[simp] theorem allD_l (ds : List D) : allD [.lst ds] = (match bls ds with
    | some bs => some (.sh (.bl (bs.all id)))
    | none => none) := rfl
@[simp] theorem wkD_k (l : List (Key × D)) : wkD .keys l = l.map fun p => kD p.1 := rfl
@[simp] theorem wkD_v (l : List (Key × D)) : wkD .vals l = l.map fun p => p.2 := rfl
@[simp] theorem wkD_i (l : List (Key × D)) : wkD .items l = l.map fun p => .tup [kD p.1, p.2] := rfl
@[simp] theorem popD_l (xs : List D) (i : Int) : popD (.lst xs) [.int i] = (if big (-(2 ^ 63) ≤ i ∧ i < 2 ^ 63) then match seqIndex? i xs.length with
    | some k => match xs[k]? with
      | some y => some (y, .lst (xs.eraseIdx k))
      | none => none
    | none => none
    else none) := rfl
@[simp] theorem stL_l (xs : List D) (k : Int) (y : D) : stL (.lst xs) (.int k) y = (match ixN xs.length k with
    | some j => some (.lst (xs.set j y))
    | none => none) := rfl
theorem small_of {i : Int} (h1 : -18446744073709551616 < i) (h2 : i < 18446744073709551616) : small i = true := decide_eq_true (p := big _) ⟨h1, h2⟩
/-! places -/
@[simp] theorem ixN_0 (n : Nat) : ixN (n + 1) 0 = some 0 := by unfold ixN; rw [if_pos (by omega), if_pos (by omega)]; rfl
@[simp] theorem ixN_1 (n : Nat) : ixN (n + 2) 1 = some 1 := by unfold ixN; rw [if_pos (by omega), if_pos (by omega)]; rfl
@[simp] theorem ixN_2 (n : Nat) : ixN (n + 3) 2 = some 2 := by unfold ixN; rw [if_pos (by omega), if_pos (by omega)]; rfl
@[simp] theorem ixN_3 (n : Nat) : ixN (n + 4) 3 = some 3 := by unfold ixN; rw [if_pos (by omega), if_pos (by omega)]; rfl
@[simp] theorem sz_line : sizeLine = 16777216 := by decide
theorem ixN_of {n : Nat} {i : Int} (h0 : 0 ≤ i) (h1 : i < n) : ixN n i = some i.toNat := by unfold ixN; rw [if_pos h0, if_pos h1]
theorem atI_of {α : Type} {xs : List α} {i : Int} (h0 : 0 ≤ i) (h1 : i < xs.length) : atI xs i = some (xs[i.toNat]'(by omega)) := by
  unfold atI
  rw [ixN_of h0 h1]
  simp
theorem atI_get {α : Type} {xs : List α} {i : Int} {x : α} (h0 : 0 ≤ i) (h1 : xs[i.toNat]? = some x) : atI xs i = some x := by
  have h : i.toNat < xs.length := (List.getElem?_eq_some_iff.mp h1).1
  unfold atI
  rw [ixN_of h0 (by omega)]
  exact h1
@[simp] theorem atI_zero {α : Type} (x : α) (xs : List α) : atI (x :: xs) 0 = some x := atI_get (by omega) rfl
@[simp] theorem atI_one {α : Type} (x y : α) (xs : List α) : atI (x :: y :: xs) 1 = some y := atI_get (by omega) rfl
@[simp] theorem atI_two {α : Type} (x y z : α) (xs : List α) : atI (x :: y :: z :: xs) 2 = some z := atI_get (by omega) rfl
@[simp] theorem atI_3 {α : Type} (x y z u : α) (xs : List α) : atI (x :: y :: z :: u :: xs) 3 = some u := atI_get (by omega) rfl
@[simp] theorem atI_4 {α : Type} (x y z u v : α) (xs : List α) : atI (x :: y :: z :: u :: v :: xs) 4 = some v := atI_get (by omega) rfl
theorem seqIx_of {n : Nat} {i : Int} (h0 : 0 ≤ i) (h1 : i < n) : seqIndex? i n = some i.toNat := by
  have h := (ixN_seq (ixN_of h0 h1)).1
  exact h
/-! texts -/
def S (l : List Nat) : Str := ⟨l.toArray⟩
theorem S_of (z : Str) : ∃ l, z = S l := ⟨z.cps.toList, by cases z; simp [S]⟩
@[simp] theorem S_len (l : List Nat) : (S l).length = l.length := by simp [S, Str.length]
@[simp] theorem S_cps (l : List Nat) : (S l).cps.toList = l := by simp [S]
@[simp] theorem S_app (a b : List Nat) : S a ++ S b = S (a ++ b) := by
  show Str.append (S a) (S b) = _
  simp [S, Str.append]
@[simp] theorem S_inj (a b : List Nat) : (S a = S b) ↔ a = b := by simp [S]
@[simp] theorem S_one (c : Nat) : (⟨#[c]⟩ : Str) = S [c] := rfl
theorem S_empty : (Str.ofString "") = S [] := by decide +kernel
@[simp] theorem S_cut (l : List Nat) (lo hi : Option Int) : cutS (S l) lo hi = S (cutA l lo hi) := by simp [cutS, cutA, S, Str.length]
theorem rep_0 (l : List Nat) : strRep (S l) 0 = S [] := by simp [strRep, S]
theorem rep_1 (l : List Nat) : strRep (S l) 1 = S l := by simp [strRep, S]
theorem cutA_to {α : Type} (xs : List α) (n : Nat) : cutA xs none (some (n : Int)) = xs.take n := by
  unfold cutA
  rw [HT.sIx_none, HT.sIx_nat]
  simp [List.take_eq_take_iff]
theorem cutA_from {α : Type} (xs : List α) (n : Nat) : cutA xs (some (n : Int)) none = xs.drop n := by
  unfold cutA
  rw [HT.sIx_none, HT.sIx_nat]
  by_cases h : n ≤ xs.length
  · rw [Nat.min_eq_left h]; exact List.take_of_length_le (by simp)
  · rw [Nat.min_eq_right (by omega), List.drop_of_length_le (Nat.le_refl _), List.drop_of_length_le (by omega)]; simp
theorem cutA_mid {α : Type} (xs : List α) (n m : Nat) : cutA xs (some (n : Int)) (some ((n + m : Nat) : Int)) = (xs.drop n).take m := by
  unfold cutA
  rw [HT.sIx_nat, HT.sIx_nat]
  by_cases h : n ≤ xs.length
  · rw [Nat.min_eq_left h]
    by_cases h2 : n + m ≤ xs.length
    · rw [Nat.min_eq_left h2]; congr 1; omega
    · rw [Nat.min_eq_right (by omega), List.take_of_length_le (by simp), List.take_of_length_le (by simp; omega)]
  · have h1 : min n xs.length = xs.length := Nat.min_eq_right (by omega)
    rw [h1, List.drop_of_length_le (Nat.le_refl _), List.drop_of_length_le (by omega : xs.length ≤ n)]; simp
theorem strsD_S : ∀ ls : List (List Nat), strsD (ls.map fun l => .str (S l)) = some (ls.map S)
  | [] => rfl
  | l :: r => by simp [strsD, strsD_S r]
theorem joinS (ls : List (List Nat)) : Str.join (S []) (ls.map S) = S ls.flatten := by
  induction ls with
  | nil => rfl
  | cons a r ih =>
    cases r with
    | nil => simp [Str.join]
    | cons b r =>
      show S a ++ S [] ++ Str.join (S []) (S b :: r.map S) = _
      rw [show S b :: r.map S = (b :: r).map S from rfl, ih]
      simp
theorem join_S (ls : List (List Nat)) : Txt.join (S []) (ls.map S) = S ls.flatten := (TL.join_eq _ _).trans (joinS ls)
theorem mul_rep {l : List Nat} {n : Int} (h0 : 0 ≤ n) (h1 : n ≤ 1) (hl : l.length ≤ 1000000) : mulD (.str (S l)) (.int n) = some (.sh (.str (S (if n = 0 then [] else l)))) := by
  rw [mulD_si, S_len]
  rcases (by omega : n = 0 ∨ n = 1) with rfl | rfl
  · rw [rep_0, if_pos ⟨by decide, by decide, by omega, by simp⟩]; rfl
  · rw [rep_1, if_pos ⟨by decide, by decide, by omega, by simp; omega⟩]; rfl
theorem flat1 {α : Type} : ∀ l : List α, (l.map fun c => [c]).flatten = l
  | [] => rfl
  | c :: r => by simp [flat1 r]
theorem sum_le {α : Type} {f : α → Nat} {B : Nat} : ∀ {l : List α}, (∀ x ∈ l, f x ≤ B) → (l.map f).sum ≤ B * l.length
  | [], _ => by simp
  | x :: r, h => by
    have h1 := h x (by simp)
    have h2 := sum_le (l := r) fun y hy => h y (by simp [hy])
    simp [Nat.mul_add]
    omega
theorem seq_go {a b : MS} {ρ ρ1 : En} (h : a ρ = some (.nx, ρ1)) : sSeq a b ρ = b ρ1 := by simp only [u_sSeq, h]
theorem set_go {m : ME} {i : Nat} {ρ ρ1 : En} {d : D} (h : m ρ = some (.sh d, ρ1)) (hp : pinned ρ1[i]? = false) : mSet i m ρ = some (.nx, ρ1.set i (some ⟨false, false, d⟩)) := by simp [h, hp]
theorem set_goW {m : ME} {i : Nat} {ρ ρ1 : En} {d : D} (h : m ρ = some (.ow d, ρ1)) (hp : pinned ρ1[i]? = false) : mSet i m ρ = some (.nx, ρ1.set i (some ⟨true, false, d⟩)) := by simp [h, hp]
/-! loops -/
/-- a for loop that goes through -/
theorem forL_inv {tg : D → En → Option En} {b : MS} (I : List D → En → Prop) (step : ∀ d ds ρ, I (d :: ds) ρ → ∃ ρ1 ρ2, tg d ρ = some ρ1 ∧ (b ρ1 = some (.nx, ρ2) ∨ b ρ1 = some (.ct, ρ2)) ∧ I ds ρ2) :
    ∀ (ds : List D) (ρ : En), I ds ρ → ∃ ρ', forL tg b ds ρ = some (.nx, ρ') ∧ I [] ρ'
  | [], ρ, h => ⟨ρ, rfl, h⟩
  | d :: ds, ρ, h => by
    obtain ⟨ρ1, ρ2, e1, e2, h2⟩ := step d ds ρ h
    obtain ⟨ρ', e3, h3⟩ := forL_inv I step ds ρ2 h2
    refine ⟨ρ', ?_, h3⟩
    rcases e2 with e2 | e2 <;> simp only [forL, e1, e2] <;> exact e3
theorem lcL_inv {tg : D → En → Option En} {tt : MT} {te : ME} {vs : List Nat} (I : List D → List D → En → Prop)
    (step : ∀ d ds acc ρ, I (d :: ds) acc ρ → ∃ ρ1 ρ2, tg d ρ = some ρ1 ∧ ((∃ r ρ3 y ρ4, tt ρ1 = some (true, ρ2) ∧ te ρ2 = some (r, ρ3) ∧ shr ρ3 r = some (y, ρ4) ∧ acc.length < sizeLine ∧ I ds (acc ++ [y]) (wipeR ρ4 vs)) ∨ (tt ρ1 = some (false, ρ2) ∧ I ds acc (wipeR ρ2 vs)))) :
    ∀ (ds acc : List D) (ρ : En), I ds acc ρ → ∃ acc' ρ', lcL tg tt te vs ds acc ρ = some (acc', ρ') ∧ I [] acc' ρ'
  | [], acc, ρ, h => ⟨acc, ρ, rfl, h⟩
  | d :: ds, acc, ρ, h => by
    obtain ⟨ρ1, ρ2, e1, h2⟩ := step d ds acc ρ h
    rcases h2 with ⟨r, ρ3, y, ρ4, e2, e3, e4, hl, h2⟩ | ⟨e2, h2⟩
    · obtain ⟨acc', ρ', e5, h3⟩ := lcL_inv I step ds (acc ++ [y]) _ h2
      exact ⟨acc', ρ', by simp only [lcL, e1, e2, e3, e4, if_pos hl]; exact e5, h3⟩
    · obtain ⟨acc', ρ', e5, h3⟩ := lcL_inv I step ds acc _ h2
      exact ⟨acc', ρ', by simp only [lcL, e1, e2]; exact e5, h3⟩
end
end Mi
set_option Elab.async false
set_option linter.all false
set_option maxRecDepth 100000
set_option maxHeartbeats 1000000
set_option autoImplicit false
/-! what is left to be shown, from the front -/
namespace Mi
noncomputable section
open PySem PySem.Spec PyProof.Rows L2
/-- what a later place hangs on is left as it is -/
abbrev Tg {β : Sort _} (q : β) : Type := Unit
def ok {α : Type} (o : Option α) (Q : α → Prop) (t : Tg Q := ()) : Prop := match o with
  | some z => Q z
  | none => False
def okP {α : Type} (o : Option (α × En)) (Q : α → En → Prop) : Prop := match o with
  | some (r, ρ) => Q r ρ
  | none => False
def wp {α : Type} (m : En → Option (α × En)) (ρ : En) (Q : α → En → Prop) (t : Tg Q := ()) (u : Tg m := ()) : Prop := okP (m ρ) Q
theorem nr {α : Sort _} {a b : α} (h : a = b) : a = b := h
/-- the slots as they stand then -/
def ev (ρ : En) (K : En → Prop) (t : Tg K := ()) : Prop := K ρ
@[simp] theorem ev_go {ρ : En} {K : En → Prop} : ev ρ K = K ρ := nr rfl
/-- a test's two ways -/
def br (b : Bool) (P N : Prop) (t : Tg P := ()) (u : Tg N := ()) : Prop := (b = true → P) ∧ (b = false → N)
section
variable {α β : Type} {Q : α → Prop} {o : Option α} {ρ : En}
@[simp] theorem ok_some {z : α} : ok (some z) Q = Q z := nr rfl
@[simp] theorem ok_none : ok (none : Option α) Q = False := nr rfl
@[simp] theorem ok_guard {c : Prop} [Decidable c] {a : Option α} : ok (if c then a else none) Q = (c ∧ ok a Q) := by
  by_cases h : c <;> simp [h]
@[simp] theorem ok_guardN {c : Prop} [Decidable c] {a : Option α} : ok (if c then none else a) Q = (¬ c ∧ ok a Q) := by
  by_cases h : c <;> simp [h]
@[simp] theorem br_true {P N : Prop} : br true P N = P := by simp [br]
@[simp] theorem br_false {P N : Prop} : br false P N = N := by simp [br]
theorem ok_ex (h : ok o Q) : ∃ z, o = some z ∧ Q z := by
  cases o with
  | none => exact h.elim
  | some z => exact ⟨z, rfl, h⟩
theorem ok_of {z : α} (e : o = some z) (q : Q z) : ok o Q := by rw [e]; exact q
theorem ok_mono {P Q : α → Prop} (h : ok o P) (k : ∀ z, P z → Q z) : ok o Q := by
  cases o with
  | none => exact h.elim
  | some z => exact k z h
theorem wp_ex {m : En → Option (α × En)} {Q : α → En → Prop} (h : wp m ρ Q) : ∃ r ρ', m ρ = some (r, ρ') ∧ Q r ρ' := by
  unfold wp at h
  rcases e : m ρ with _ | ⟨r, ρ'⟩
  · rw [e] at h; exact h.elim
  · rw [e] at h; exact ⟨r, ρ', rfl, h⟩
theorem wp_of {m : En → Option (α × En)} {Q : α → En → Prop} {r : α} {ρ' : En} (e : m ρ = some (r, ρ')) (q : Q r ρ') : wp m ρ Q := by
  unfold wp; rw [e]; exact q
theorem wp_mono {m : En → Option (α × En)} {P Q : α → En → Prop} (h : wp m ρ P) (k : ∀ r ρ', P r ρ' → Q r ρ') : wp m ρ Q := by
  obtain ⟨r, ρ', e, p⟩ := wp_ex h
  exact wp_of e (k _ _ p)
end
section
variable {ρ : En} {QE : Rv → En → Prop} {QT : Bool → En → Prop} {QA : List Rv → En → Prop} {QS : Out → En → Prop} {QI : List D → En → Prop} {QO : Option Int → En → Prop}
@[simp] theorem w_mC {d : D} : wp (mC d) ρ QE = QE (.sh d) ρ := nr rfl
/-- a name's value -/
def vr (i : Nat) (w : W) : Rv := if w.own = true then .at i else .sh w.d
@[simp] theorem vr_t (i : Nat) (p : Bool) (d : D) : vr i ⟨true, p, d⟩ = .at i := rfl
@[simp] theorem vr_f (i : Nat) (p : Bool) (d : D) : vr i ⟨false, p, d⟩ = .sh d := rfl
@[simp] theorem w_mVar {i : Nat} : wp (mVar i) ρ QE = ok (ρ[i]?) fun o => ok o fun w => QE (vr i w) ρ := by
  unfold wp mVar
  rcases ρ[i]? with _ | _ | ⟨o, p, d⟩ <;> try rfl
  cases o <;> rfl
@[simp] theorem w_mU {f : D → Option Rs} {m : ME} : wp (mU f m) ρ QE = wp m ρ fun r ρ1 => ok (peek ρ1 r) fun d => ok (f d) fun z => QE z.rv ρ1 := by
  unfold wp mU
  rcases m ρ with _ | ⟨r, ρ1⟩ <;> try rfl
  show okP (match peek ρ1 r with | some d => _ | none => none) _ = ok (peek ρ1 r) _
  rcases peek ρ1 r with _ | d <;> try rfl
  show okP (match f d with | some z => _ | none => none) _ = ok (f d) _
  rcases f d with _ | z <;> rfl
@[simp] theorem w_m2 {f : D → D → Option Rs} {m n : ME} : wp (m2 f m n) ρ QE = wp m ρ fun r ρ1 => wp n ρ1 fun q ρ2 => ok (peek ρ2 r) fun d => ok (peek ρ2 q) fun e => ok (f d e) fun z => QE z.rv ρ2 := by
  unfold wp m2
  rcases m ρ with _ | ⟨r, ρ1⟩ <;> try rfl
  show okP (match n ρ1 with | some (q, ρ2) => _ | none => none) _ = okP (n ρ1) _
  rcases n ρ1 with _ | ⟨q, ρ2⟩ <;> try rfl
  show okP (match peek ρ2 r with | some d => _ | none => none) _ = ok (peek ρ2 r) _
  rcases peek ρ2 r with _ | d <;> try rfl
  show okP (match peek ρ2 q with | some d => _ | none => none) _ = ok (peek ρ2 q) _
  rcases peek ρ2 q with _ | e <;> try rfl
  show okP (match f d e with | some z => _ | none => none) _ = ok (f d e) _
  rcases f d e with _ | z <;> rfl
@[simp] theorem w_mTru {m : ME} : wp (mTru m) ρ QT = wp m ρ fun r ρ1 => ok (peek ρ1 r) fun d => ok (truD d) fun b => QT b ρ1 := by
  unfold wp mTru
  rcases m ρ with _ | ⟨r, ρ1⟩ <;> try rfl
  show okP (match peek ρ1 r with | some d => _ | none => none) _ = ok (peek ρ1 r) _
  rcases peek ρ1 r with _ | d <;> try rfl
  show okP (match truD d with | some z => _ | none => none) _ = ok (truD d) _
  rcases truD d with _ | z <;> rfl
/-- a truth in hand -/
def rvB : Rv → Option Bool
  | .sh (.bl b) => some b
  | _ => none
@[simp] theorem rvB_b (b : Bool) : rvB (.sh (.bl b)) = some b := rfl
@[simp] theorem w_mTe {m : ME} : wp (mTe m) ρ QT = wp m ρ fun r ρ1 => ok (rvB r) fun b => QT b ρ1 := by
  unfold wp mTe
  rcases m ρ with _ | ⟨r, ρ1⟩ <;> try rfl
  rcases r with d | d | i <;> try rfl
  cases d <;> rfl
@[simp] theorem w_mAnd {a b : MT} : wp (mAnd a b) ρ QT = wp a ρ fun c ρ1 => ev ρ1 fun ρ2 => br c (wp b ρ2 QT) (QT false ρ2) := by
  unfold wp mAnd
  rcases a ρ with _ | ⟨c, ρ1⟩ <;> try rfl
  cases c <;> simp [okP, ev]
@[simp] theorem w_mOr {a b : MT} : wp (mOr a b) ρ QT = wp a ρ fun c ρ1 => ev ρ1 fun ρ2 => br c (QT true ρ2) (wp b ρ2 QT) := by
  unfold wp mOr
  rcases a ρ with _ | ⟨c, ρ1⟩ <;> try rfl
  cases c <;> simp [okP, ev]
@[simp] theorem w_mNot {a : MT} : wp (mNot a) ρ QT = wp a ρ fun c ρ1 => QT (!c) ρ1 := by
  unfold wp mNot
  rcases a ρ with _ | ⟨c, ρ1⟩ <;> rfl
@[simp] theorem w_mYes : wp mYes ρ QT = QT true ρ := nr rfl
@[simp] theorem w_mIf {t : MT} {a b : ME} : wp (mIf t a b) ρ QE = wp t ρ fun c ρ1 => ev ρ1 fun ρ2 => br c (wp a ρ2 QE) (wp b ρ2 QE) := by
  unfold wp mIf
  rcases t ρ with _ | ⟨c, ρ1⟩ <;> try rfl
  cases c <;> simp [okP, ev]
@[simp] theorem w_mAndV {a b : ME} : wp (mAndV a b) ρ QE = wp a ρ fun r ρ1 => ok (peek ρ1 r) fun d => ok (truD d) fun c => ev ρ1 fun ρ2 => br c (wp b ρ2 QE) (QE r ρ2) := by
  unfold wp mAndV
  rcases a ρ with _ | ⟨r, ρ1⟩ <;> try rfl
  show okP (match peek ρ1 r with | some d => _ | none => none) _ = ok (peek ρ1 r) _
  rcases peek ρ1 r with _ | d <;> try rfl
  show okP (match truD d with | some true => _ | some false => _ | none => none) _ = ok (truD d) _
  rcases truD d with _ | c <;> try rfl
  cases c <;> simp [okP, ev]
@[simp] theorem w_mOrV {a b : ME} : wp (mOrV a b) ρ QE = wp a ρ fun r ρ1 => ok (peek ρ1 r) fun d => ok (truD d) fun c => ev ρ1 fun ρ2 => br c (QE r ρ2) (wp b ρ2 QE) := by
  unfold wp mOrV
  rcases a ρ with _ | ⟨r, ρ1⟩ <;> try rfl
  show okP (match peek ρ1 r with | some d => _ | none => none) _ = ok (peek ρ1 r) _
  rcases peek ρ1 r with _ | d <;> try rfl
  show okP (match truD d with | some true => _ | some false => _ | none => none) _ = ok (truD d) _
  rcases truD d with _ | c <;> try rfl
  cases c <;> simp [okP, ev]
@[simp] theorem w_mNotV {a : ME} : wp (mNotV a) ρ QE = wp (mTru a) ρ fun b ρ1 => QE (.sh (.bl (!b))) ρ1 := by
  unfold wp mNotV
  rcases mTru a ρ with _ | ⟨c, ρ1⟩ <;> rfl
/-- a truth that was told -/
def rsB : Rs → Option Bool
  | .sh (.bl b) => some b
  | _ => none
@[simp] theorem rsB_b (b : Bool) : rsB (.sh (.bl b)) = some b := rfl
@[simp] theorem w_mCh {f g : D → D → Option Rs} {m n l : ME} : wp (mCh f g m n l) ρ QE = wp m ρ fun r ρ1 => wp n ρ1 fun q ρ2 => ok (peek ρ2 r) fun d => ok (peek ρ2 q) fun e => ok (f d e) fun z => ok (rsB z) fun c =>
    ev ρ2 fun ρ2 => br c (wp l ρ2 fun s ρ3 => ok (peek ρ3 q) fun e' => ok (peek ρ3 s) fun c' => ok (g e' c') fun z => QE z.rv ρ3) (QE (.sh (.bl false)) ρ2) := by
  unfold wp mCh
  rcases m ρ with _ | ⟨r, ρ1⟩ <;> try rfl
  show okP (match n ρ1 with | some (q, ρ2) => _ | none => none) _ = okP (n ρ1) _
  rcases n ρ1 with _ | ⟨q, ρ2⟩ <;> try rfl
  show okP (match peek ρ2 r with | some d => _ | none => none) _ = ok (peek ρ2 r) _
  rcases peek ρ2 r with _ | d <;> try rfl
  show okP (match peek ρ2 q with | some d => _ | none => none) _ = ok (peek ρ2 q) _
  rcases peek ρ2 q with _ | e <;> try rfl
  show okP (match f d e with | some (.sh (.bl true)) => _ | some (.sh (.bl false)) => _ | _ => none) _ = ok (f d e) _
  rcases f d e with _ | z <;> try rfl
  rcases z with z | z <;> try rfl
  rcases z with _ | c | _ | _ | _ | _ | _ | _ | _ <;> try rfl
  cases c
  · show _ = br false _ _
    rw [br_false]; rfl
  show _ = br true _ _
  rw [br_true]
  show okP (match l ρ2 with | some (s, ρ3) => _ | none => none) _ = okP (l ρ2) _
  rcases l ρ2 with _ | ⟨s, ρ3⟩ <;> try rfl
  show okP (match peek ρ3 q with | some d => _ | none => none) _ = ok (peek ρ3 q) _
  rcases peek ρ3 q with _ | e' <;> try rfl
  show okP (match peek ρ3 s with | some d => _ | none => none) _ = ok (peek ρ3 s) _
  rcases peek ρ3 s with _ | c' <;> try rfl
  show okP (match g e' c' with | some d => _ | none => none) _ = ok (g e' c') _
  rcases g e' c' with _ | z <;> rfl
@[simp] theorem w_mNil : wp mNil ρ QA = QA [] ρ := nr rfl
@[simp] theorem w_mCons {m : ME} {l : MA} : wp (mCons m l) ρ QA = wp m ρ fun r ρ1 => wp l ρ1 fun rs ρ2 => QA (r :: rs) ρ2 := by
  unfold wp mCons
  rcases m ρ with _ | ⟨r, ρ1⟩ <;> try rfl
  show okP (match l ρ1 with | some (q, ρ2) => _ | none => none) _ = okP (l ρ1) _
  rcases l ρ1 with _ | ⟨q, ρ2⟩ <;> rfl
@[simp] theorem w_mTup {l : MA} : wp (mTup l) ρ QE = wp l ρ fun rs ρ1 => ok (shrs ρ1 rs) fun p => p.1.length ≤ sizeLine ∧ QE (.sh (.tup p.1)) p.2 := by
  unfold wp mTup
  rcases l ρ with _ | ⟨rs, ρ1⟩ <;> try rfl
  show okP (match shrs ρ1 rs with | some (q, ρ2) => _ | none => none) _ = ok (shrs ρ1 rs) _
  rcases shrs ρ1 rs with _ | ⟨ds, ρ2⟩ <;> try rfl
  show okP (if ds.length ≤ sizeLine then _ else _) _ = (ds.length ≤ sizeLine ∧ _)
  by_cases h : ds.length ≤ sizeLine
  · rw [if_pos h]; simp only [h, true_and]; rfl
  · rw [if_neg h]; simp only [h, false_and]; rfl
@[simp] theorem w_mLst {l : MA} : wp (mLst l) ρ QE = wp l ρ fun rs ρ1 => ok (shrs ρ1 rs) fun p => p.1.length ≤ sizeLine ∧ QE (.ow (.lst p.1)) p.2 := by
  unfold wp mLst
  rcases l ρ with _ | ⟨rs, ρ1⟩ <;> try rfl
  show okP (match shrs ρ1 rs with | some (q, ρ2) => _ | none => none) _ = ok (shrs ρ1 rs) _
  rcases shrs ρ1 rs with _ | ⟨ds, ρ2⟩ <;> try rfl
  show okP (if ds.length ≤ sizeLine then _ else _) _ = (ds.length ≤ sizeLine ∧ _)
  by_cases h : ds.length ≤ sizeLine
  · rw [if_pos h]; simp only [h, true_and]; rfl
  · rw [if_neg h]; simp only [h, false_and]; rfl
@[simp] theorem w_mCB {f : List D → Option Rs} {l : MA} : wp (mCB f l) ρ QE = wp l ρ fun rs ρ1 => ok (peeks ρ1 rs) fun ds => ok (f ds) fun z => QE z.rv ρ1 := by
  unfold wp mCB
  rcases l ρ with _ | ⟨rs, ρ1⟩ <;> try rfl
  show okP (match peeks ρ1 rs with | some d => _ | none => none) _ = ok (peeks ρ1 rs) _
  rcases peeks ρ1 rs with _ | d <;> try rfl
  show okP (match f d with | some z => _ | none => none) _ = ok (f d) _
  rcases f d with _ | z <;> rfl
@[simp] theorem w_mCall {g : MG} {bs : List Bool} {l : MA} : wp (mCall g bs l) ρ QE = wp l ρ fun rs ρ1 => ok (pass ρ1 bs rs) fun p => (slotsOf p.1).Nodup ∧ ok (wsOf p.2 p.1) fun ws => ok (g ws) fun x => QE x.1.rv (back p.2 p.1 x.2) := by
  unfold wp mCall
  rcases l ρ with _ | ⟨rs, ρ1⟩ <;> try rfl
  show okP (match pass ρ1 bs rs with | some (q, ρ2) => _ | none => none) _ = ok (pass ρ1 bs rs) _
  rcases pass ρ1 bs rs with _ | ⟨q, ρ2⟩ <;> try rfl
  show okP (if (slotsOf q).Nodup then _ else _) _ = ((slotsOf q).Nodup ∧ ok (wsOf ρ2 q) _)
  by_cases h : (slotsOf q).Nodup
  · rw [if_pos h]; simp only [h, true_and]
    rcases wsOf ρ2 q with _ | ws <;> try rfl
    show okP (match g ws with | some (r, ws') => _ | none => none) _ = ok (g ws) _
    rcases g ws with _ | ⟨r, ws'⟩ <;> rfl
  · rw [if_neg h]; simp only [h, false_and]; rfl
@[simp] theorem w_mPk {n m : Nat} {is : List Nat} {l k : MA} : wp (mPk n m is l k) ρ QA = wp l ρ fun rs ρ1 => wp k ρ1 fun qs ρ2 => (rs.length = n ∧ qs.length = m) ∧ QA (pk is (rs ++ qs)) ρ2 := by
  unfold wp mPk
  rcases l ρ with _ | ⟨rs, ρ1⟩ <;> try rfl
  show okP (match k ρ1 with | some (q, ρ2) => _ | none => none) _ = okP (k ρ1) _
  rcases k ρ1 with _ | ⟨qs, ρ2⟩ <;> try rfl
  show okP (if rs.length = n ∧ qs.length = m then _ else _) _ = ((rs.length = n ∧ qs.length = m) ∧ _)
  by_cases h : rs.length = n ∧ qs.length = m
  · rw [if_pos h]; simp only [h, and_self, true_and]; rfl
  · rw [if_neg h]; simp only [h, false_and]; rfl
@[simp] theorem w_mMt {T : String} {f : D → List D → Option Rs} {m : ME} {l : MA} : wp (mMt T f m l) ρ QE = wp m ρ fun r ρ1 => ok (peek ρ1 r) fun d0 => tyOk T d0 = true ∧ wp l ρ1 fun rs ρ2 => ok (peek ρ2 r) fun d => ok (peeks ρ2 rs) fun ds => ok (f d ds) fun z => QE z.rv ρ2 := by
  unfold wp mMt
  rcases m ρ with _ | ⟨r, ρ1⟩ <;> try rfl
  show okP (match peek ρ1 r with | some d => _ | none => none) _ = ok (peek ρ1 r) _
  rcases peek ρ1 r with _ | d0 <;> try rfl
  show okP (if tyOk T d0 = true then _ else _) _ = (tyOk T d0 = true ∧ okP (l ρ1) _)
  by_cases h : tyOk T d0 = true
  · rw [if_pos h]; simp only [h, true_and]
    rcases l ρ1 with _ | ⟨rs, ρ2⟩ <;> try rfl
    show okP (match peek ρ2 r with | some d => _ | none => none) _ = ok (peek ρ2 r) _
    rcases peek ρ2 r with _ | d <;> try rfl
    show okP (match peeks ρ2 rs with | some d => _ | none => none) _ = ok (peeks ρ2 rs) _
    rcases peeks ρ2 rs with _ | ds <;> try rfl
    show okP (match f d ds with | some d => _ | none => none) _ = ok (f d ds) _
    rcases f d ds with _ | z <;> rfl
  · rw [if_neg h]
    exact propext ⟨fun x => x.elim, fun x => absurd x.1 h⟩
/-- what a slot owns -/
def owned : Option (Option W) → Option (Bool × D)
  | some (some ⟨true, p, d⟩) => some (p, d)
  | _ => none
@[simp] theorem owned_t (p : Bool) (d : D) : owned (some (some ⟨true, p, d⟩)) = some (p, d) := rfl
@[simp] theorem w_mMm {T : String} {f : D → List D → Option (D × D)} {i : Nat} {l : MA} : wp (mMm T f i l) ρ QE = ok (owned ρ[i]?) fun x => tyOk T x.2 = true ∧ wp l ρ fun rs ρ1 => ok (shrs ρ1 rs) fun p => ok (owned p.2[i]?) fun y => ok (f y.2 p.1) fun z => QE (.sh z.1) (p.2.set i (some ⟨true, y.1, z.2⟩)) := by
  unfold wp mMm
  rcases ρ[i]? with _ | _ | ⟨o, p, d0⟩ <;> try rfl
  cases o <;> try rfl
  show okP (if tyOk T d0 = true then _ else _) _ = (tyOk T d0 = true ∧ okP (l ρ) _)
  by_cases h : tyOk T d0 = true
  · rw [if_pos h]; simp only [h, true_and]
    rcases l ρ with _ | ⟨rs, ρ1⟩ <;> try rfl
    show okP (match shrs ρ1 rs with | some (q, ρ2) => _ | none => none) _ = ok (shrs ρ1 rs) _
    rcases shrs ρ1 rs with _ | ⟨ds, ρ2⟩ <;> try rfl
    show okP (match ρ2[i]? with | some (some ⟨true, p, d⟩) => _ | _ => none) _ = ok (owned ρ2[i]?) _
    rcases ρ2[i]? with _ | _ | ⟨o, p, d⟩ <;> try rfl
    cases o <;> try rfl
    show okP (match f d ds with | some (z, d') => _ | none => none) _ = ok (f d ds) _
    rcases f d ds with _ | ⟨z, d'⟩ <;> rfl
  · rw [if_neg h]
    exact propext ⟨fun x => x.elim, fun x => absurd x.1 h⟩
@[simp] theorem w_oNo : wp oNo ρ QO = QO none ρ := nr rfl
/-- an int in hand -/
def rvI : Rv → Option Int
  | .sh (.int i) => some i
  | _ => none
@[simp] theorem rvI_i (i : Int) : rvI (.sh (.int i)) = some i := rfl
@[simp] theorem w_oSo {m : ME} : wp (oSo m) ρ QO = wp m ρ fun r ρ1 => ok (rvI r) fun i => QO (some i) ρ1 := by
  unfold wp oSo
  rcases m ρ with _ | ⟨r, ρ1⟩ <;> try rfl
  rcases r with d | d | i <;> try rfl
  cases d <;> rfl
@[simp] theorem w_mSl {m : ME} {lo hi : MO} : wp (mSl m lo hi) ρ QE = wp m ρ fun r ρ1 => wp lo ρ1 fun a ρ2 => wp hi ρ2 fun b ρ3 => ok (peek ρ3 r) fun d => ok (slD d a b) fun z => QE z.rv ρ3 := by
  unfold wp mSl
  rcases m ρ with _ | ⟨r, ρ1⟩ <;> try rfl
  show okP (match lo ρ1 with | some (q, ρ2) => _ | none => none) _ = okP (lo ρ1) _
  rcases lo ρ1 with _ | ⟨a, ρ2⟩ <;> try rfl
  show okP (match hi ρ2 with | some (q, ρ2) => _ | none => none) _ = okP (hi ρ2) _
  rcases hi ρ2 with _ | ⟨b, ρ3⟩ <;> try rfl
  show okP (match peek ρ3 r with | some d => _ | none => none) _ = ok (peek ρ3 r) _
  rcases peek ρ3 r with _ | d <;> try rfl
  show okP (match slD d a b with | some d => _ | none => none) _ = ok (slD d a b) _
  rcases slD d a b with _ | z <;> rfl
@[simp] theorem w_mDnew : wp mDnew ρ QE = QE (.ow (.dic [])) ρ := nr rfl
/-- pairs, one by one -/
def mPrs (l : List (ME × ME)) : En → Option (List (Key × D) × En) := fun ρ => prs ρ l
@[simp] theorem w_mDisp {l : List (ME × ME)} : wp (mDisp l) ρ QE = wp (mPrs l) ρ fun kds ρ1 => kds.length ≤ 15 ∧ QE (.ow (.dic (mergeD [] kds))) ρ1 := by
  unfold wp mDisp
  show okP (match prs ρ l with | some (q, ρ2) => _ | none => none) _ = okP (prs ρ l) _
  rcases prs ρ l with _ | ⟨kds, ρ1⟩ <;> try rfl
  show okP (if kds.length ≤ 15 then _ else _) _ = (kds.length ≤ 15 ∧ _)
  by_cases h : kds.length ≤ 15
  · rw [if_pos h]; simp only [h, true_and]; rfl
  · rw [if_neg h]; simp only [h, false_and]; rfl
@[simp] theorem w_prs_nil {Q : List (Key × D) → En → Prop} : wp (mPrs []) ρ Q = Q [] ρ := nr rfl
@[simp] theorem w_prs_cons {Q : List (Key × D) → En → Prop} {a b : ME} {l : List (ME × ME)} : wp (mPrs ((a, b) :: l)) ρ Q = wp a ρ fun r ρ1 => ok (peek ρ1 r) fun kd => ok (keyD kd) fun k => wp b ρ1 fun q ρ2 => ok (shr ρ2 q) fun x => wp (mPrs l) x.2 fun kds ρ4 => Q ((k, x.1) :: kds) ρ4 := by
  unfold wp
  show okP (match a ρ with | some (q, ρ2) => _ | none => none) _ = okP (a ρ) _
  rcases a ρ with _ | ⟨r, ρ1⟩ <;> try rfl
  show okP (match peek ρ1 r with | some d => _ | none => none) _ = ok (peek ρ1 r) _
  rcases peek ρ1 r with _ | kd <;> try rfl
  show okP (match keyD kd with | some d => _ | none => none) _ = ok (keyD kd) _
  rcases keyD kd with _ | k <;> try rfl
  show okP (match b ρ1 with | some (q, ρ2) => _ | none => none) _ = okP (b ρ1) _
  rcases b ρ1 with _ | ⟨q, ρ2⟩ <;> try rfl
  show okP (match shr ρ2 q with | some (q, ρ2) => _ | none => none) _ = ok (shr ρ2 q) _
  rcases shr ρ2 q with _ | ⟨d, ρ3⟩ <;> try rfl
  show okP (match prs ρ3 l with | some (q, ρ2) => _ | none => none) _ = okP (prs ρ3 l) _
  rcases prs ρ3 l with _ | ⟨kds, ρ4⟩ <;> rfl
@[simp] theorem w_mLc {mi : MI} {tg : D → En → Option En} {tt : MT} {te : ME} {vs : List Nat} : wp (mLc mi tg tt te vs) ρ QE = wp mi ρ fun ds ρ1 => wp (lcL tg tt te vs ds []) (wipeR ρ1 vs) fun acc ρ2 => QE (.ow (.lst acc)) (resto ρ1 ρ2 vs) := by
  unfold wp mLc
  rcases mi ρ with _ | ⟨ds, ρ1⟩ <;> try rfl
  show okP (match lcL tg tt te vs ds [] (wipeR ρ1 vs) with | some (q, ρ2) => _ | none => none) _ = okP (lcL tg tt te vs ds [] (wipeR ρ1 vs)) _
  rcases lcL tg tt te vs ds [] (wipeR ρ1 vs) with _ | ⟨acc, ρ2⟩ <;> rfl
/-! statements -/
@[simp] theorem w_sNx : wp sNx ρ QS = QS .nx ρ := nr rfl
@[simp] theorem w_sBk : wp sBk ρ QS = QS .bk ρ := nr rfl
@[simp] theorem w_sCt : wp sCt ρ QS = QS .ct ρ := nr rfl
@[simp] theorem w_sRetN : wp sRetN ρ QS = QS (.rt (.sh .non)) ρ := nr rfl
/-- what comes next -/
def nxt (o : Out) (P : Prop) (Q : Prop) (t : Tg P := ()) (u : Tg Q := ()) : Prop := match o with
  | .nx => P
  | _ => Q
@[simp] theorem nxt_nx {P Q : Prop} : nxt .nx P Q = P := nr rfl
@[simp] theorem nxt_bk {P Q : Prop} : nxt .bk P Q = Q := nr rfl
@[simp] theorem nxt_ct {P Q : Prop} : nxt .ct P Q = Q := nr rfl
@[simp] theorem nxt_rt {P Q : Prop} {r : Rv} : nxt (.rt r) P Q = Q := nr rfl
@[simp] theorem w_sSeq {a b : MS} : wp (sSeq a b) ρ QS = wp a ρ fun o ρ1 => nxt o (wp b ρ1 QS) (QS o ρ1) := by
  unfold wp sSeq
  rcases a ρ with _ | ⟨o, ρ1⟩ <;> try rfl
  cases o <;> rfl
@[simp] theorem w_sDrop {m : ME} : wp (sDrop m) ρ QS = wp m ρ fun _ ρ1 => QS .nx ρ1 := by
  unfold wp sDrop
  rcases m ρ with _ | ⟨o, ρ1⟩ <;> rfl
@[simp] theorem w_sRet {m : ME} : wp (sRet m) ρ QS = wp m ρ fun r ρ1 => QS (.rt r) ρ1 := by
  unfold wp sRet
  rcases m ρ with _ | ⟨o, ρ1⟩ <;> rfl
@[simp] theorem w_sIf {t : MT} {a b : MS} : wp (sIf t a b) ρ QS = wp t ρ fun c ρ1 => ev ρ1 fun ρ2 => br c (wp a ρ2 QS) (wp b ρ2 QS) := by
  unfold wp sIf
  rcases t ρ with _ | ⟨c, ρ1⟩ <;> try rfl
  cases c <;> simp [okP, ev]
@[simp] theorem w_mSet {i : Nat} {m : ME} : wp (mSet i m) ρ QS = wp m ρ fun r ρ1 => ok (bindR ρ1 r) fun p => ok (setW i p.1 p.2) fun ρ3 => QS .nx ρ3 := by
  unfold wp mSet
  rcases m ρ with _ | ⟨r, ρ1⟩ <;> try rfl
  show okP (match bindR ρ1 r with | some (q, ρ2) => _ | none => none) _ = ok (bindR ρ1 r) _
  rcases bindR ρ1 r with _ | ⟨w, ρ2⟩ <;> try rfl
  show okP (match setW i w ρ2 with | some d => _ | none => none) _ = ok (setW i w ρ2) _
  rcases setW i w ρ2 with _ | z <;> rfl
@[simp] theorem w_mPar {is : List Nat} {l : MA} : wp (mPar is l) ρ QS = wp l ρ fun rs ρ1 => ok (bindRs ρ1 rs) fun p => ok (setWs is p.1 p.2) fun ρ3 => QS .nx ρ3 := by
  unfold wp mPar
  rcases l ρ with _ | ⟨r, ρ1⟩ <;> try rfl
  show okP (match bindRs ρ1 r with | some (q, ρ2) => _ | none => none) _ = ok (bindRs ρ1 r) _
  rcases bindRs ρ1 r with _ | ⟨w, ρ2⟩ <;> try rfl
  show okP (match setWs is w ρ2 with | some d => _ | none => none) _ = ok (setWs is w ρ2) _
  rcases setWs is w ρ2 with _ | z <;> rfl
@[simp] theorem w_mUnp {tg : D → En → Option En} {m : ME} : wp (mUnp tg m) ρ QS = wp m ρ fun r ρ1 => ok (shr ρ1 r) fun p => ok (tg p.1 p.2) fun ρ3 => QS .nx ρ3 := by
  unfold wp mUnp
  rcases m ρ with _ | ⟨r, ρ1⟩ <;> try rfl
  show okP (match shr ρ1 r with | some (q, ρ2) => _ | none => none) _ = ok (shr ρ1 r) _
  rcases shr ρ1 r with _ | ⟨w, ρ2⟩ <;> try rfl
  show okP (match tg w ρ2 with | some d => _ | none => none) _ = ok (tg w ρ2) _
  rcases tg w ρ2 with _ | z <;> rfl
@[simp] theorem w_mSto {i : Nat} {m mi : ME} : wp (mSto i m mi) ρ QS = wp m ρ fun r ρ1 => ok (shr ρ1 r) fun p => ok (owned p.2[i]?) fun _ => wp mi p.2 fun q ρ3 => ok (peek ρ3 q) fun k => ok (owned ρ3[i]?) fun x => ok (stL x.2 k p.1) fun d' => QS .nx (ρ3.set i (some ⟨true, x.1, d'⟩)) := by
  unfold wp mSto
  rcases m ρ with _ | ⟨r, ρ1⟩ <;> try rfl
  show okP (match shr ρ1 r with | some (q, ρ2) => _ | none => none) _ = ok (shr ρ1 r) _
  rcases shr ρ1 r with _ | ⟨y, ρ2⟩ <;> try rfl
  show okP (match ρ2[i]? with | some (some ⟨true, _, _⟩) => _ | _ => none) _ = ok (owned ρ2[i]?) _
  rcases ρ2[i]? with _ | _ | ⟨o, p, d⟩ <;> try rfl
  cases o <;> try rfl
  show okP (match mi ρ2 with | some (q, ρ2) => _ | none => none) _ = okP (mi ρ2) _
  rcases mi ρ2 with _ | ⟨q, ρ3⟩ <;> try rfl
  show okP (match peek ρ3 q with | some d => _ | none => none) _ = ok (peek ρ3 q) _
  rcases peek ρ3 q with _ | k <;> try rfl
  show okP (match ρ3[i]? with | some (some ⟨true, p, d⟩) => _ | _ => none) _ = ok (owned ρ3[i]?) _
  rcases ρ3[i]? with _ | _ | ⟨o, p, d⟩ <;> try rfl
  cases o <;> try rfl
  show okP (match stL d k y with | some d => _ | none => none) _ = ok (stL d k y) _
  rcases stL d k y with _ | z <;> rfl
/-- what a slot shares -/
def shared : Option (Option W) → Option D
  | some (some ⟨false, _, d⟩) => some d
  | _ => none
@[simp] theorem shared_f (p : Bool) (d : D) : shared (some (some ⟨false, p, d⟩)) = some d := rfl
def rsS : Rs → Option D
  | .sh d => some d
  | _ => none
@[simp] theorem rsS_s (d : D) : rsS (.sh d) = some d := rfl
@[simp] theorem w_mAug {i : Nat} {f : D → D → Option Rs} {m : ME} : wp (mAug i f m) ρ QS = ok (shared ρ[i]?) fun d => wp m ρ fun r ρ1 => ok (peek ρ1 r) fun e => ok (f d e) fun z => ok (rsS z) fun y => ok (setW i (sw y) ρ1) fun ρ2 => QS .nx ρ2 := by
  unfold wp mAug
  rcases ρ[i]? with _ | _ | ⟨o, p, d⟩ <;> try rfl
  cases o <;> try rfl
  show okP (match m ρ with | some (q, ρ2) => _ | none => none) _ = okP (m ρ) _
  rcases m ρ with _ | ⟨r, ρ1⟩ <;> try rfl
  show okP (match peek ρ1 r with | some d => _ | none => none) _ = ok (peek ρ1 r) _
  rcases peek ρ1 r with _ | e <;> try rfl
  show okP (match f d e with | some (.sh z) => _ | _ => none) _ = ok (f d e) _
  rcases f d e with _ | z <;> try rfl
  rcases z with z | z <;> try rfl
  show okP (match setW i (sw z) ρ1 with | some d => _ | none => none) _ = ok (setW i (sw z) ρ1) _
  rcases setW i (sw z) ρ1 with _ | z <;> rfl
/-! what is gone through -/
@[simp] theorem w_mFor {mi : MI} {tg : D → En → Option En} {b : MS} : wp (mFor mi tg b) ρ QS = wp mi ρ fun ds ρ1 => wp (forL tg b ds) ρ1 QS := by
  unfold wp mFor
  rcases mi ρ with _ | ⟨ds, ρ1⟩ <;> rfl
@[simp] theorem w_mForD {wk : Wk} {i : Nat} {tg : D → En → Option En} {b : MS} : wp (mForD wk i tg b) ρ QS = wp (mFor (mDs wk i) tg b) ρ QS := nr rfl
def itD : D → Option (List D)
  | .lst ds => some ds
  | .frl ds => some ds
  | .tup ds => some ds
  | .str x => some (x.cps.toList.map fun c => .str ⟨#[c]⟩)
  | _ => none
@[simp] theorem itD_l (ds : List D) : itD (.lst ds) = some ds := rfl
@[simp] theorem itD_f (ds : List D) : itD (.frl ds) = some ds := rfl
@[simp] theorem itD_t (ds : List D) : itD (.tup ds) = some ds := rfl
@[simp] theorem itD_s (x : Str) : itD (.str x) = some (x.cps.toList.map fun c => .str ⟨#[c]⟩) := rfl
@[simp] theorem w_iSh {m : ME} : wp (iSh m) ρ QI = wp m ρ fun r ρ1 => ok (shr ρ1 r) fun p => ok (itD p.1) fun ds => QI ds p.2 := by
  unfold wp iSh
  rcases m ρ with _ | ⟨r, ρ1⟩ <;> try rfl
  show okP (match shr ρ1 r with | some (.lst ds, ρ2) => _ | some (.frl ds, ρ2) => _ | some (.tup ds, ρ2) => _ | some (.str x, ρ2) => _ | _ => none) _ = ok (shr ρ1 r) _
  rcases shr ρ1 r with _ | ⟨d, ρ2⟩ <;> try rfl
  cases d <;> rfl
def int1 : List D → Option Int
  | [.int j] => some j
  | _ => none
@[simp] theorem int1_i (j : Int) : int1 [.int j] = some j := rfl
@[simp] theorem w_iR1 {l : MA} : wp (iR1 l) ρ QI = wp l ρ fun rs ρ1 => ok (peeks ρ1 rs) fun ds => ok (int1 ds) fun j => big (-(2 ^ 62) ≤ j ∧ j < 2 ^ 62) ∧ QI (dRange 0 j.toNat) ρ1 := by
  unfold wp iR1
  rcases l ρ with _ | ⟨rs, ρ1⟩ <;> try rfl
  show okP (match peeks ρ1 rs with | some [.int j] => _ | _ => none) _ = ok (peeks ρ1 rs) _
  rcases peeks ρ1 rs with _ | _ | ⟨d, _ | ⟨_, _⟩⟩ <;> try rfl
  · cases d <;> try rfl
    rename_i j
    show okP (if big (-(2 ^ 62) ≤ j ∧ j < 2 ^ 62) then _ else _) _ = (big (-(2 ^ 62) ≤ j ∧ j < 2 ^ 62) ∧ _)
    by_cases h : big (-(2 ^ 62) ≤ j ∧ j < 2 ^ 62)
    · rw [if_pos h]; simp only [h, true_and]; rfl
    · rw [if_neg h]; simp only [h, false_and]; rfl
  · cases d <;> rfl
def int2 : List D → Option (Int × Int)
  | [.int i, .int j] => some (i, j)
  | _ => none
@[simp] theorem int2_i (i j : Int) : int2 [.int i, .int j] = some (i, j) := rfl
@[simp] theorem w_iR2 {l : MA} : wp (iR2 l) ρ QI = wp l ρ fun rs ρ1 => ok (peeks ρ1 rs) fun ds => ok (int2 ds) fun p => big (-(2 ^ 62) ≤ p.1 ∧ p.1 < 2 ^ 62 ∧ -(2 ^ 62) ≤ p.2 ∧ p.2 < 2 ^ 62) ∧ QI (dRange p.1 (p.2 - p.1).toNat) ρ1 := by
  unfold wp iR2
  rcases l ρ with _ | ⟨rs, ρ1⟩ <;> try rfl
  show okP (match peeks ρ1 rs with | some [.int i, .int j] => _ | _ => none) _ = ok (peeks ρ1 rs) _
  rcases peeks ρ1 rs with _ | _ | ⟨d, _ | ⟨e, _ | ⟨_, _⟩⟩⟩ <;> try rfl
  · cases d <;> rfl
  · cases d <;> try rfl
    cases e <;> try rfl
    rename_i i j
    show okP (if big (-(2 ^ 62) ≤ i ∧ i < 2 ^ 62 ∧ -(2 ^ 62) ≤ j ∧ j < 2 ^ 62) then _ else _) _ = (big (-(2 ^ 62) ≤ i ∧ i < 2 ^ 62 ∧ -(2 ^ 62) ≤ j ∧ j < 2 ^ 62) ∧ _)
    by_cases h : big (-(2 ^ 62) ≤ i ∧ i < 2 ^ 62 ∧ -(2 ^ 62) ≤ j ∧ j < 2 ^ 62)
    · rw [if_pos h]; simp only [h, true_and]; rfl
    · rw [if_neg h]; simp only [h, false_and]; rfl
  · cases d <;> try rfl
    cases e <;> rfl
def lst1 : List D → Option (List D)
  | [.lst ds] => some ds
  | _ => none
@[simp] theorem lst1_l (ds : List D) : lst1 [.lst ds] = some ds := rfl
@[simp] theorem w_iEn {l : MA} : wp (iEn l) ρ QI = wp l ρ fun rs ρ1 => ok (shrs ρ1 rs) fun p => ok (lst1 p.1) fun ds => QI (dEnum 0 ds) p.2 := by
  unfold wp iEn
  rcases l ρ with _ | ⟨rs, ρ1⟩ <;> try rfl
  show okP (match shrs ρ1 rs with | some ([.lst ds], ρ2) => _ | _ => none) _ = ok (shrs ρ1 rs) _
  rcases shrs ρ1 rs with _ | ⟨_ | ⟨d, _ | ⟨_, _⟩⟩, ρ2⟩ <;> try rfl
  · cases d <;> rfl
  · cases d <;> rfl
def dat2 : List D → Option (D × D)
  | [d, e] => some (d, e)
  | _ => none
@[simp] theorem dat2_de (d e : D) : dat2 [d, e] = some (d, e) := rfl
@[simp] theorem w_iZa {l : MA} : wp (iZa l) ρ QI = wp l ρ fun rs ρ1 => ok (shrs ρ1 rs) fun p => ok (dat2 p.1) fun x => ok (zpD x.1 x.2) fun zs => QI zs p.2 := by
  unfold wp iZa
  rcases l ρ with _ | ⟨rs, ρ1⟩ <;> try rfl
  show okP (match shrs ρ1 rs with | some ([d, e], ρ2) => _ | _ => none) _ = ok (shrs ρ1 rs) _
  rcases shrs ρ1 rs with _ | ⟨_ | ⟨d, _ | ⟨e, _ | ⟨_, _⟩⟩⟩, ρ2⟩ <;> try rfl
  show okP (match zpD d e with | some d => _ | none => none) _ = ok (zpD d e) _
  rcases zpD d e with _ | z <;> rfl
def dic0 : Option D → Option (List (Key × D))
  | some (.dic kds) => some kds
  | _ => none
@[simp] theorem dic0_d (kds : List (Key × D)) : dic0 (some (.dic kds)) = some kds := rfl
@[simp] theorem w_mDs {wk : Wk} {i : Nat} : wp (mDs wk i) ρ QI = ok (dic0 (shared ρ[i]?)) fun kds => QI (wkD wk kds) ρ := by
  unfold wp mDs
  rcases ρ[i]? with _ | _ | ⟨o, p, d⟩ <;> try rfl
  cases o <;> try rfl
  cases d <;> rfl
/-! a def -/
/-- a def's end -/
def okG (ws : List W) (o : Out) (ρ : En) (Q : Rs × List W → Prop) : Prop := match o with
  | .rt r => ok (fin ws ρ r) Q
  | .nx => Q (.sh .non, wsB ws ρ)
  | _ => False
@[simp] theorem okG_rt {ws : List W} {r : Rv} {Q : Rs × List W → Prop} : okG ws (.rt r) ρ Q = ok (fin ws ρ r) Q := nr rfl
@[simp] theorem okG_nx {ws : List W} {Q : Rs × List W → Prop} : okG ws .nx ρ Q = Q (.sh .non, wsB ws ρ) := nr rfl
theorem w_gOf {N : Nat} {m : MS} {ws : List W} {Q : Rs × List W → Prop} : ok (gOf N m ws) Q = wp m (ww ws ++ List.replicate (N - ws.length) none) fun o ρ => okG ws o ρ Q := by
  unfold wp
  show ok (match m (ww ws ++ List.replicate (N - ws.length) none) with | some (.rt r, ρ) => _ | some (.nx, ρ) => _ | _ => none) _ = okP (m (ww ws ++ List.replicate (N - ws.length) none)) _
  rcases m (ww ws ++ List.replicate (N - ws.length) none) with _ | ⟨o, ρ⟩ <;> try rfl
  cases o <;> rfl
end
end
end Mi
set_option Elab.async false
set_option linter.all false
set_option maxRecDepth 100000
set_option maxHeartbeats 1000000
set_option autoImplicit false
namespace Mi
noncomputable section
open PySem PySem.Spec PyProof.Rows L2
section
variable {ρ : En} {QE : Rv → En → Prop} {QS : Out → En → Prop}
/-- behind a turn -/
def lpE (o : Out) (I : Prop) (B : Prop) (R : Rv → Prop) (t : Tg I := ()) (u : Tg B := ()) (v : Tg R := ()) : Prop := match o with
  | .nx => I
  | .ct => I
  | .bk => B
  | .rt r => R r
@[simp] theorem lpE_nx {I B : Prop} {R : Rv → Prop} : lpE .nx I B R = I := nr rfl
@[simp] theorem lpE_ct {I B : Prop} {R : Rv → Prop} : lpE .ct I B R = I := nr rfl
@[simp] theorem lpE_bk {I B : Prop} {R : Rv → Prop} : lpE .bk I B R = B := nr rfl
@[simp] theorem lpE_rt {I B : Prop} {R : Rv → Prop} {r : Rv} : lpE (.rt r) I B R = R r := nr rfl
@[simp] theorem fo_nil {tg : D → En → Option En} {b : MS} : wp (forL tg b []) ρ QS = QS .nx ρ := nr rfl
@[simp] theorem fo_cons {tg : D → En → Option En} {b : MS} {d : D} {ds : List D} : wp (forL tg b (d :: ds)) ρ QS = ok (tg d ρ) fun ρ1 => wp b ρ1 fun o ρ2 => lpE o (wp (forL tg b ds) ρ2 QS) (QS .nx ρ2) fun r => QS (.rt r) ρ2 := by
  unfold wp
  show okP (match tg d ρ with | some ρ1 => _ | none => none) _ = ok (tg d ρ) _
  rcases tg d ρ with _ | ρ1 <;> try rfl
  show okP (match b ρ1 with | some (.nx, ρ2) => _ | some (.ct, ρ2) => _ | some (.bk, ρ2) => _ | some (.rt r, ρ2) => _ | none => none) _ = okP (b ρ1) _
  rcases b ρ1 with _ | ⟨o, ρ2⟩ <;> try rfl
  cases o <;> rfl
theorem fo_inv {tg : D → En → Option En} {b : MS} (I : List D → En → Prop) {ds : List D} (h0 : I ds ρ)
    (step : ∀ d ds ρ, I (d :: ds) ρ → ok (tg d ρ) fun ρ1 => wp b ρ1 fun o ρ2 => lpE o (I ds ρ2) (QS .nx ρ2) fun r => QS (.rt r) ρ2) (done : ∀ ρ, I [] ρ → QS .nx ρ) : wp (forL tg b ds) ρ QS := by
  induction ds generalizing ρ with
  | nil => exact done ρ h0
  | cons d ds ih =>
    rw [fo_cons]
    refine ok_mono (step d ds ρ h0) fun ρ1 h => wp_mono h fun o ρ2 h => ?_
    cases o with
    | nx => exact ih h
    | ct => exact ih h
    | bk => exact h
    | rt r => exact h
/-- by turns that are left -/
theorem fo_n {tg : D → En → Option En} {b : MS} (J : Nat → En → Prop) {ds : List D} (h0 : J ds.length ρ)
    (step : ∀ d n ρ, d ∈ ds → J (n + 1) ρ → ok (tg d ρ) fun ρ1 => wp b ρ1 fun o ρ2 => lpE o (J n ρ2) (QS .nx ρ2) fun r => QS (.rt r) ρ2) (done : ∀ ρ, J 0 ρ → QS .nx ρ) : wp (forL tg b ds) ρ QS :=
  fo_inv (fun es ρ => (∀ d ∈ es, d ∈ ds) ∧ J es.length ρ) ⟨fun _ h => h, h0⟩ (fun d es ρ h => by
    refine ok_mono (step d es.length ρ (h.1 d (by simp)) (by simpa using h.2)) fun ρ1 q => wp_mono q fun o ρ2 q => ?_
    cases o with
    | nx => exact ⟨fun e he => h.1 e (by simp [he]), q⟩
    | ct => exact ⟨fun e he => h.1 e (by simp [he]), q⟩
    | bk => exact q
    | rt r => exact q) fun ρ h => done ρ h.2
section
variable {tg : D → En → Option En} {tt : MT} {te : ME} {vs : List Nat} {Q : List D → En → Prop}
@[simp] theorem lc_nil {acc : List D} : wp (lcL tg tt te vs [] acc) ρ Q = Q acc ρ := nr rfl
@[simp] theorem lc_cons {acc : List D} {d : D} {ds : List D} : wp (lcL tg tt te vs (d :: ds) acc) ρ Q = ok (tg d ρ) fun ρ1 => wp tt ρ1 fun c ρ2 =>
    ev ρ2 fun ρ2 => br c (wp te ρ2 fun r ρ3 => ok (shr ρ3 r) fun p => acc.length < sizeLine ∧ wp (lcL tg tt te vs ds (acc ++ [p.1])) (wipeR p.2 vs) Q) (wp (lcL tg tt te vs ds acc) (wipeR ρ2 vs) Q) := by
  unfold wp
  show okP (match tg d ρ with | some ρ1 => _ | none => none) _ = ok (tg d ρ) _
  rcases tg d ρ with _ | ρ1 <;> try rfl
  show okP (match tt ρ1 with | some (true, ρ2) => _ | some (false, ρ2) => _ | none => none) _ = okP (tt ρ1) _
  rcases tt ρ1 with _ | ⟨c, ρ2⟩ <;> try rfl
  cases c
  · show _ = br false _ _
    rw [br_false]
  show _ = br true _ _
  rw [br_true]
  show okP (match te ρ2 with | some (r, ρ3) => _ | none => none) _ = okP (te ρ2) _
  rcases te ρ2 with _ | ⟨r, ρ3⟩ <;> try rfl
  show okP (match shr ρ3 r with | some (y, ρ4) => _ | none => none) _ = ok (shr ρ3 r) _
  rcases shr ρ3 r with _ | ⟨y, ρ4⟩ <;> try rfl
  show okP (if acc.length < sizeLine then _ else _) _ = (acc.length < sizeLine ∧ okP _ _)
  by_cases h : acc.length < sizeLine
  · rw [if_pos h]; simp only [h, true_and]
  · rw [if_neg h]; simp only [h, false_and]; rfl
theorem lc_inv (I : List D → List D → En → Prop) {ds acc : List D} (h0 : I ds acc ρ)
    (step : ∀ d ds acc ρ, I (d :: ds) acc ρ → ok (tg d ρ) fun ρ1 => wp tt ρ1 fun c ρ2 => br c (wp te ρ2 fun r ρ3 => ok (shr ρ3 r) fun p => acc.length < sizeLine ∧ I ds (acc ++ [p.1]) (wipeR p.2 vs)) (I ds acc (wipeR ρ2 vs)))
    (done : ∀ acc ρ, I [] acc ρ → Q acc ρ) : wp (lcL tg tt te vs ds acc) ρ Q := by
  induction ds generalizing ρ acc with
  | nil => exact done acc ρ h0
  | cons d ds ih =>
    rw [lc_cons]
    refine ok_mono (step d ds acc ρ h0) fun ρ1 h => wp_mono h fun c ρ2 h => ⟨fun e => wp_mono (h.1 e) fun r ρ3 h => ok_mono h fun p h => ⟨h.1, ih h.2⟩, fun e => ih (h.2 e)⟩
/-- each one kept; by turns that are left -/
theorem lc_n (J : Nat → En → Prop) (P : D → Prop) {ds : List D} (hl : ds.length < 16777216) (h0 : J ds.length ρ)
    (step : ∀ d n ρ, d ∈ ds → J (n + 1) ρ → ok (tg d ρ) fun ρ1 => wp tt ρ1 fun c ρ2 => c = true ∧ wp te ρ2 fun r ρ3 => ok (shr ρ3 r) fun p => P p.1 ∧ J n (wipeR p.2 vs))
    (done : ∀ acc ρ, acc.length = ds.length → (∀ x ∈ acc, P x) → J 0 ρ → Q acc ρ) : wp (lcL tg tt te vs ds []) ρ Q :=
  lc_inv (fun es acc ρ => (∀ d ∈ es, d ∈ ds) ∧ acc.length + es.length = ds.length ∧ (∀ x ∈ acc, P x) ∧ J es.length ρ) ⟨fun _ h => h, by simp, by simp, h0⟩ (fun d es acc ρ h => by
    obtain ⟨h1, h2, h3, h4⟩ := h
    have hz : sizeLine = 16777216 := sz_line
    refine ok_mono (step d es.length ρ (h1 d (by simp)) (by simpa using h4)) fun ρ1 q => wp_mono q fun c ρ2 q => ?_
    obtain ⟨rfl, q⟩ := q
    rw [br_true]
    refine wp_mono q fun r ρ3 q => ok_mono q fun p q => ⟨by simp at h2; omega, fun e he => h1 e (by simp [he]), by simp at h2 ⊢; omega, fun x hx => ?_, q.2⟩
    rcases List.mem_append.mp hx with hx | hx
    · exact h3 x hx
    · simp at hx; subst hx; exact q.1) fun acc ρ h => done acc ρ (by simpa using h.2.1) h.2.2.1 h.2.2.2
/-- each one mapped, nothing changed -/
theorem lc_map (f : D → D) {ds : List D} (hl : ds.length < 16777216)
    (step : ∀ d, d ∈ ds → ok (tg d ρ) fun ρ1 => wp tt ρ1 fun c ρ2 => c = true ∧ wp te ρ2 fun r ρ3 => ok (shr ρ3 r) fun p => p.1 = f d ∧ wipeR p.2 vs = ρ)
    (done : Q (ds.map f) ρ) : wp (lcL tg tt te vs ds []) ρ Q :=
  lc_inv (fun es acc ρ' => ρ' = ρ ∧ (∀ d ∈ es, d ∈ ds) ∧ acc ++ es.map f = ds.map f) ⟨rfl, fun _ h => h, by simp⟩ (fun d es acc ρ' h => by
    obtain ⟨rfl, h1, h2⟩ := h
    have hz : sizeLine = 16777216 := sz_line
    have h3 := congrArg List.length h2
    refine ok_mono (step d (h1 d (by simp))) fun ρ1 q => wp_mono q fun c ρ2 q => ?_
    obtain ⟨rfl, q⟩ := q
    rw [br_true]
    refine wp_mono q fun r ρ3 q => ok_mono q fun p q => ⟨by simp at h3; omega, q.2, fun e he => h1 e (by simp [he]), ?_⟩
    rw [q.1]; simpa using h2) fun acc ρ' h => by
      obtain ⟨rfl, _, h2⟩ := h
      simp at h2
      rw [h2]; exact done
/-- some kept and mapped, nothing changed -/
theorem lc_fm (c : D → Bool) (f : D → D) {ds : List D} (hl : ds.length < 16777216)
    (step : ∀ d, d ∈ ds → ok (tg d ρ) fun ρ1 => wp tt ρ1 fun b ρ2 => b = c d ∧ br b (wp te ρ2 fun r ρ3 => ok (shr ρ3 r) fun p => p.1 = f d ∧ wipeR p.2 vs = ρ) (wipeR ρ2 vs = ρ))
    (done : Q ((ds.filter c).map f) ρ) : wp (lcL tg tt te vs ds []) ρ Q :=
  lc_inv (fun es acc ρ' => ρ' = ρ ∧ (∀ d ∈ es, d ∈ ds) ∧ acc.length + es.length ≤ ds.length ∧ acc ++ (es.filter c).map f = (ds.filter c).map f) ⟨rfl, fun _ h => h, by simp, by simp⟩ (fun d es acc ρ' h => by
    obtain ⟨rfl, h1, h4, h2⟩ := h
    have hz : sizeLine = 16777216 := sz_line
    refine ok_mono (step d (h1 d (by simp))) fun ρ1 q => wp_mono q fun b ρ2 q => ?_
    obtain ⟨rfl, q⟩ := q
    refine ⟨fun e => ?_, fun e => ⟨q.2 e, fun e he => h1 e (by simp [he]), by simp at h4; omega, by simpa [e] using h2⟩⟩
    refine wp_mono (q.1 e) fun r ρ3 q => ok_mono q fun p q => ⟨by simp at h4; omega, q.2, fun e he => h1 e (by simp [he]), by simp at h4 ⊢; omega, ?_⟩
    rw [q.1]; simpa [e] using h2) fun acc ρ' h => by
      obtain ⟨rfl, _, _, h2⟩ := h
      simp at h2
      rw [h2]; exact done
end
/-- a while, by a measure -/
theorem wh_inv {t : MT} {b : MS} (I : Nat → En → Prop) : ∀ (n : Nat) (ρ : En), I n ρ →
    (∀ n ρ, I n ρ → wp t ρ fun c ρ1 => br c (wp b ρ1 fun o ρ2 => lpE o (∃ k, k < n ∧ I k ρ2) (QS .nx ρ2) fun r => QS (.rt r) ρ2) (QS .nx ρ1)) → ∀ m, n < m → wp (whL t b m) ρ QS
  | n, ρ, h, step, 0, hm => absurd hm (Nat.not_lt_zero _)
  | n, ρ, h, step, m + 1, hm => by
    have q := step n ρ h
    unfold wp at q ⊢
    show okP (match t ρ with | some (false, ρ1) => _ | some (true, ρ1) => _ | none => none) _
    rcases e : t ρ with _ | ⟨c, ρ1⟩
    · rw [e] at q; exact q.elim
    rw [e] at q
    cases c
    · exact q.2 rfl
    have q := q.1 rfl
    unfold wp at q
    show okP (match b ρ1 with | some (.nx, ρ2) => _ | some (.ct, ρ2) => _ | some (.bk, ρ2) => _ | some (.rt r, ρ2) => _ | none => none) _
    rcases e : b ρ1 with _ | ⟨o, ρ2⟩
    · rw [e] at q; exact q.elim
    rw [e] at q
    cases o with
    | nx =>
      obtain ⟨k, hk, q⟩ := q
      exact wh_inv I k ρ2 q step m (by omega)
    | ct =>
      obtain ⟨k, hk, q⟩ := q
      exact wh_inv I k ρ2 q step m (by omega)
    | bk => exact q
    | rt r => exact q
end
/-! names -/
@[simp] theorem peek_vr {ρ : En} {i : Nat} {w : W} (h : ρ[i]? = some (some w)) : peek ρ (vr i w) = some w.d := by
  rcases w with ⟨o, p, d⟩
  cases o
  · rfl
  · show (match ρ[i]? with | some (some w) => some w.d | _ => none) = _
    rw [h]
@[simp] theorem shr_vr {ρ : En} {i : Nat} {w : W} (h : ρ[i]? = some (some w)) : shr ρ (vr i w) = some (w.d, ρ.set i (some ⟨false, w.pin, w.d⟩)) := by
  rcases w with ⟨o, p, d⟩
  cases o
  · show some (d, ρ) = _
    have : ρ.set i (some ⟨false, p, d⟩) = ρ := by
      apply List.ext_getElem?
      intro j
      by_cases hj : i = j
      · subst hj
        rw [List.getElem?_set_self (List.getElem?_eq_some_iff.mp h).1, h]
      · rw [List.getElem?_set_ne hj]
    rw [this]
  · show (match ρ[i]? with | some (some w) => some (w.d, ρ.set i (some ⟨false, w.pin, w.d⟩)) | _ => none) = _
    rw [h]
@[simp] theorem bindR_vr {ρ : En} {i : Nat} {w : W} (h : ρ[i]? = some (some w)) : bindR ρ (vr i w) = some (⟨false, false, w.d⟩, ρ.set i (some ⟨false, w.pin, w.d⟩)) := by
  have e := shr_vr h
  rcases w with ⟨o, p, d⟩
  cases o
  · rw [vr_f, shr_sh] at e
    rw [vr_f, bindR_sh]
    have := congrArg (fun o => o.map Prod.snd) e
    simp at this
    rw [← this]
  · rw [vr_t] at e ⊢
    rw [bindR_at, e]
/-! data -/
section
variable {QR : Rs → Prop}
theorem ok_at {α : Type} {xs : List α} {i : Int} {Q : α → Prop} (h0 : 0 ≤ i) (h1 : i < xs.length) (k : ∀ x ∈ xs, Q x) : ok (atI xs i) Q := by
  rw [atI_of h0 h1]; exact k _ (List.getElem_mem _)
theorem ok_atG {α : Type} {xs : List α} {i : Int} {Q : α → Prop} (h0 : 0 ≤ i) (h1 : i < xs.length) (k : ∀ (j : Nat) (h : j < xs.length), (j : Int) = i → Q (xs[j]'h)) : ok (atI xs i) Q := by
  rw [atI_of h0 h1]; exact k _ _ (by omega)
@[simp ↓] theorem ixq_l {ds : List D} {i : Int} : ok (ixD (.lst ds) (.int i)) QR = ok (atI ds i) fun d => QR (.sh d) := by
  show ok ((atI ds i).map Rs.sh) QR = _
  cases atI ds i <;> rfl
@[simp ↓] theorem ixq_f {ds : List D} {i : Int} : ok (ixD (.frl ds) (.int i)) QR = ok (atI ds i) fun d => QR (.sh d) := by
  show ok ((atI ds i).map Rs.sh) QR = _
  cases atI ds i <;> rfl
@[simp ↓] theorem ixq_t {ds : List D} {i : Int} : ok (ixD (.tup ds) (.int i)) QR = ok (atI ds i) fun d => QR (.sh d) := by
  show ok ((atI ds i).map Rs.sh) QR = _
  cases atI ds i <;> rfl
@[simp ↓] theorem ixq_s {z : Str} {i : Int} : ok (ixD (.str z) (.int i)) QR = (z.length ≤ 16777216 ∧ ok (atI z.cps.toList i) fun c => QR (.sh (.str (S [c])))) := by
  simp only [ixD_s, sz_line, ok_guard]
  cases atI z.cps.toList i <;> rfl
@[simp ↓] theorem ixq_d {kvs : List (Key × D)} {x : Str} : ok (ixD (.dic kvs) (.str x)) QR = ok (valD kvs (.inr x)) fun d => QR (.sh d) := by
  show ok ((valD kvs (.inr x)).map Rs.sh) QR = _
  cases valD kvs (.inr x) <;> rfl
end
/-! slices of tuples -/
theorem slT_to {ds : List D} {n : Nat} (h : n < ds.length) : slD (.tup ds) none (some (n : Int)) = some (.sh (.tup (ds.take n))) := by
  show (if HT.sIx ds.length 0 none = 0 ∧ HT.sIx ds.length ds.length (some (n : Int)) = ds.length then none else some (Rs.sh (.tup (cutA ds none (some (n : Int)))))) = _
  rw [if_neg (by rw [HT.sIx_nat]; omega), cutA_to]
theorem slT_from {ds : List D} {n : Nat} (h0 : 0 < n) (h : 0 < ds.length) : slD (.tup ds) (some (n : Int)) none = some (.sh (.tup (ds.drop n))) := by
  show (if HT.sIx ds.length 0 (some (n : Int)) = 0 ∧ HT.sIx ds.length ds.length none = ds.length then none else some (Rs.sh (.tup (cutA ds (some (n : Int)) none)))) = _
  rw [if_neg (by rw [HT.sIx_nat]; omega), cutA_from]
@[simp] theorem slT_1 {d : D} {ds : List D} : slD (.tup (d :: ds)) (some 1) none = some (.sh (.tup ds)) := slT_from (n := 1) (by decide) (by simp)
@[simp] theorem slT_2 {d e f : D} {ds : List D} : slD (.tup (d :: e :: f :: ds)) none (some 2) = some (.sh (.tup [d, e])) := slT_to (n := 2) (by simp)
theorem mulL_0 {x : List D} : mulD (.lst x) (.int 0) = some (.ow (.lst [])) := by
  rw [mulD_li, if_pos ⟨by decide, by decide, by simp⟩]; rfl
theorem mulL_1 {x : List D} (h : x.length ≤ 16777216) : mulD (.lst x) (.int 1) = some (.ow (.lst x)) := by
  rw [mulD_li, if_pos ⟨by decide, by decide, by simpa using h⟩]; simp
end
end Mi
set_option Elab.async false
set_option linter.all false
set_option maxRecDepth 100000
set_option maxHeartbeats 1000000
set_option autoImplicit false
/-! plain data: shown, alike -/
namespace Mi
noncomputable section
open PySem PySem.Spec PyProof.Rows L2
/-- shown by k signs at most, n deep -/
def Rp (k n : Nat) (d : D) : Prop := ∃ p, toG d = some p ∧ p.showable = true ∧ p.depth ≤ n ∧ p.shown.length ≤ k
theorem Rp.mono {k n k' n' : Nat} {d : D} (h : Rp k n d) (hk : k ≤ k') (hn : n ≤ n') : Rp k' n' d := by
  obtain ⟨p, h1, h2, h3, h4⟩ := h
  exact ⟨p, h1, h2, by omega, by omega⟩
theorem Rp.repr {k n : Nat} {d : D} (h : Rp k n d) (hk : k ≤ 16777216) (hn : n ≤ 100) : ∃ z, reprG [d] = some (.sh (.str z)) := by
  obtain ⟨p, h1, h2, h3, h4⟩ := h
  refine ⟨p.shown, ?_⟩
  have : shOk p = true := by
    have hz : sizeLine = 16777216 := sz_line
    simp [shOk, h2, hz]
    omega
  show (match toG d with | some p => _ | none => none) = _
  rw [h1]
  show (if shOk p = true then _ else _) = _
  rw [if_pos this]
theorem Rp.non {n : Nat} : Rp 4 n .non := ⟨.none, rfl, rfl, Nat.zero_le _, by decide +kernel⟩
theorem Rp.bl {n : Nat} (b : Bool) : Rp 5 n (.bl b) := ⟨.bool b, rfl, rfl, Nat.zero_le _, by cases b <;> decide +kernel⟩
theorem Rp.int {n : Nat} {i : Int} (h : i.natAbs < 10 ^ 20) : Rp 21 n (.int i) := by
  have h2 := int_text_length_le10 (a := i) (k := 20) (by decide) h
  refine ⟨.int i, rfl, ?_, Nat.zero_le _, ?_⟩
  · have : i.natAbs.log2 < 1920 := by
      have h3 : i.natAbs < 2 ^ 70 := Nat.lt_of_lt_of_le h (by decide)
      by_cases hz : i.natAbs = 0
      · rw [hz]; decide
      · have := (Nat.log2_lt hz).mpr h3
        omega
    show decide (i.natAbs.log2 < 1920) = true
    exact decide_eq_true this
  · show (Str.ofString (toString i)).length ≤ 21
    rw [PySem.ofString_length]; omega
/-- signs below 128 -/
def Asc (l : List Nat) : Prop := ∀ c ∈ l, c < 128
theorem Rp.str {n : Nat} {l : List Nat} (h : Asc l) : Rp (10 * l.length + 2) n (.str (S l)) := by
  refine ⟨.str (S l), rfl, rfl, Nat.zero_le _, ?_⟩
  have := StrLaws.reprText_len (S l) (fun c hc => by
    have := h c (by simpa using hc)
    have : 128 ≤ 16 ^ 8 := by decide
    omega)
  simp at this
  exact this
theorem Rp.seqs {k n : Nat} : ∀ {ds : List D}, (∀ x ∈ ds, Rp k n x) → ∃ ps, toGs ds = some ps ∧ PyData.showableAll ps = true ∧ PyData.depthAll ps ≤ n ∧ piled (PyData.shownAll ps) ≤ ds.length * (k + 2)
  | [], _ => ⟨[], rfl, rfl, Nat.zero_le _, by simp [PyData.shownAll, piled]⟩
  | d :: ds, h => by
    obtain ⟨p, h1, h2, h3, h4⟩ := h d (by simp)
    obtain ⟨ps, g1, g2, g3, g4⟩ := Rp.seqs (ds := ds) fun x hx => h x (by simp [hx])
    refine ⟨p :: ps, ?_, ?_, ?_, ?_⟩
    · show (match toG d, toGs ds with | some p, some ps => _ | _, _ => none) = _
      rw [h1, g1]
    · show (p.showable && PyData.showableAll ps) = true
      rw [h2, g2]; rfl
    · show max p.depth (PyData.depthAll ps) ≤ n
      omega
    · show piled (p.shown :: PyData.shownAll ps) ≤ _
      rw [piled_cons]
      simp [Nat.add_mul]
      omega
theorem join_le (ts : List Str) : (Str.join (Str.ofString ", ") ts).length ≤ piled ts := by
  by_cases hz : ts = []
  · rw [hz]; decide +kernel
  · have := join_length_add _ hz
    omega
theorem Rp.tup {k n : Nat} {ds : List D} (h : ∀ x ∈ ds, Rp k n x) : Rp (ds.length * (k + 2) + 3) (n + 1) (.tup ds) := by
  obtain ⟨ps, g1, g2, g3, g4⟩ := Rp.seqs h
  refine ⟨.tuple ps, ?_, g2, ?_, ?_⟩
  · show (toGs ds).map PyData.tuple = _
    rw [g1]; rfl
  · show PyData.depthAll ps + 1 ≤ n + 1
    omega
  · show (tupleText (PyData.shownAll ps)).length ≤ _
    unfold tupleText
    rw [strLen_append, strLen_append]
    have e1 : (Str.ofString "(").length = 1 := rfl
    have e2 : (Str.ofString (if (PyData.shownAll ps).length == 1 then ",)" else ")")).length ≤ 2 := by split <;> decide
    have := join_le (PyData.shownAll ps)
    omega
theorem textFrom_le : ∀ (ts : List Str) (k : Nat) (acc : Str), (textFrom k acc ts).length ≤ acc.length + piled ts
  | [], k, acc => by simp [textFrom, piled]
  | t :: r, k, acc => by
    have := textFrom_le r (k + 1) (acc ++ (if k > 0 then ", " else "" : String) ++ t)
    rw [piled_cons]
    show (textFrom (k + 1) (acc ++ (if k > 0 then ", " else "" : String) ++ t) r).length ≤ _
    have e : ((if k > 0 then ", " else "" : String) : Str).length ≤ 2 := by split <;> decide
    rw [strLen_append, strLen_append] at this
    omega
theorem Rp.lst {k n : Nat} {ds : List D} (h : ∀ x ∈ ds, Rp k n x) : Rp (ds.length * (k + 2) + 3) (n + 1) (.lst ds) := by
  obtain ⟨ps, g1, g2, g3, g4⟩ := Rp.seqs h
  refine ⟨.list ps, ?_, g2, ?_, ?_⟩
  · show (toGs ds).map PyData.list = _
    rw [g1]; rfl
  · show PyData.depthAll ps + 1 ≤ n + 1
    omega
  · show (listText (PyData.shownAll ps)).length ≤ _
    unfold listText
    rw [strLen_append]
    have e1 : (Str.ofString "]").length = 1 := rfl
    have e2 : (Str.ofString "[").length = 1 := rfl
    have := textFrom_le (PyData.shownAll ps) 0 "["
    omega
/-- a key of a dict -/
def Kp (k : Nat) : Key → Prop
  | .inl i => i.natAbs < 10 ^ 20 ∧ 21 ≤ k
  | .inr x => ∃ l, x = S l ∧ Asc l ∧ 10 * l.length + 2 ≤ k
theorem Kp.rp {k n : Nat} : ∀ {x : Key}, Kp k x → (kP x).showable = true ∧ (kP x).depth ≤ n ∧ (kP x).shown.length ≤ k
  | .inl i, h => by
    obtain ⟨p, h1, h2, h3, h4⟩ := Rp.int (n := n) h.1
    cases h1
    exact ⟨h2, h3, by have := h.2; show (PyData.int i).shown.length ≤ k; omega⟩
  | .inr x, h => by
    obtain ⟨l, rfl, ha, hl⟩ := h
    obtain ⟨p, h1, h2, h3, h4⟩ := Rp.str (n := n) ha
    cases h1
    exact ⟨h2, h3, by show (PyData.str (S l)).shown.length ≤ k; omega⟩
theorem Rp.kvs {k n : Nat} : ∀ {ds : List (Key × D)}, (∀ x ∈ ds, Kp k x.1 ∧ Rp k n x.2) → ∃ ps, toGk ds = some ps ∧ PyData.showableKv ps = true ∧ PyData.depthKv ps ≤ n ∧ piled (PyData.shownKv ps) ≤ ds.length * (2 * k + 4)
  | [], _ => ⟨[], rfl, rfl, Nat.zero_le _, by simp [PyData.shownKv, piled]⟩
  | (x, d) :: ds, h => by
    obtain ⟨hx, p, h1, h2, h3, h4⟩ := h (x, d) (by simp)
    obtain ⟨k1, k2, k3⟩ := hx.rp (n := n)
    obtain ⟨ps, g1, g2, g3, g4⟩ := Rp.kvs (ds := ds) fun x hx => h x (by simp [hx])
    simp only at h1 k1 k2 k3
    refine ⟨(kP x, p) :: ps, ?_, ?_, ?_, ?_⟩
    · show (match toG d, toGk ds with | some p, some ps => _ | _, _ => none) = _
      rw [h1, g1]
    · show ((kP x).showable && p.showable && PyData.showableKv ps) = true
      rw [k1, h2, g2]; rfl
    · show max (max (kP x).depth p.depth) (PyData.depthKv ps) ≤ n
      omega
    · show piled (((kP x).shown ++ Str.ofString ": " ++ p.shown) :: PyData.shownKv ps) ≤ _
      rw [piled_cons, strLen_append, strLen_append]
      have e1 : (Str.ofString ": ").length = 2 := rfl
      simp [Nat.add_mul]
      omega
theorem Rp.dic {k n : Nat} {ds : List (Key × D)} (h : ∀ x ∈ ds, Kp k x.1 ∧ Rp k n x.2) : Rp (ds.length * (2 * k + 4) + 3) (n + 1) (.dic ds) := by
  obtain ⟨ps, g1, g2, g3, g4⟩ := Rp.kvs h
  refine ⟨.dict ps, ?_, g2, ?_, ?_⟩
  · show (toGk ds).map PyData.dict = _
    rw [g1]; rfl
  · show PyData.depthKv ps + 1 ≤ n + 1
    omega
  · show (dictText (PyData.shownKv ps)).length ≤ _
    unfold dictText
    rw [strLen_append, strLen_append]
    have e1 : (Str.ofString "{").length = 1 := rfl
    have e2 : (Str.ofString "}").length = 1 := rfl
    have := join_le (PyData.shownKv ps)
    omega
theorem repr_w {k n : Nat} {d : D} {Q : Rs → Prop} (h : Rp k n d) (hk : k ≤ 16777216) (hn : n ≤ 100) (q : ∀ z, reprG [d] = some (.sh (.str z)) → Q (.sh (.str z))) : ok (reprG [d]) Q := by
  obtain ⟨z, e⟩ := h.repr hk hn
  exact ok_of e (q z e)
end
end Mi
set_option Elab.async false
set_option linter.all false
set_option maxRecDepth 100000
set_option maxHeartbeats 1000000
set_option autoImplicit false
namespace Mi
noncomputable section
open PySem PySem.Spec PyProof.Rows L2
theorem kb_NoneType_int : kitB "NoneType" "int" = some false := by decide +kernel
theorem kb_NoneType_str : kitB "NoneType" "str" = some false := by decide +kernel
theorem kb_NoneType_bool : kitB "NoneType" "bool" = some false := by decide +kernel
theorem kb_NoneType_list : kitB "NoneType" "list" = some false := by decide +kernel
theorem kb_NoneType_tuple : kitB "NoneType" "tuple" = some false := by decide +kernel
theorem kb_NoneType_dict : kitB "NoneType" "dict" = some false := by decide +kernel
theorem kb_bool_int : kitB "bool" "int" = some true := by decide +kernel
theorem kb_bool_str : kitB "bool" "str" = some false := by decide +kernel
theorem kb_bool_bool : kitB "bool" "bool" = some true := by decide +kernel
theorem kb_bool_list : kitB "bool" "list" = some false := by decide +kernel
theorem kb_bool_tuple : kitB "bool" "tuple" = some false := by decide +kernel
theorem kb_bool_dict : kitB "bool" "dict" = some false := by decide +kernel
theorem kb_int_int : kitB "int" "int" = some true := by decide +kernel
theorem kb_int_str : kitB "int" "str" = some false := by decide +kernel
theorem kb_int_bool : kitB "int" "bool" = some false := by decide +kernel
theorem kb_int_list : kitB "int" "list" = some false := by decide +kernel
theorem kb_int_tuple : kitB "int" "tuple" = some false := by decide +kernel
theorem kb_int_dict : kitB "int" "dict" = some false := by decide +kernel
theorem kb_str_int : kitB "str" "int" = some false := by decide +kernel
theorem kb_str_str : kitB "str" "str" = some true := by decide +kernel
theorem kb_str_bool : kitB "str" "bool" = some false := by decide +kernel
theorem kb_str_list : kitB "str" "list" = some false := by decide +kernel
theorem kb_str_tuple : kitB "str" "tuple" = some false := by decide +kernel
theorem kb_str_dict : kitB "str" "dict" = some false := by decide +kernel
theorem kb_tuple_int : kitB "tuple" "int" = some false := by decide +kernel
theorem kb_tuple_str : kitB "tuple" "str" = some false := by decide +kernel
theorem kb_tuple_bool : kitB "tuple" "bool" = some false := by decide +kernel
theorem kb_tuple_list : kitB "tuple" "list" = some false := by decide +kernel
theorem kb_tuple_tuple : kitB "tuple" "tuple" = some true := by decide +kernel
theorem kb_tuple_dict : kitB "tuple" "dict" = some false := by decide +kernel
theorem kb_list_int : kitB "list" "int" = some false := by decide +kernel
theorem kb_list_str : kitB "list" "str" = some false := by decide +kernel
theorem kb_list_bool : kitB "list" "bool" = some false := by decide +kernel
theorem kb_list_list : kitB "list" "list" = some true := by decide +kernel
theorem kb_list_tuple : kitB "list" "tuple" = some false := by decide +kernel
theorem kb_list_dict : kitB "list" "dict" = some false := by decide +kernel
theorem kb_dict_int : kitB "dict" "int" = some false := by decide +kernel
theorem kb_dict_str : kitB "dict" "str" = some false := by decide +kernel
theorem kb_dict_bool : kitB "dict" "bool" = some false := by decide +kernel
theorem kb_dict_list : kitB "dict" "list" = some false := by decide +kernel
theorem kb_dict_tuple : kitB "dict" "tuple" = some false := by decide +kernel
theorem kb_dict_dict : kitB "dict" "dict" = some true := by decide +kernel
@[simp] theorem isi_non_int : isiD [.non, .ty "int"] = some (.sh (.bl false)) := by simp [isiD, isTy, tyN, kb_NoneType_int]
@[simp] theorem isi_non_str : isiD [.non, .ty "str"] = some (.sh (.bl false)) := by simp [isiD, isTy, tyN, kb_NoneType_str]
@[simp] theorem isi_non_bool : isiD [.non, .ty "bool"] = some (.sh (.bl false)) := by simp [isiD, isTy, tyN, kb_NoneType_bool]
@[simp] theorem isi_non_list : isiD [.non, .ty "list"] = some (.sh (.bl false)) := by simp [isiD, isTy, tyN, kb_NoneType_list]
@[simp] theorem isi_non_tuple : isiD [.non, .ty "tuple"] = some (.sh (.bl false)) := by simp [isiD, isTy, tyN, kb_NoneType_tuple]
@[simp] theorem isi_non_dict : isiD [.non, .ty "dict"] = some (.sh (.bl false)) := by simp [isiD, isTy, tyN, kb_NoneType_dict]
@[simp] theorem isi_non_list_tuple : isiD [.non, .tup [.ty "list", .ty "tuple"]] = some (.sh (.bl false)) := by simp [isiD, isTy, tyN, kitT, kb_NoneType_list, kb_NoneType_tuple]
@[simp] theorem isi_non_tuple_list : isiD [.non, .tup [.ty "tuple", .ty "list"]] = some (.sh (.bl false)) := by simp [isiD, isTy, tyN, kitT, kb_NoneType_tuple, kb_NoneType_list]
@[simp] theorem isi_non_str_bool : isiD [.non, .tup [.ty "str", .ty "bool"]] = some (.sh (.bl false)) := by simp [isiD, isTy, tyN, kitT, kb_NoneType_str, kb_NoneType_bool]
@[simp] theorem isB_non (c : Bool) : isBD .non (.bl c) = some (.sh (.bl false)) := rfl
@[simp] theorem isi_bl_int (b : Bool) : isiD [(.bl b), .ty "int"] = some (.sh (.bl true)) := by simp [isiD, isTy, tyN, kb_bool_int]
@[simp] theorem isi_bl_str (b : Bool) : isiD [(.bl b), .ty "str"] = some (.sh (.bl false)) := by simp [isiD, isTy, tyN, kb_bool_str]
@[simp] theorem isi_bl_bool (b : Bool) : isiD [(.bl b), .ty "bool"] = some (.sh (.bl true)) := by simp [isiD, isTy, tyN, kb_bool_bool]
@[simp] theorem isi_bl_list (b : Bool) : isiD [(.bl b), .ty "list"] = some (.sh (.bl false)) := by simp [isiD, isTy, tyN, kb_bool_list]
@[simp] theorem isi_bl_tuple (b : Bool) : isiD [(.bl b), .ty "tuple"] = some (.sh (.bl false)) := by simp [isiD, isTy, tyN, kb_bool_tuple]
@[simp] theorem isi_bl_dict (b : Bool) : isiD [(.bl b), .ty "dict"] = some (.sh (.bl false)) := by simp [isiD, isTy, tyN, kb_bool_dict]
@[simp] theorem isi_bl_list_tuple (b : Bool) : isiD [(.bl b), .tup [.ty "list", .ty "tuple"]] = some (.sh (.bl false)) := by simp [isiD, isTy, tyN, kitT, kb_bool_list, kb_bool_tuple]
@[simp] theorem isi_bl_tuple_list (b : Bool) : isiD [(.bl b), .tup [.ty "tuple", .ty "list"]] = some (.sh (.bl false)) := by simp [isiD, isTy, tyN, kitT, kb_bool_tuple, kb_bool_list]
@[simp] theorem isi_bl_str_bool (b : Bool) : isiD [(.bl b), .tup [.ty "str", .ty "bool"]] = some (.sh (.bl true)) := by simp [isiD, isTy, tyN, kitT, kb_bool_str, kb_bool_bool]
@[simp] theorem isN_bl (b : Bool) : isND (.bl b) .non = some (.sh (.bl false)) := rfl
@[simp] theorem notN_bl (b : Bool) : notND (.bl b) .non = some (.sh (.bl true)) := rfl
@[simp] theorem isi_int_int (i : Int) : isiD [(.int i), .ty "int"] = some (.sh (.bl true)) := by simp [isiD, isTy, tyN, kb_int_int]
@[simp] theorem isi_int_str (i : Int) : isiD [(.int i), .ty "str"] = some (.sh (.bl false)) := by simp [isiD, isTy, tyN, kb_int_str]
@[simp] theorem isi_int_bool (i : Int) : isiD [(.int i), .ty "bool"] = some (.sh (.bl false)) := by simp [isiD, isTy, tyN, kb_int_bool]
@[simp] theorem isi_int_list (i : Int) : isiD [(.int i), .ty "list"] = some (.sh (.bl false)) := by simp [isiD, isTy, tyN, kb_int_list]
@[simp] theorem isi_int_tuple (i : Int) : isiD [(.int i), .ty "tuple"] = some (.sh (.bl false)) := by simp [isiD, isTy, tyN, kb_int_tuple]
@[simp] theorem isi_int_dict (i : Int) : isiD [(.int i), .ty "dict"] = some (.sh (.bl false)) := by simp [isiD, isTy, tyN, kb_int_dict]
@[simp] theorem isi_int_list_tuple (i : Int) : isiD [(.int i), .tup [.ty "list", .ty "tuple"]] = some (.sh (.bl false)) := by simp [isiD, isTy, tyN, kitT, kb_int_list, kb_int_tuple]
@[simp] theorem isi_int_tuple_list (i : Int) : isiD [(.int i), .tup [.ty "tuple", .ty "list"]] = some (.sh (.bl false)) := by simp [isiD, isTy, tyN, kitT, kb_int_tuple, kb_int_list]
@[simp] theorem isi_int_str_bool (i : Int) : isiD [(.int i), .tup [.ty "str", .ty "bool"]] = some (.sh (.bl false)) := by simp [isiD, isTy, tyN, kitT, kb_int_str, kb_int_bool]
@[simp] theorem isN_int (i : Int) : isND (.int i) .non = some (.sh (.bl false)) := rfl
@[simp] theorem notN_int (i : Int) : notND (.int i) .non = some (.sh (.bl true)) := rfl
@[simp] theorem isB_int (i : Int) (c : Bool) : isBD (.int i) (.bl c) = some (.sh (.bl false)) := rfl
@[simp] theorem isi_str_int (x : Str) : isiD [(.str x), .ty "int"] = some (.sh (.bl false)) := by simp [isiD, isTy, tyN, kb_str_int]
@[simp] theorem isi_str_str (x : Str) : isiD [(.str x), .ty "str"] = some (.sh (.bl true)) := by simp [isiD, isTy, tyN, kb_str_str]
@[simp] theorem isi_str_bool (x : Str) : isiD [(.str x), .ty "bool"] = some (.sh (.bl false)) := by simp [isiD, isTy, tyN, kb_str_bool]
@[simp] theorem isi_str_list (x : Str) : isiD [(.str x), .ty "list"] = some (.sh (.bl false)) := by simp [isiD, isTy, tyN, kb_str_list]
@[simp] theorem isi_str_tuple (x : Str) : isiD [(.str x), .ty "tuple"] = some (.sh (.bl false)) := by simp [isiD, isTy, tyN, kb_str_tuple]
@[simp] theorem isi_str_dict (x : Str) : isiD [(.str x), .ty "dict"] = some (.sh (.bl false)) := by simp [isiD, isTy, tyN, kb_str_dict]
@[simp] theorem isi_str_list_tuple (x : Str) : isiD [(.str x), .tup [.ty "list", .ty "tuple"]] = some (.sh (.bl false)) := by simp [isiD, isTy, tyN, kitT, kb_str_list, kb_str_tuple]
@[simp] theorem isi_str_tuple_list (x : Str) : isiD [(.str x), .tup [.ty "tuple", .ty "list"]] = some (.sh (.bl false)) := by simp [isiD, isTy, tyN, kitT, kb_str_tuple, kb_str_list]
@[simp] theorem isi_str_str_bool (x : Str) : isiD [(.str x), .tup [.ty "str", .ty "bool"]] = some (.sh (.bl true)) := by simp [isiD, isTy, tyN, kitT, kb_str_str, kb_str_bool]
@[simp] theorem isN_str (x : Str) : isND (.str x) .non = some (.sh (.bl false)) := rfl
@[simp] theorem notN_str (x : Str) : notND (.str x) .non = some (.sh (.bl true)) := rfl
@[simp] theorem isB_str (x : Str) (c : Bool) : isBD (.str x) (.bl c) = some (.sh (.bl false)) := rfl
@[simp] theorem isi_tup_int (ds : List D) : isiD [(.tup ds), .ty "int"] = some (.sh (.bl false)) := by simp [isiD, isTy, tyN, kb_tuple_int]
@[simp] theorem isi_tup_str (ds : List D) : isiD [(.tup ds), .ty "str"] = some (.sh (.bl false)) := by simp [isiD, isTy, tyN, kb_tuple_str]
@[simp] theorem isi_tup_bool (ds : List D) : isiD [(.tup ds), .ty "bool"] = some (.sh (.bl false)) := by simp [isiD, isTy, tyN, kb_tuple_bool]
@[simp] theorem isi_tup_list (ds : List D) : isiD [(.tup ds), .ty "list"] = some (.sh (.bl false)) := by simp [isiD, isTy, tyN, kb_tuple_list]
@[simp] theorem isi_tup_tuple (ds : List D) : isiD [(.tup ds), .ty "tuple"] = some (.sh (.bl true)) := by simp [isiD, isTy, tyN, kb_tuple_tuple]
@[simp] theorem isi_tup_dict (ds : List D) : isiD [(.tup ds), .ty "dict"] = some (.sh (.bl false)) := by simp [isiD, isTy, tyN, kb_tuple_dict]
@[simp] theorem isi_tup_list_tuple (ds : List D) : isiD [(.tup ds), .tup [.ty "list", .ty "tuple"]] = some (.sh (.bl true)) := by simp [isiD, isTy, tyN, kitT, kb_tuple_list, kb_tuple_tuple]
@[simp] theorem isi_tup_tuple_list (ds : List D) : isiD [(.tup ds), .tup [.ty "tuple", .ty "list"]] = some (.sh (.bl true)) := by simp [isiD, isTy, tyN, kitT, kb_tuple_tuple, kb_tuple_list]
@[simp] theorem isi_tup_str_bool (ds : List D) : isiD [(.tup ds), .tup [.ty "str", .ty "bool"]] = some (.sh (.bl false)) := by simp [isiD, isTy, tyN, kitT, kb_tuple_str, kb_tuple_bool]
@[simp] theorem isN_tup (ds : List D) : isND (.tup ds) .non = some (.sh (.bl false)) := rfl
@[simp] theorem notN_tup (ds : List D) : notND (.tup ds) .non = some (.sh (.bl true)) := rfl
@[simp] theorem isB_tup (ds : List D) (c : Bool) : isBD (.tup ds) (.bl c) = some (.sh (.bl false)) := rfl
@[simp] theorem isi_lst_int (ds : List D) : isiD [(.lst ds), .ty "int"] = some (.sh (.bl false)) := by simp [isiD, isTy, tyN, kb_list_int]
@[simp] theorem isi_lst_str (ds : List D) : isiD [(.lst ds), .ty "str"] = some (.sh (.bl false)) := by simp [isiD, isTy, tyN, kb_list_str]
@[simp] theorem isi_lst_bool (ds : List D) : isiD [(.lst ds), .ty "bool"] = some (.sh (.bl false)) := by simp [isiD, isTy, tyN, kb_list_bool]
@[simp] theorem isi_lst_list (ds : List D) : isiD [(.lst ds), .ty "list"] = some (.sh (.bl true)) := by simp [isiD, isTy, tyN, kb_list_list]
@[simp] theorem isi_lst_tuple (ds : List D) : isiD [(.lst ds), .ty "tuple"] = some (.sh (.bl false)) := by simp [isiD, isTy, tyN, kb_list_tuple]
@[simp] theorem isi_lst_dict (ds : List D) : isiD [(.lst ds), .ty "dict"] = some (.sh (.bl false)) := by simp [isiD, isTy, tyN, kb_list_dict]
@[simp] theorem isi_lst_list_tuple (ds : List D) : isiD [(.lst ds), .tup [.ty "list", .ty "tuple"]] = some (.sh (.bl true)) := by simp [isiD, isTy, tyN, kitT, kb_list_list, kb_list_tuple]
@[simp] theorem isi_lst_tuple_list (ds : List D) : isiD [(.lst ds), .tup [.ty "tuple", .ty "list"]] = some (.sh (.bl true)) := by simp [isiD, isTy, tyN, kitT, kb_list_tuple, kb_list_list]
@[simp] theorem isi_lst_str_bool (ds : List D) : isiD [(.lst ds), .tup [.ty "str", .ty "bool"]] = some (.sh (.bl false)) := by simp [isiD, isTy, tyN, kitT, kb_list_str, kb_list_bool]
@[simp] theorem isN_lst (ds : List D) : isND (.lst ds) .non = some (.sh (.bl false)) := rfl
@[simp] theorem notN_lst (ds : List D) : notND (.lst ds) .non = some (.sh (.bl true)) := rfl
@[simp] theorem isB_lst (ds : List D) (c : Bool) : isBD (.lst ds) (.bl c) = some (.sh (.bl false)) := rfl
@[simp] theorem isi_frl_int (ds : List D) : isiD [(.frl ds), .ty "int"] = some (.sh (.bl false)) := by simp [isiD, isTy, tyN, kb_list_int]
@[simp] theorem isi_frl_str (ds : List D) : isiD [(.frl ds), .ty "str"] = some (.sh (.bl false)) := by simp [isiD, isTy, tyN, kb_list_str]
@[simp] theorem isi_frl_bool (ds : List D) : isiD [(.frl ds), .ty "bool"] = some (.sh (.bl false)) := by simp [isiD, isTy, tyN, kb_list_bool]
@[simp] theorem isi_frl_list (ds : List D) : isiD [(.frl ds), .ty "list"] = some (.sh (.bl true)) := by simp [isiD, isTy, tyN, kb_list_list]
@[simp] theorem isi_frl_tuple (ds : List D) : isiD [(.frl ds), .ty "tuple"] = some (.sh (.bl false)) := by simp [isiD, isTy, tyN, kb_list_tuple]
@[simp] theorem isi_frl_dict (ds : List D) : isiD [(.frl ds), .ty "dict"] = some (.sh (.bl false)) := by simp [isiD, isTy, tyN, kb_list_dict]
@[simp] theorem isi_frl_list_tuple (ds : List D) : isiD [(.frl ds), .tup [.ty "list", .ty "tuple"]] = some (.sh (.bl true)) := by simp [isiD, isTy, tyN, kitT, kb_list_list, kb_list_tuple]
@[simp] theorem isi_frl_tuple_list (ds : List D) : isiD [(.frl ds), .tup [.ty "tuple", .ty "list"]] = some (.sh (.bl true)) := by simp [isiD, isTy, tyN, kitT, kb_list_tuple, kb_list_list]
@[simp] theorem isi_frl_str_bool (ds : List D) : isiD [(.frl ds), .tup [.ty "str", .ty "bool"]] = some (.sh (.bl false)) := by simp [isiD, isTy, tyN, kitT, kb_list_str, kb_list_bool]
@[simp] theorem isN_frl (ds : List D) : isND (.frl ds) .non = some (.sh (.bl false)) := rfl
@[simp] theorem notN_frl (ds : List D) : notND (.frl ds) .non = some (.sh (.bl true)) := rfl
@[simp] theorem isB_frl (ds : List D) (c : Bool) : isBD (.frl ds) (.bl c) = some (.sh (.bl false)) := rfl
@[simp] theorem isi_dic_int (ks : List (Key × D)) : isiD [(.dic ks), .ty "int"] = some (.sh (.bl false)) := by simp [isiD, isTy, tyN, kb_dict_int]
@[simp] theorem isi_dic_str (ks : List (Key × D)) : isiD [(.dic ks), .ty "str"] = some (.sh (.bl false)) := by simp [isiD, isTy, tyN, kb_dict_str]
@[simp] theorem isi_dic_bool (ks : List (Key × D)) : isiD [(.dic ks), .ty "bool"] = some (.sh (.bl false)) := by simp [isiD, isTy, tyN, kb_dict_bool]
@[simp] theorem isi_dic_list (ks : List (Key × D)) : isiD [(.dic ks), .ty "list"] = some (.sh (.bl false)) := by simp [isiD, isTy, tyN, kb_dict_list]
@[simp] theorem isi_dic_tuple (ks : List (Key × D)) : isiD [(.dic ks), .ty "tuple"] = some (.sh (.bl false)) := by simp [isiD, isTy, tyN, kb_dict_tuple]
@[simp] theorem isi_dic_dict (ks : List (Key × D)) : isiD [(.dic ks), .ty "dict"] = some (.sh (.bl true)) := by simp [isiD, isTy, tyN, kb_dict_dict]
@[simp] theorem isi_dic_list_tuple (ks : List (Key × D)) : isiD [(.dic ks), .tup [.ty "list", .ty "tuple"]] = some (.sh (.bl false)) := by simp [isiD, isTy, tyN, kitT, kb_dict_list, kb_dict_tuple]
@[simp] theorem isi_dic_tuple_list (ks : List (Key × D)) : isiD [(.dic ks), .tup [.ty "tuple", .ty "list"]] = some (.sh (.bl false)) := by simp [isiD, isTy, tyN, kitT, kb_dict_tuple, kb_dict_list]
@[simp] theorem isi_dic_str_bool (ks : List (Key × D)) : isiD [(.dic ks), .tup [.ty "str", .ty "bool"]] = some (.sh (.bl false)) := by simp [isiD, isTy, tyN, kitT, kb_dict_str, kb_dict_bool]
@[simp] theorem isN_dic (ks : List (Key × D)) : isND (.dic ks) .non = some (.sh (.bl false)) := rfl
@[simp] theorem notN_dic (ks : List (Key × D)) : notND (.dic ks) .non = some (.sh (.bl true)) := rfl
@[simp] theorem isB_dic (ks : List (Key × D)) (c : Bool) : isBD (.dic ks) (.bl c) = some (.sh (.bl false)) := rfl
@[simp] theorem isB_bl (b c : Bool) : isBD (.bl b) (.bl c) = some (.sh (.bl (decide (b = c)))) := rfl
@[simp] theorem isN_non : isND .non .non = some (.sh (.bl true)) := rfl
@[simp] theorem eqD_nn : eqD .non .non = some (.sh (.bl true)) := rfl
@[simp] theorem zpD_ll (a b : List D) : zpD (.lst a) (.lst b) = some (dZip a b) := rfl
@[simp] theorem zpD_tt (a b : List D) : zpD (.tup a) (.tup b) = some (dZip a b) := rfl
@[simp] theorem truD_s (x : Str) : truD (.str x) = (if x.length ≤ sizeLine then some ((x.length : Int) != 0) else none) := rfl
/-- plain, n deep at most -/
def Sd : Nat → D → Prop
  | 0, _ => False
  | n + 1, .tup ds => ds.length ≤ 1000000 ∧ ∀ x ∈ ds, Sd n x
  | n + 1, .lst ds => ds.length ≤ 1000000 ∧ ∀ x ∈ ds, Sd n x
  | _ + 1, .non => True
  | _ + 1, .bl _ => True
  | _ + 1, .int _ => True
  | _ + 1, .str _ => True
  | _, _ => False
theorem dZip_mem : ∀ {ds : List D} {x : D}, x ∈ dZip ds ds → ∃ y ∈ ds, x = .tup [y, y]
  | [], x, h => by cases h
  | d :: ds, x, h => by
    rcases List.mem_cons.mp h with rfl | h
    · exact ⟨d, by simp, rfl⟩
    · obtain ⟨y, hy, e⟩ := dZip_mem h
      exact ⟨y, by simp [hy], e⟩
theorem dZip_len1 : ∀ (ds : List D), (dZip ds ds).length = ds.length
  | [] => rfl
  | d :: ds => by simp [dZip, dZip_len1 ds]
theorem bls_map (f : D → D) : ∀ {ds : List D}, (∀ x ∈ ds, f x = .bl true) → bls (ds.map f) = some (List.replicate ds.length true)
  | [], _ => rfl
  | d :: ds, h => by
    have ih := bls_map f (ds := ds) fun x hx => h x (by simp [hx])
    rw [List.map_cons, h d (by simp)]
    show (match bls (ds.map f) with | some bs => some (true :: bs) | none => none) = _
    rw [ih]; rfl
theorem bls_true : ∀ (n : Nat), bls (List.replicate n (.bl true)) = some (List.replicate n true)
  | 0 => rfl
  | n + 1 => by
    rw [List.replicate_succ]
    show (match bls (List.replicate n (.bl true)) with | some bs => some (true :: bs) | none => none) = _
    rw [bls_true n]; rfl
theorem all_true : ∀ {ds : List D}, (∀ x ∈ ds, x = .bl true) → allD [.lst ds] = some (.sh (.bl true))
  | ds, h => by
    have e : ds = List.replicate ds.length (.bl true) := List.eq_replicate_iff.mpr ⟨rfl, h⟩
    rw [e]
    show (match bls (List.replicate ds.length (.bl true)) with | some bs => some (Rs.sh (.bl (bs.all id))) | none => none) = _
    rw [bls_true]; simp
end
end Mi
set_option Elab.async false
set_option linter.all false
set_option maxRecDepth 100000
set_option maxHeartbeats 1000000
set_option autoImplicit false
namespace Mi
noncomputable section
open PySem PySem.Spec PyProof.Rows L2
/-! in, of written words -/
theorem str_beq (a b : Str) : (a == b) = decide (a = b) := by by_cases h : a = b <;> simp [h]
@[simp] theorem in_s2 (x a b : Str) : inD (.str x) (.tup [.str a, .str b]) = some (.sh (.bl (decide (a = x) || decide (b = x)))) := by
  simp [inD, inA, inB, flatD, vOf, inV, eqV, str_beq]
@[simp] theorem in_s3 (x a b c : Str) : inD (.str x) (.tup [.str a, .str b, .str c]) = some (.sh (.bl (decide (a = x) || (decide (b = x) || decide (c = x))))) := by
  simp [inD, inA, inB, flatD, vOf, inV, eqV, str_beq]
@[simp] theorem in_s4 (x a b c e : Str) : inD (.str x) (.tup [.str a, .str b, .str c, .str e]) = some (.sh (.bl (decide (a = x) || (decide (b = x) || (decide (c = x) || decide (e = x)))))) := by
  simp [inD, inA, inB, flatD, vOf, inV, eqV, str_beq]
@[simp] theorem nin_s2 (x a b : Str) : notInD (.str x) (.tup [.str a, .str b]) = some (.sh (.bl (!(decide (a = x) || decide (b = x))))) := by
  simp [notInD, inA, inB, flatD, vOf, inV, eqV, str_beq]
@[simp] theorem nin_s3 (x a b c : Str) : notInD (.str x) (.tup [.str a, .str b, .str c]) = some (.sh (.bl (!(decide (a = x) || (decide (b = x) || decide (c = x)))))) := by
  simp [notInD, inA, inB, flatD, vOf, inV, eqV, str_beq]
theorem inV_bl (b : Bool) (bs : List Bool) : inV (.bl b) (bs.map V.bl) = decide (b ∈ bs) := by
  induction bs with
  | nil => simp [inV]
  | cons c bs ih =>
    simp [inV, eqV] at ih ⊢
    rw [ih]
    cases b <;> cases c <;> simp
theorem bl_flat : ∀ bs : List Bool, (bs.map D.bl).all flatD = true
  | [] => rfl
  | b :: bs => by
    have := bl_flat bs
    simp [flatD] at this ⊢
theorem in_bls (b : Bool) (bs : List Bool) : inD (.bl b) (.lst (bs.map D.bl)) = some (.sh (.bl (decide (b ∈ bs)))) := by
  have e : (bs.map D.bl).map vOf = bs.map V.bl := by simp [vOf, Function.comp_def]
  show ((match inB (.bl b) (.lst (bs.map D.bl)) with | some b => some b | none => inP (.bl b) (.lst (bs.map D.bl))).map _) = _
  have : inB (.bl b) (.lst (bs.map D.bl)) = some (decide (b ∈ bs)) := by
    show (if flatD (.bl b) && (bs.map D.bl).all flatD then some (inV (vOf (.bl b)) ((bs.map D.bl).map vOf)) else none) = _
    rw [bl_flat, e]
    show (if (true && true) = true then some (inV (.bl b) (bs.map V.bl)) else none) = _
    rw [inV_bl]; rfl
  rw [this]; rfl
theorem nin_bls (b : Bool) (bs : List Bool) : notInD (.bl b) (.lst (bs.map D.bl)) = some (.sh (.bl (!decide (b ∈ bs)))) := by
  have h := in_bls b bs
  unfold inD at h
  unfold notInD
  cases e : inA (.bl b) (.lst (bs.map D.bl)) with
  | none => rw [e] at h; cases h
  | some c => rw [e] at h; cases h; rfl
/-- each one of a list that is told by data -/
theorem lc_mapX {α : Type} {ρ : En} {tg : D → En → Option En} {tt : MT} {te : ME} {vs : List Nat} {Q : List D → En → Prop} (xs : List α) (i f : α → D) (hl : xs.length < 16777216)
    (step : ∀ x, x ∈ xs → ok (tg (i x) ρ) fun ρ1 => wp tt ρ1 fun c ρ2 => c = true ∧ wp te ρ2 fun r ρ3 => ok (shr ρ3 r) fun p => p.1 = f x ∧ wipeR p.2 vs = ρ)
    (done : Q (xs.map f) ρ) : wp (lcL tg tt te vs (xs.map i) []) ρ Q :=
  lc_inv (fun es acc ρ' => ρ' = ρ ∧ ∃ ys, es = ys.map i ∧ (∀ d ∈ ys, d ∈ xs) ∧ acc ++ ys.map f = xs.map f) ⟨rfl, xs, rfl, fun _ h => h, by simp⟩ (fun d es acc ρ' h => by
    obtain ⟨rfl, ys, he, h1, h2⟩ := h
    rcases ys with _ | ⟨y, ys⟩
    · cases he
    simp at he
    obtain ⟨rfl, rfl⟩ := he
    have hz : sizeLine = 16777216 := sz_line
    have h3 := congrArg List.length h2
    refine ok_mono (step y (h1 y (by simp))) fun ρ1 q => wp_mono q fun c ρ2 q => ?_
    obtain ⟨rfl, q⟩ := q
    rw [br_true]
    refine wp_mono q fun r ρ3 q => ok_mono q fun p q => ⟨by simp at h3; omega, q.2, ys, rfl, fun e he => h1 e (by simp [he]), ?_⟩
    rw [q.1]; simpa using h2) fun acc ρ' h => by
      obtain ⟨rfl, ys, he, _, h2⟩ := h
      have : ys = [] := by cases ys with | nil => rfl | cons a b => cases he
      subst this
      simp at h2
      rw [h2]; exact done
/-- words that are told apart -/
theorem encNe {a b : List Nat} (h : a ≠ b) : (S a = S b) = False := by simp [h]
end
end Mi
set_option Elab.async false
set_option linter.all false
set_option maxRecDepth 100000
set_option maxHeartbeats 1000000
set_option autoImplicit false
namespace Mi
noncomputable section
open PySem PySem.Spec PyProof.Rows L2
/-! ### dicts -/
theorem mem_putD {kvs : List (Key × D)} {k : Key} {v : D} {x : Key × D} (h : x ∈ putD kvs k v) : x = (k, v) ∨ x ∈ kvs := by
  unfold putD at h
  split at h
  · obtain ⟨y, hy, rfl⟩ := List.mem_map.mp h
    by_cases e : y.1 = k
    · rw [if_pos e, e]; exact .inl rfl
    · rw [if_neg e]; exact .inr hy
  · rcases List.mem_append.mp h with h | h
    · exact .inr h
    · simp at h; exact .inl h
theorem key_putD {kvs : List (Key × D)} {k : Key} {v : D} : ∀ {k' : Key}, (k' = k ∨ k' ∈ kvs.map (·.1)) → k' ∈ (putD kvs k v).map (·.1) := by
  intro k' h
  unfold putD
  split
  · rename_i hk
    have e : (kvs.map fun kv => if kv.1 = k then (kv.1, v) else kv).map (·.1) = kvs.map (·.1) := by
      rw [List.map_map]
      apply List.map_congr_left
      intro y hy
      by_cases e : y.1 = k <;> simp [e]
    rw [e]
    rcases h with rfl | h
    · obtain ⟨y, hy, e⟩ := List.any_eq_true.mp hk
      exact List.mem_map.mpr ⟨y, hy, of_decide_eq_true e⟩
    · exact h
  · rcases h with rfl | h
    · simp
    · simp at h ⊢; exact .inl h
theorem len_putD {kvs : List (Key × D)} {k : Key} {v : D} : (putD kvs k v).length ≤ kvs.length + 1 := by
  unfold putD
  split <;> simp
theorem mem_mergeD : ∀ {l acc : List (Key × D)} {x : Key × D}, x ∈ mergeD acc l → x ∈ acc ∨ x ∈ l
  | [], acc, x, h => .inl h
  | y :: l, acc, x, h => by
    rcases mem_mergeD (l := l) (acc := putD acc y.1 y.2) h with h | h
    · rcases mem_putD h with rfl | h
      · exact .inr (by simp)
      · exact .inl h
    · exact .inr (by simp [h])
theorem key_mergeD : ∀ {l acc : List (Key × D)} {k : Key}, k ∈ acc.map (·.1) ∨ k ∈ l.map (·.1) → k ∈ (mergeD acc l).map (·.1)
  | [], acc, k, h => by simpa [mergeD] using h
  | y :: l, acc, k, h => by
    refine key_mergeD (l := l) (acc := putD acc y.1 y.2) ?_
    rcases h with h | h
    · exact .inl (key_putD (.inr h))
    · rw [List.map_cons] at h
      rcases List.mem_cons.mp h with rfl | h
      · exact .inl (key_putD (.inl rfl))
      · exact .inr h
theorem len_mergeD : ∀ {l acc : List (Key × D)}, (mergeD acc l).length ≤ acc.length + l.length
  | [], acc => by simp [mergeD]
  | y :: l, acc => by
    have h1 := len_mergeD (l := l) (acc := putD acc y.1 y.2)
    have h2 := len_putD (kvs := acc) (k := y.1) (v := y.2)
    show (mergeD (putD acc y.1 y.2) l).length ≤ _
    simp at h1 ⊢
    omega
theorem valD_key {kvs : List (Key × D)} {k : Key} (h : k ∈ kvs.map (·.1)) : ∃ v, valD kvs k = some v ∧ (k, v) ∈ kvs := by
  unfold valD
  obtain ⟨y, hy, rfl⟩ := List.mem_map.mp h
  cases e : kvs.find? fun kv => decide (kv.1 = y.1) with
  | none =>
    have := List.find?_eq_none.mp e y hy
    simp at this
  | some z =>
    have h1 := List.find?_some e
    have h2 := List.mem_of_find?_eq_some e
    refine ⟨z.2, rfl, ?_⟩
    have h3 : z.1 = y.1 := of_decide_eq_true h1
    rw [← h3]; exact h2
/-- pairs of texts and data -/
def prD (l : List (List Nat × D)) : List D := l.map fun p => .tup [.str (S p.1), p.2]
def kvD (l : List (List Nat × D)) : List (Key × D) := l.map fun p => (.inr (S p.1), p.2)
@[simp] theorem pairs_prD : ∀ l : List (List Nat × D), pairsD (prD l) = some (kvD l)
  | [] => rfl
  | p :: l => by
    have := pairs_prD l
    simp only [prD, kvD] at this
    simp [prD, kvD, pairsD, this]
@[simp] theorem dict_prD (l : List (List Nat × D)) : dictD [.lst (prD l)] = some (.ow (.dic (mergeD [] (kvD l)))) := by
  rw [dictD_l, pairs_prD]
@[simp] theorem prD_app (l : List (List Nat × D)) (s : List Nat) (d : D) : prD l ++ [.tup [.str (S s), d]] = prD (l ++ [(s, d)]) := by simp [prD]
@[simp] theorem prD_nil : prD [] = [] := rfl
@[simp] theorem prD_len (l : List (List Nat × D)) : (prD l).length = l.length := by simp [prD]
theorem Rp.str' {k n : Nat} {l : List Nat} (h : Asc l) (hk : 10 * l.length + 2 ≤ k) : Rp k n (.str (S l)) := (Rp.str h).mono hk (Nat.le_refl n)
theorem Rp.int' {k n : Nat} {i : Int} (h0 : -100000000000 ≤ i) (h1 : i ≤ 100000000000) (hk : 21 ≤ k) : Rp k n (.int i) := (Rp.int (by omega)).mono hk (Nat.le_refl n)
theorem Rp.bl' {k n : Nat} {b : Bool} (hk : 5 ≤ k) : Rp k n (.bl b) := (Rp.bl b).mono hk (Nat.le_refl n)
theorem Rp.non' {k n : Nat} (hk : 4 ≤ k) : Rp k n .non := Rp.non.mono hk (Nat.le_refl n)
theorem br_wp {α : Type} {c : Bool} {a b : En → Option (α × En)} {ρ : En} {K : α → En → Prop} (C : α → En → Prop) (ha : c = true → wp a ρ C) (hb : c = false → wp b ρ C) (k : ∀ r ρ', C r ρ' → K r ρ') : br c (wp a ρ K) (wp b ρ K) :=
  ⟨fun e => wp_mono (ha e) k, fun e => wp_mono (hb e) k⟩
theorem wp_cut {α : Type} {m : En → Option (α × En)} {ρ : En} {K : α → En → Prop} (C : α → En → Prop) (h : wp m ρ C) (k : ∀ r ρ', C r ρ' → K r ρ') : wp m ρ K := wp_mono h k
@[simp] theorem pk_def {α : Type} (is : List Nat) (l : List α) : pk is l = is.filterMap fun i => l[i]? := rfl
end
end Mi
set_option Elab.async false
set_option linter.all false
set_option maxRecDepth 100000
set_option maxHeartbeats 1000000
set_option autoImplicit false
namespace Mi
noncomputable section
open PySem PySem.Spec PyProof.Rows L2
@[simp] theorem w_mFzE {i : Nat} {m : ME} {ρ : En} {Q : Rv → En → Prop} : wp (mFzE i m) ρ Q = wp m (fz i ρ) Q := nr rfl
@[simp] theorem w_mFzS {i : Nat} {m : MS} {ρ : En} {Q : Out → En → Prop} : wp (mFzS i m) ρ Q = wp m (fz i ρ) Q := nr rfl
@[simp] theorem fz_some {i : Nat} {ρ : En} {w : W} (h : ρ[i]? = some (some w)) : fz i ρ = ρ.set i (some ⟨false, w.pin, w.d⟩) := by unfold fz; rw [h]
theorem inV_str (x : Str) (xs : List Str) : inV (.str x) (xs.map V.str) = decide (x ∈ xs) := by
  induction xs with
  | nil => simp [inV]
  | cons c bs ih =>
    simp [inV, eqV, str_beq] at ih ⊢
    rw [ih]
    by_cases h1 : c = x
    · simp [h1]
    · have h2 : ¬ x = c := fun z => h1 z.symm
      simp [h1, h2]
theorem str_flat : ∀ bs : List Str, (bs.map D.str).all flatD = true
  | [] => rfl
  | b :: bs => by
    have := str_flat bs
    simp [flatD] at this ⊢
theorem in_strs (b : Str) (bs : List Str) : inD (.str b) (.lst (bs.map D.str)) = some (.sh (.bl (decide (b ∈ bs)))) := by
  have e : (bs.map D.str).map vOf = bs.map V.str := by simp [vOf, Function.comp_def]
  show ((match inB (.str b) (.lst (bs.map D.str)) with | some b => some b | none => inP (.str b) (.lst (bs.map D.str))).map _) = _
  have : inB (.str b) (.lst (bs.map D.str)) = some (decide (b ∈ bs)) := by
    show (if flatD (.str b) && (bs.map D.str).all flatD then some (inV (vOf (.str b)) ((bs.map D.str).map vOf)) else none) = _
    rw [str_flat, e]
    show (if (true && true) = true then some (inV (.str b) (bs.map V.str)) else none) = _
    rw [inV_str]; rfl
  rw [this]; rfl
theorem bls_bl : ∀ bs : List Bool, bls (bs.map D.bl) = some bs
  | [] => rfl
  | b :: bs => by
    show (match bls (bs.map D.bl) with | some bs => some (b :: bs) | none => none) = _
    rw [bls_bl bs]
theorem any_bls (bs : List Bool) : anyD [.lst (bs.map D.bl)] = some (.sh (.bl (bs.any id))) := by
  show (match bls (bs.map D.bl) with | some bs => some (Rs.sh (.bl (bs.any id))) | none => none) = _
  rw [bls_bl]
theorem all_bls (bs : List Bool) : allD [.lst (bs.map D.bl)] = some (.sh (.bl (bs.all id))) := by
  show (match bls (bs.map D.bl) with | some bs => some (Rs.sh (.bl (bs.all id))) | none => none) = _
  rw [bls_bl]
end
end Mi
set_option Elab.async false
set_option linter.all false
set_option maxRecDepth 100000
set_option maxHeartbeats 1000000
set_option autoImplicit false
namespace Mi
noncomputable section
open PySem PySem.Spec PyProof.Rows L2
@[simp] theorem w_mStoD {i : Nat} {m mi : ME} {ρ : En} {QS : Out → En → Prop} : wp (mStoD i m mi) ρ QS = wp m ρ fun r ρ1 => ok (shr ρ1 r) fun p => ok (owned p.2[i]?) fun _ => wp mi p.2 fun q ρ3 => ok (peek ρ3 q) fun k => ok (owned ρ3[i]?) fun x => ok (stD x.2 k p.1) fun d' => QS .nx (ρ3.set i (some ⟨true, x.1, d'⟩)) := by
  unfold wp mStoD
  rcases m ρ with _ | ⟨r, ρ1⟩ <;> try rfl
  show okP (match shr ρ1 r with | some (q, ρ2) => _ | none => none) _ = ok (shr ρ1 r) _
  rcases shr ρ1 r with _ | ⟨y, ρ2⟩ <;> try rfl
  show okP (match ρ2[i]? with | some (some ⟨true, _, _⟩) => _ | _ => none) _ = ok (owned ρ2[i]?) _
  rcases ρ2[i]? with _ | _ | ⟨o, p, d⟩ <;> try rfl
  cases o <;> try rfl
  show okP (match mi ρ2 with | some (q, ρ2) => _ | none => none) _ = okP (mi ρ2) _
  rcases mi ρ2 with _ | ⟨q, ρ3⟩ <;> try rfl
  show okP (match peek ρ3 q with | some d => _ | none => none) _ = ok (peek ρ3 q) _
  rcases peek ρ3 q with _ | k <;> try rfl
  show okP (match ρ3[i]? with | some (some ⟨true, p, d⟩) => _ | _ => none) _ = ok (owned ρ3[i]?) _
  rcases ρ3[i]? with _ | _ | ⟨o, p, d⟩ <;> try rfl
  cases o <;> try rfl
  show okP (match stD d k y with | some d => _ | none => none) _ = ok (stD d k y) _
  rcases stD d k y with _ | z <;> rfl
@[simp] theorem stD_s (kvs : List (Key × D)) (x : Str) (y : D) : stD (.dic kvs) (.str x) y = (if kvs.length < sizeLine then some (.dic (putD kvs (.inr x) y)) else none) := rfl
@[simp] theorem stD_i (kvs : List (Key × D)) (x : Int) (y : D) : stD (.dic kvs) (.int x) y = (if kvs.length < sizeLine then some (.dic (putD kvs (.inl x) y)) else none) := rfl
end
end Mi
set_option Elab.async false
set_option linter.all false
set_option maxRecDepth 100000
set_option maxHeartbeats 1000000
set_option autoImplicit false
namespace Mi
noncomputable section
open PySem PySem.Spec PyProof.Rows L2
theorem inV_int (x : Int) (xs : List Int) : inV (.int x) (xs.map V.int) = decide (x ∈ xs) := by
  induction xs with
  | nil => simp [inV]
  | cons c bs ih =>
    simp [inV, eqV] at ih ⊢
    rw [ih]
    by_cases h1 : c = x
    · simp [h1]
    · have h2 : ¬ x = c := fun z => h1 z.symm
      simp [h1, h2]
theorem int_flat : ∀ bs : List Int, (bs.map D.int).all flatD = true
  | [] => rfl
  | b :: bs => by
    have := int_flat bs
    simp [flatD] at this ⊢
theorem in_intL (b : Int) (bs : List Int) : inD (.int b) (.lst (bs.map D.int)) = some (.sh (.bl (decide (b ∈ bs)))) := by
  have e : (bs.map D.int).map vOf = bs.map V.int := by simp [vOf, Function.comp_def]
  show ((match inB (.int b) (.lst (bs.map D.int)) with | some b => some b | none => inP (.int b) (.lst (bs.map D.int))).map _) = _
  have : inB (.int b) (.lst (bs.map D.int)) = some (decide (b ∈ bs)) := by
    show (if flatD (.int b) && (bs.map D.int).all flatD then some (inV (vOf (.int b)) ((bs.map D.int).map vOf)) else none) = _
    rw [int_flat, e]
    show (if (true && true) = true then some (inV (.int b) (bs.map V.int)) else none) = _
    rw [inV_int]; rfl
  rw [this]; rfl
theorem in_rng (b a : Int) (n : Nat) : inD (.int b) (.lst (dRange a n)) = some (.sh (.bl (decide (a ≤ b ∧ b < a + n)))) := by
  have e : dRange a n = ((List.range n).map fun (i : Nat) => a + i).map D.int := by simp [dRange]
  rw [e, in_intL]
  congr 3
  rw [decide_eq_decide]
  simp only [List.mem_map, List.mem_range]
  constructor
  · rintro ⟨i, hi, rfl⟩; omega
  · rintro ⟨h1, h2⟩; exact ⟨(b - a).toNat, by omega, by omega⟩
@[simp] theorem in_int1 (b c : Int) : inD (.int b) (.lst [.int c]) = some (.sh (.bl (decide (b = c)))) := by
  have := in_intL b [c]
  simpa using this
@[simp] theorem stpA_m (ds : List D) : stpA (.lst ds) (.int (-1)) = some (.ow (.lst ds.reverse)) := rfl
@[simp] theorem stpA_p (ds : List D) : stpA (.lst ds) (.int 1) = some (.ow (.lst ds)) := rfl
@[simp] theorem stpA_t (ds : List D) : stpA (.tup ds) (.int (-1)) = some (.sh (.tup ds.reverse)) := rfl
theorem lrD_ii {i j : Int} (h0 : 0 ≤ i) (h1 : i ≤ 1000000) (h2 : 0 ≤ j) (h3 : j ≤ 1000000) : lrD (.int i) (.int j) = some (.ow (.lst (dRange i (j - i).toNat))) := by
  show (if big (RgOk i j) then _ else none) = _
  exact if_pos (show big (RgOk i j) from RgOk.of_le h0 (by omega) (by omega) h2)
end
end Mi
set_option Elab.async false
set_option linter.all false
set_option maxRecDepth 100000
set_option maxHeartbeats 1000000
set_option autoImplicit false
namespace Mi
noncomputable section
open PySem PySem.Spec PyProof.Rows L2
/-! ### any plain data: how long it's shown, how deep it is -/
mutual
def wt : D → Nat
  | .non => 4
  | .bl _ => 5
  | .int _ => 21
  | .str x => 10 * x.length + 2
  | .tup ds => wts ds + 3
  | .lst ds => wts ds + 3
  | _ => 0
def wts : List D → Nat
  | [] => 0
  | d :: ds => wt d + 2 + wts ds
end
mutual
def dpt : D → Nat
  | .tup ds => dpts ds + 1
  | .lst ds => dpts ds + 1
  | _ => 0
def dpts : List D → Nat
  | [] => 0
  | d :: ds => max (dpt d) (dpts ds)
end
mutual
def plB : D → Bool
  | .non => true
  | .bl _ => true
  | .int i => decide (-1000000000 ≤ i ∧ i ≤ 1000000000)
  | .str x => x.cps.toList.all fun c => decide (c < 128)
  | .tup ds => plBs ds
  | .lst ds => plBs ds
  | _ => false
def plBs : List D → Bool
  | [] => true
  | d :: ds => plB d && plBs ds
end
theorem str_S (x : Str) : x = S x.cps.toList := by cases x; simp [S]
mutual
theorem pl_show : ∀ d : D, plB d = true → ∃ p, toG d = some p ∧ p.showable = true ∧ p.depth ≤ dpt d ∧ p.shown.length ≤ wt d
  | .non, _ => ⟨.none, rfl, rfl, Nat.zero_le _, by decide +kernel⟩
  | .bl b, _ => by
    obtain ⟨p, h1, h2, h3, h4⟩ := Rp.bl (n := 0) b
    exact ⟨p, h1, h2, h3, h4⟩
  | .int i, h => by
    have h' := of_decide_eq_true h
    obtain ⟨p, h1, h2, h3, h4⟩ := Rp.int (n := 0) (i := i) (by omega)
    exact ⟨p, h1, h2, h3, h4⟩
  | .str x, h => by
    have ha : Asc x.cps.toList := fun c hc => of_decide_eq_true (List.all_eq_true.mp h c hc)
    obtain ⟨p, h1, h2, h3, h4⟩ := Rp.str (n := 0) ha
    rw [← str_S] at h1
    exact ⟨p, h1, h2, h3, by rw [wt]; have : x.length = x.cps.toList.length := by simp [Str.length]
                             rw [this]; exact h4⟩
  | .tup ds, h => by
    obtain ⟨ps, g1, g2, g3, g4⟩ := pl_shows ds h
    refine ⟨.tuple ps, by show (toGs ds).map PyData.tuple = _; rw [g1]; rfl, g2, by show PyData.depthAll ps + 1 ≤ dpts ds + 1; omega, ?_⟩
    show (tupleText (PyData.shownAll ps)).length ≤ wts ds + 3
    unfold tupleText
    rw [strLen_append, strLen_append]
    have e1 : (Str.ofString "(").length = 1 := rfl
    have e2 : (Str.ofString (if (PyData.shownAll ps).length == 1 then ",)" else ")")).length ≤ 2 := by split <;> decide
    have := join_le (PyData.shownAll ps)
    omega
  | .lst ds, h => by
    obtain ⟨ps, g1, g2, g3, g4⟩ := pl_shows ds h
    refine ⟨.list ps, by show (toGs ds).map PyData.list = _; rw [g1]; rfl, g2, by show PyData.depthAll ps + 1 ≤ dpts ds + 1; omega, ?_⟩
    show (listText (PyData.shownAll ps)).length ≤ wts ds + 3
    unfold listText
    rw [strLen_append]
    have e1 : (Str.ofString "]").length = 1 := rfl
    have e2 : (Str.ofString "[").length = 1 := rfl
    have := textFrom_le (PyData.shownAll ps) 0 "["
    omega
  | .frl _, h => by cases h
  | .dic _, h => by cases h
  | .ty _, h => by cases h
theorem pl_shows : ∀ ds : List D, plBs ds = true → ∃ ps, toGs ds = some ps ∧ PyData.showableAll ps = true ∧ PyData.depthAll ps ≤ dpts ds ∧ piled (PyData.shownAll ps) ≤ wts ds
  | [], _ => ⟨[], rfl, rfl, Nat.zero_le _, by simp [PyData.shownAll, piled, wts]⟩
  | d :: ds, h => by
    have h' : (plB d && plBs ds) = true := h
    rw [Bool.and_eq_true] at h'
    obtain ⟨p, h1, h2, h3, h4⟩ := pl_show d h'.1
    obtain ⟨ps, g1, g2, g3, g4⟩ := pl_shows ds h'.2
    refine ⟨p :: ps, ?_, ?_, ?_, ?_⟩
    · show (match toG d, toGs ds with | some p, some ps => _ | _, _ => none) = _
      rw [h1, g1]
    · show (p.showable && PyData.showableAll ps) = true
      rw [h2, g2]; rfl
    · show max p.depth (PyData.depthAll ps) ≤ max (dpt d) (dpts ds)
      omega
    · show piled (p.shown :: PyData.shownAll ps) ≤ wt d + 2 + wts ds
      rw [piled_cons]
      omega
end
theorem pl_rp {d : D} (h : plB d = true) : Rp (wt d) (dpt d) d := pl_show d h
mutual
theorem pl_lay : ∀ d : D, plB d = true → ∃ p, toP d = some p ∧ p.canLay0 = true ∧ p.depth ≤ dpt d
  | .non, _ => ⟨.none, rfl, rfl, Nat.zero_le _⟩
  | .bl b, _ => ⟨.bool b, rfl, rfl, Nat.zero_le _⟩
  | .int i, h => ⟨.int i, rfl, rfl, Nat.zero_le _⟩
  | .str x, h => by
    refine ⟨.str x, rfl, ?_, Nat.zero_le _⟩
    show PyData.strOk x = true
    simp only [PyData.strOk, Array.all_eq_true', decide_eq_true_eq]
    intro c hc
    have := of_decide_eq_true (List.all_eq_true.mp (show x.cps.toList.all (fun c => decide (c < 128)) = true from h) c (by simpa using hc))
    omega
  | .tup ds, h => by
    obtain ⟨ps, g1, g2, g3⟩ := pl_lays ds h
    exact ⟨.tuple ps, by show (toPs ds).map PyData.tuple = _; rw [g1]; rfl, g2, by show PyData.depthAll ps + 1 ≤ dpts ds + 1; omega⟩
  | .lst ds, h => by
    obtain ⟨ps, g1, g2, g3⟩ := pl_lays ds h
    exact ⟨.list ps, by show (toPs ds).map PyData.list = _; rw [g1]; rfl, g2, by show PyData.depthAll ps + 1 ≤ dpts ds + 1; omega⟩
  | .frl _, h => by cases h
  | .dic _, h => by cases h
  | .ty _, h => by cases h
theorem pl_lays : ∀ ds : List D, plBs ds = true → ∃ ps, toPs ds = some ps ∧ PyData.canLayAll0 ps = true ∧ PyData.depthAll ps ≤ dpts ds
  | [], _ => ⟨[], rfl, rfl, Nat.zero_le _⟩
  | d :: ds, h => by
    have h' : (plB d && plBs ds) = true := h
    rw [Bool.and_eq_true] at h'
    obtain ⟨p, h1, h2, h3⟩ := pl_lay d h'.1
    obtain ⟨ps, g1, g2, g3⟩ := pl_lays ds h'.2
    refine ⟨p :: ps, ?_, ?_, ?_⟩
    · show (match toP d, toPs ds with | some p, some ps => _ | _, _ => none) = _
      rw [h1, g1]
    · show (p.canLay0 && PyData.canLayAll0 ps) = true
      rw [h2, g2]; rfl
    · show max p.depth (PyData.depthAll ps) ≤ max (dpt d) (dpts ds)
      omega
end
theorem plBs_all : ∀ {ds : List D}, plBs ds = true → ∀ x ∈ ds, plB x = true
  | d :: ds, h, x, hx => by
    have h' : (plB d && plBs ds) = true := h
    rw [Bool.and_eq_true] at h'
    rcases List.mem_cons.mp hx with rfl | hx
    · exact h'.1
    · exact plBs_all h'.2 x hx
theorem plBs_of : ∀ {ds : List D}, (∀ x ∈ ds, plB x = true) → plBs ds = true
  | [], _ => rfl
  | d :: ds, h => by
    show (plB d && plBs ds) = true
    rw [h d (by simp), plBs_of fun x hx => h x (by simp [hx])]; rfl
theorem dpts_le : ∀ {ds : List D} {x : D}, x ∈ ds → dpt x ≤ dpts ds
  | d :: ds, x, hx => by
    show dpt x ≤ max (dpt d) (dpts ds)
    rcases List.mem_cons.mp hx with rfl | hx
    · omega
    · have := dpts_le hx; omega
theorem dpts_of : ∀ {ds : List D} {n : Nat}, (∀ x ∈ ds, dpt x ≤ n) → dpts ds ≤ n
  | [], n, _ => Nat.zero_le _
  | d :: ds, n, h => by
    show max (dpt d) (dpts ds) ≤ n
    have := h d (by simp)
    have := dpts_of (ds := ds) fun x hx => h x (by simp [hx])
    omega
theorem wts_le : ∀ {ds : List D} {x : D}, x ∈ ds → wt x + 2 ≤ wts ds
  | d :: ds, x, hx => by
    show wt x + 2 ≤ wt d + 2 + wts ds
    rcases List.mem_cons.mp hx with rfl | hx
    · omega
    · have := wts_le hx; omega
theorem wts_len : ∀ (ds : List D), 2 * ds.length ≤ wts ds
  | [] => by simp [wts]
  | d :: ds => by
    have := wts_len ds
    show 2 * (ds.length + 1) ≤ wt d + 2 + wts ds
    omega
theorem wts_app : ∀ (ds es : List D), wts (ds ++ es) = wts ds + wts es
  | [], es => by simp [wts]
  | d :: ds, es => by
    have := wts_app ds es
    show wt d + 2 + wts (ds ++ es) = wt d + 2 + wts ds + wts es
    omega
theorem pl_sd : ∀ (n : Nat) {d : D}, plB d = true → dpt d < n → wt d ≤ 1000000 → Sd n d
  | 0, d, _, h, _ => by omega
  | n + 1, d, hp, hd, hw => by
    cases d with
    | non => exact trivial
    | bl b => exact trivial
    | int i => exact trivial
    | str x => exact trivial
    | tup ds =>
      have := wts_len ds
      simp only [dpt, wt] at hd hw
      exact ⟨by omega, fun x hx => pl_sd n (plBs_all hp x hx) (by have := dpts_le hx; omega) (by have := wts_le hx; omega)⟩
    | lst ds =>
      have := wts_len ds
      simp only [dpt, wt] at hd hw
      exact ⟨by omega, fun x hx => pl_sd n (plBs_all hp x hx) (by have := dpts_le hx; omega) (by have := wts_le hx; omega)⟩
    | _ => cases hp
end
end Mi
set_option Elab.async false
set_option linter.all false
set_option maxRecDepth 100000
set_option maxHeartbeats 1000000
set_option autoImplicit false
namespace Mi
noncomputable section
open PySem PySem.Spec PyProof.Rows L2
/-! ### plain data with small numbers -/
mutual
def plI (B : Int) : D → Bool
  | .non => true
  | .bl _ => true
  | .int i => decide (-B ≤ i ∧ i ≤ B)
  | .str x => x.cps.toList.all fun c => decide (c < 128)
  | .tup ds => plIs B ds
  | .lst ds => plIs B ds
  | _ => false
def plIs (B : Int) : List D → Bool
  | [] => true
  | d :: ds => plI B d && plIs B ds
end
mutual
theorem plI_mono {B C : Int} (h : B ≤ C) : ∀ d : D, plI B d = true → plI C d = true
  | .non, _ => rfl
  | .bl _, _ => rfl
  | .int i, q => by have := of_decide_eq_true q; exact decide_eq_true (by omega)
  | .str _, q => q
  | .tup ds, q => plIs_mono h ds q
  | .lst ds, q => plIs_mono h ds q
  | .frl _, q => by cases q
  | .dic _, q => by cases q
  | .ty _, q => by cases q
theorem plIs_mono {B C : Int} (h : B ≤ C) : ∀ ds : List D, plIs B ds = true → plIs C ds = true
  | [], _ => rfl
  | d :: ds, q => by
    have q' : (plI B d && plIs B ds) = true := q
    rw [Bool.and_eq_true] at q'
    show (plI C d && plIs C ds) = true
    rw [plI_mono h d q'.1, plIs_mono h ds q'.2]; rfl
end
mutual
theorem plI_B {B : Int} (h : B ≤ 1000000000) : ∀ d : D, plI B d = true → plB d = true
  | .non, _ => rfl
  | .bl _, _ => rfl
  | .int i, q => by have := of_decide_eq_true q; exact decide_eq_true (by omega)
  | .str _, q => q
  | .tup ds, q => plIs_B h ds q
  | .lst ds, q => plIs_B h ds q
  | .frl _, q => by cases q
  | .dic _, q => by cases q
  | .ty _, q => by cases q
theorem plIs_B {B : Int} (h : B ≤ 1000000000) : ∀ ds : List D, plIs B ds = true → plBs ds = true
  | [], _ => rfl
  | d :: ds, q => by
    have q' : (plI B d && plIs B ds) = true := q
    rw [Bool.and_eq_true] at q'
    show (plB d && plBs ds) = true
    rw [plI_B h d q'.1, plIs_B h ds q'.2]; rfl
end
theorem plIs_all {B : Int} : ∀ {ds : List D}, plIs B ds = true → ∀ x ∈ ds, plI B x = true
  | d :: ds, h, x, hx => by
    have h' : (plI B d && plIs B ds) = true := h
    rw [Bool.and_eq_true] at h'
    rcases List.mem_cons.mp hx with rfl | hx
    · exact h'.1
    · exact plIs_all h'.2 x hx
theorem plIs_of {B : Int} : ∀ {ds : List D}, (∀ x ∈ ds, plI B x = true) → plIs B ds = true
  | [], _ => rfl
  | d :: ds, h => by
    show (plI B d && plIs B ds) = true
    rw [h d (by simp), plIs_of fun x hx => h x (by simp [hx])]; rfl
/-- plain, numbers to B, shown by m, n deep -/
structure Gp (B : Int) (m n : Nat) (d : D) : Prop where
  pl : plI B d = true
  wt : wt d ≤ m
  dp : dpt d ≤ n
theorem Gp.mono {B C : Int} {m n k l : Nat} {d : D} (h : Gp B m n d) (h1 : B ≤ C) (h2 : m ≤ k) (h3 : n ≤ l) : Gp C k l d := ⟨plI_mono h1 d h.pl, Nat.le_trans h.wt h2, Nat.le_trans h.dp h3⟩
/-- a tuple of some of a tuple's things and of others -/
theorem Gp.tup {B : Int} {n : Nat} {ds : List D} (h : ∀ x ∈ ds, plI B x = true ∧ dpt x ≤ n) {m : Nat} (hw : wts ds + 3 ≤ m) : Gp B m (n + 1) (.tup ds) :=
  ⟨plIs_of fun x hx => (h x hx).1, hw, by show dpts ds + 1 ≤ n + 1; have := dpts_of (ds := ds) fun x hx => (h x hx).2; omega⟩
theorem Gp.lst {B : Int} {n : Nat} {ds : List D} (h : ∀ x ∈ ds, plI B x = true ∧ dpt x ≤ n) {m : Nat} (hw : wts ds + 3 ≤ m) : Gp B m (n + 1) (.lst ds) :=
  ⟨plIs_of fun x hx => (h x hx).1, hw, by show dpts ds + 1 ≤ n + 1; have := dpts_of (ds := ds) fun x hx => (h x hx).2; omega⟩
theorem wts_take : ∀ (ds : List D) (n : Nat), wts (ds.take n) ≤ wts ds
  | [], n => by simp
  | d :: ds, 0 => by simp [wts]
  | d :: ds, n + 1 => by
    have := wts_take ds n
    show wt d + 2 + wts (ds.take n) ≤ wt d + 2 + wts ds
    omega
theorem wts_split (ds : List D) (n : Nat) (h : n < ds.length) : wts (ds.take n) + (wt ds[n] + 2) + wts (ds.drop (n + 1)) = wts ds := by
  have e : ds = ds.take n ++ (ds[n] :: ds.drop (n + 1)) := by simp
  have := wts_app (ds.take n) (ds[n] :: ds.drop (n + 1))
  rw [← e] at this
  rw [this]
  show _ = _ + (wt ds[n] + 2 + wts (ds.drop (n + 1)))
  omega
theorem wts_rev : ∀ (ds : List D), wts ds.reverse = wts ds
  | [] => rfl
  | d :: ds => by
    rw [List.reverse_cons, wts_app, wts_rev ds]
    show wts ds + (wt d + 2 + 0) = wt d + 2 + wts ds
    omega
theorem ok_last {α : Type} {xs : List α} {Q : α → Prop} (h : xs ≠ []) (k : ∀ x ∈ xs, Q x) : ok (atI xs (-1)) Q := by
  have hp := List.length_pos_iff.mpr h
  have e : atI xs (-1) = some (xs[xs.length - 1]'(by omega)) := by
    have e1 : ixN xs.length (-1) = some (xs.length - 1) := by
      unfold ixN
      rw [if_neg (by decide)]
      simp
      omega
    unfold atI
    rw [e1]
    simp
  rw [e]
  exact k _ (List.getElem_mem _)
theorem eq_unit {ds : List D} (h : plBs ds = true) (hd : dpts ds ≤ 60) : eqD (.tup ds) (.tup []) = some (.sh (.bl (decide (ds = [])))) := by
  obtain ⟨ps, e1, e2, e3⟩ := pl_lays ds h
  have a : toP (.tup ds) = some (.tuple ps) := by show (toPs ds).map PyData.tuple = _; rw [e1]; rfl
  have b : toP (.tup []) = some (.tuple []) := rfl
  have c : SeqAt.shaped (.tuple ps) = true := by
    simp [SeqAt.shaped, PyData.canLay0, e2, PyData.depth]; omega
  have f : SeqAt.shaped (.tuple []) = true := by decide
  show (eqB (.tup ds) (.tup [])).map _ = _
  have g : eqB (.tup ds) (.tup []) = some (decide (ds = [])) := by
    show eqP _ _ = _
    unfold eqP
    rw [a, b]
    simp only [c, f]
    rcases ds with _ | ⟨d, ds⟩
    · have : ps = [] := by simpa [toPs] using e1.symm
      subst this; rfl
    · have : ∃ p r, ps = p :: r := by
        rcases ps with _ | ⟨p, r⟩
        · exfalso
          have e1' : (match toP d, toPs ds with | some p, some ps => some (p :: ps) | _, _ => none) = some [] := e1
          split at e1' <;> cases e1'
        · exact ⟨p, r, rfl⟩
      obtain ⟨p, r, rfl⟩ := this
      rfl
  rw [g]; rfl
@[simp] theorem w_mSlW {m : ME} {lo hi : MO} {ρ : En} {QE : Rv → En → Prop} : wp (mSlW m lo hi) ρ QE = wp m ρ fun r ρ1 => wp lo ρ1 fun a ρ2 => wp hi ρ2 fun b ρ3 => ok (peek ρ3 r) fun d => ok (slWD d a b) fun z => QE z.rv ρ3 := by
  unfold wp mSlW
  rcases m ρ with _ | ⟨r, ρ1⟩ <;> try rfl
  show okP (match lo ρ1 with | some (q, ρ2) => _ | none => none) _ = okP (lo ρ1) _
  rcases lo ρ1 with _ | ⟨a, ρ2⟩ <;> try rfl
  show okP (match hi ρ2 with | some (q, ρ2) => _ | none => none) _ = okP (hi ρ2) _
  rcases hi ρ2 with _ | ⟨b, ρ3⟩ <;> try rfl
  show okP (match peek ρ3 r with | some d => _ | none => none) _ = ok (peek ρ3 r) _
  rcases peek ρ3 r with _ | d <;> try rfl
  show okP (match slWD d a b with | some d => _ | none => none) _ = ok (slWD d a b) _
  rcases slWD d a b with _ | z <;> rfl
@[simp] theorem slWD_t (ds : List D) (lo hi : Option Int) : slWD (.tup ds) lo hi = some (.sh (.tup (cutA ds lo hi))) := rfl
end
end Mi
set_option Elab.async false
set_option linter.all false
set_option maxRecDepth 100000
set_option maxHeartbeats 1000000
set_option autoImplicit false
namespace Mi
noncomputable section
open PySem PySem.Spec PyProof.Rows L2
def rvS : Rv → Option D
  | .sh d => some d
  | _ => none
@[simp] theorem rvS_s (d : D) : rvS (.sh d) = some d := rfl
@[simp] theorem w_mGet2 {o m n : ME} {ρ : En} {QE : Rv → En → Prop} : wp (mGet2 o m n) ρ QE = wp o ρ fun r ρ0 => ok (peek ρ0 r) fun d0 => isDc d0 = true ∧ wp m ρ0 fun a ρ1 => ok (rvS a) fun k => wp n ρ1 fun b ρ2 => ok (rvS b) fun x => ok (peek ρ2 r) fun d => ok (getWD d k x) fun z => QE (.sh z) ρ2 := by
  unfold wp mGet2
  rcases o ρ with _ | ⟨r, ρ0⟩ <;> try rfl
  show okP (match peek ρ0 r with | some d => _ | none => none) _ = ok (peek ρ0 r) _
  rcases peek ρ0 r with _ | d0 <;> try rfl
  show okP (if isDc d0 = true then _ else none) _ = _
  by_cases hd : isDc d0 = true
  · rw [if_pos hd]
    simp only [ok_some, hd, true_and]
    show okP (match m ρ0 with | some (.sh k, ρ1) => _ | _ => none) _ = okP (m ρ0) _
    rcases m ρ0 with _ | ⟨a, ρ1⟩ <;> try rfl
    cases a with
    | sh k =>
      show okP (match n ρ1 with | some (.sh k, ρ1) => _ | _ => none) _ = okP (n ρ1) _
      rcases n ρ1 with _ | ⟨b, ρ2⟩ <;> try rfl
      cases b with
      | sh x =>
        show okP (match peek ρ2 r with | some d => _ | none => none) _ = ok (peek ρ2 r) _
        rcases peek ρ2 r with _ | d <;> try rfl
        show okP (match getWD d k x with | some z => _ | none => none) _ = ok (getWD d k x) _
        rcases getWD d k x with _ | z <;> rfl
      | _ => rfl
    | _ => rfl
  · rw [if_neg hd]
    simp [hd, okP]
@[simp] theorem isDc_d (kvs : List (Key × D)) : isDc (.dic kvs) = true := rfl
@[simp] theorem getWD_s (kvs : List (Key × D)) (x : Str) (d : D) : getWD (.dic kvs) (.str x) d = some ((valD kvs (.inr x)).getD d) := rfl
theorem in_ch (c : Nat) (l : List Nat) : inD (.str (S [c])) (.str (S l)) = some (.sh (.bl (decide (c ∈ l)))) := by
  have := PySem.StrLaws.found_one (S l) c
  show (inA _ _).map _ = _
  have e : inA (.str (S [c])) (.str (S l)) = some (decide (c ∈ l)) := by
    have e2 : inB (.str (S [c])) (.str (S l)) = some (decide (c ∈ l)) := congrArg some this
    unfold inA
    rw [e2]
  rw [e]; rfl
theorem nin_ch (c : Nat) (l : List Nat) : notInD (.str (S [c])) (.str (S l)) = some (.sh (.bl (!decide (c ∈ l)))) := by
  have h := in_ch c l
  unfold inD at h
  unfold notInD
  cases q : inA (.str (S [c])) (.str (S l)) with
  | none => rw [q] at h; cases h
  | some b => rw [q] at h; simp at h; simp [h]
/-! ### dicts of truths by texts -/
def kvB (l : List (List Nat × Bool)) : List (Key × D) := l.map fun p => (.inr (S p.1), .bl p.2)
def putB (l : List (List Nat × Bool)) (s : List Nat) (b : Bool) : List (List Nat × Bool) := if l.any (fun p => decide (p.1 = s)) then l.map (fun p => if p.1 = s then (p.1, b) else p) else l ++ [(s, b)]
def getB (l : List (List Nat × Bool)) (s : List Nat) : Bool := match l.find? fun p => decide (p.1 = s) with
  | some p => p.2
  | none => false
theorem key_S (a b : List Nat) : ((.inr (S a) : Key) = .inr (S b)) ↔ a = b := by simp
theorem put_kvB (l : List (List Nat × Bool)) (s : List Nat) (b : Bool) : putD (kvB l) (.inr (S s)) (.bl b) = kvB (putB l s b) := by
  have h1 : ((kvB l).any fun kv => decide (kv.1 = (.inr (S s) : Key))) = l.any fun p => decide (p.1 = s) := by
    induction l with
    | nil => rfl
    | cons p l ih => simp only [kvB, List.map_cons, List.any_cons] at ih ⊢; rw [ih]; simp
  unfold putD putB
  rw [h1]
  split
  · simp only [kvB, List.map_map]
    refine List.map_congr_left fun p _ => ?_
    by_cases h : p.1 = s <;> simp [h]
  · simp [kvB]
theorem get_kvB (l : List (List Nat × Bool)) (s : List Nat) : (valD (kvB l) (.inr (S s))).getD (.bl false) = .bl (getB l s) := by
  induction l with
  | nil => rfl
  | cons p l ih =>
    by_cases h : p.1 = s
    · simp [valD, kvB, getB, h]
    · have e1 : valD (kvB (p :: l)) (.inr (S s)) = valD (kvB l) (.inr (S s)) := by simp [valD, kvB, h]
      have e2 : getB (p :: l) s = getB l s := by simp [getB, h]
      rw [e1, e2, ih]
theorem val_kvB {l : List (List Nat × Bool)} {s : List Nat} (h : s ∈ l.map (·.1)) : valD (kvB l) (.inr (S s)) = some (.bl (getB l s)) := by
  induction l with
  | nil => cases h
  | cons p l ih =>
    by_cases q : p.1 = s
    · simp [valD, kvB, getB, q]
    · have e1 : valD (kvB (p :: l)) (.inr (S s)) = valD (kvB l) (.inr (S s)) := by simp [valD, kvB, q]
      have e2 : getB (p :: l) s = getB l s := by simp [getB, q]
      rw [e1, e2]
      refine ih ?_
      simp only [List.map_cons, List.mem_cons] at h
      rcases h with h | h
      · exact absurd h.symm q
      · exact h
theorem len_putB (l : List (List Nat × Bool)) (s : List Nat) (b : Bool) : (putB l s b).length ≤ l.length + 1 := by
  unfold putB; split <;> simp
@[simp] theorem kvB_len (l : List (List Nat × Bool)) : (kvB l).length = l.length := by simp [kvB]
theorem keys_putB {l : List (List Nat × Bool)} {s : List Nat} {b : Bool} {k : List Nat} (h : k ∈ (putB l s b).map (·.1)) : k = s ∨ k ∈ l.map (·.1) := by
  unfold putB at h
  split at h
  · simp only [List.map_map, List.mem_map] at h
    obtain ⟨p, hp, rfl⟩ := h
    right
    simp only [List.mem_map]
    exact ⟨p, hp, by simp only [Function.comp]; split <;> rfl⟩
  · simp at h
    rcases h with h | h
    · right; simpa using h
    · exact .inl h
theorem keysS_kvB : ∀ l : List (List Nat × Bool), keysS (kvB l) = some (l.map fun p => S p.1)
  | [] => rfl
  | p :: l => by
    show (match keysS (kvB l) with | some ks => some (S p.1 :: ks) | none => none) = _
    rw [keysS_kvB l]; rfl
theorem sort_kvB {l : List (List Nat × Bool)} (h : l.length < 64) : sortD [.dic (kvB l)] = some (.ow (.lst ((sortS (l.map fun p => S p.1)).map .str))) := by
  show (match keysS (kvB l) with | some ks => if ks.length < 64 then some (Rs.ow (.lst ((sortS ks).map .str))) else none | none => none) = _
  rw [keysS_kvB]
  simp [h]
theorem sortS_S {ks : List (List Nat)} {y : Str} (h : y ∈ sortS (ks.map S)) : ∃ k ∈ ks, y = S k := by
  obtain ⟨k, hk, e⟩ := List.mem_map.mp (sortS_mem h)
  exact ⟨k, hk, e.symm⟩
end
end Mi
set_option Elab.async false
set_option linter.all false
set_option maxRecDepth 100000
set_option maxHeartbeats 1000000
set_option autoImplicit false
namespace Mi
noncomputable section
open PySem PySem.Spec PyProof.Rows L2
@[simp] theorem w_mBor {m : ME} {ρ : En} {QE : Rv → En → Prop} : wp (mBor m) ρ QE = wp m (fzA ρ) fun r _ => ok (rvS r) fun d => scl d = true ∧ QE (.sh d) ρ := by
  unfold wp mBor
  rcases m (fzA ρ) with _ | ⟨r, ρ1⟩ <;> try rfl
  cases r with
  | sh d =>
    show okP (if scl d = true then some (Rv.sh d, ρ) else none) QE = (scl d = true ∧ QE (.sh d) ρ)
    by_cases h : scl d = true
    · rw [if_pos h]; simp [h, okP]
    · rw [if_neg h]; simp [h, okP]
  | _ => rfl
@[simp] theorem fzA_nil : fzA [] = [] := rfl
@[simp] theorem fzA_n (ρ : En) : fzA (none :: ρ) = none :: fzA ρ := rfl
@[simp] theorem fzA_s (w : W) (ρ : En) : fzA (some w :: ρ) = some ⟨false, w.pin, w.d⟩ :: fzA ρ := rfl
@[simp] theorem scl_b (b : Bool) : scl (.bl b) = true := rfl
@[simp] theorem scl_n : scl .non = true := rfl
@[simp] theorem scl_i (i : Int) : scl (.int i) = true := rfl
@[simp] theorem scl_s (x : Str) : scl (.str x) = true := rfl
@[simp] theorem fzA_c (x : Option W) (ρ : En) : fzA (x :: ρ) = fzW x :: fzA ρ := rfl
@[simp] theorem fzW_s (w : W) : fzW (some w) = some ⟨false, w.pin, w.d⟩ := rfl
@[simp] theorem fzW_n : fzW none = none := rfl
end
end Mi
set_option Elab.async false
set_option linter.all false
set_option maxRecDepth 100000
set_option maxHeartbeats 1000000
set_option autoImplicit false
namespace Mi
noncomputable section
open PySem PySem.Spec PyProof.Rows L2
/-- a slot that is shared -/
def shd : Option (Option W) → Option D
  | some (some ⟨false, _, d⟩) => some d
  | _ => none
@[simp] theorem shd_s (p : Bool) (d : D) : shd (some (some ⟨false, p, d⟩)) = some d := rfl
def lstD : D → Option (List D)
  | .lst ds => some ds
  | _ => none
@[simp] theorem lstD_l (ds : List D) : lstD (.lst ds) = some ds := rfl
def owD : Rv → Option (List (Key × D))
  | .ow (.dic kvs) => some kvs
  | _ => none
@[simp] theorem owD_d (kvs : List (Key × D)) : owD (.ow (.dic kvs)) = some kvs := rfl
theorem w_mAS {i ky kv : Nat} {m : ME} {ρ : En} {QS : Out → En → Prop} (h : ok (owned ρ[i]?) fun x => ok (lstD x.2) fun _ => wp m ρ fun r ρ1 => ok (owD r) fun kvs => ok (owned ρ1[i]?) fun x => ok (lstD x.2) fun ds => ok (shd ρ1[ky]?) fun kd => ok (shd ρ1[kv]?) fun y => ok (keyD kd) fun kk =>
    ds.length < sizeLine ∧ kvs.length < sizeLine ∧ QS .nx (ρ1.set i (some ⟨true, x.1, .lst (ds ++ [.dic (putD kvs kk y)])⟩))) : wp (mAS i m ky kv) ρ QS := by
  obtain ⟨⟨p0, d0⟩, e0, h⟩ := ok_ex h
  obtain ⟨ds0, e1, h⟩ := ok_ex h
  obtain ⟨r, ρ1, e2, h⟩ := wp_ex h
  obtain ⟨kvs, e3, h⟩ := ok_ex h
  obtain ⟨⟨p, d⟩, e4, h⟩ := ok_ex h
  obtain ⟨ds, e5, h⟩ := ok_ex h
  obtain ⟨kd, e6, h⟩ := ok_ex h
  obtain ⟨y, e7, h⟩ := ok_ex h
  obtain ⟨kk, e8, h1, h2, h⟩ := ok_ex h
  refine wp_of ?_ h
  have o0 : ∃ q, ρ[i]? = some (some ⟨true, q, .lst ds0⟩) := by
    rcases q : ρ[i]? with _ | _ | ⟨o, p, d⟩ <;> rw [q] at e0 <;> try cases e0
    cases o <;> cases e0
    cases d0 <;> cases e1
    exact ⟨_, rfl⟩
  have o1 : ρ1[i]? = some (some ⟨true, p, .lst ds⟩) := by
    rcases q : ρ1[i]? with _ | _ | ⟨o, p, d⟩ <;> rw [q] at e4 <;> try cases e4
    cases o <;> cases e4
    cases d <;> cases e5
    rfl
  have o2 : ∃ q, ρ1[ky]? = some (some ⟨false, q, kd⟩) := by
    rcases q : ρ1[ky]? with _ | _ | ⟨o, p, d⟩ <;> rw [q] at e6 <;> try cases e6
    cases o <;> cases e6
    exact ⟨_, rfl⟩
  have o3 : ∃ q, ρ1[kv]? = some (some ⟨false, q, y⟩) := by
    rcases q : ρ1[kv]? with _ | _ | ⟨o, p, d⟩ <;> rw [q] at e7 <;> try cases e7
    cases o <;> cases e7
    exact ⟨_, rfl⟩
  obtain ⟨q0, o0⟩ := o0
  obtain ⟨q2, o2⟩ := o2
  obtain ⟨q3, o3⟩ := o3
  have o4 : r = .ow (.dic kvs) := by
    cases r with
    | ow d => cases d <;> cases e3; rfl
    | _ => cases e3
  subst o4
  unfold mAS
  simp only [o0, e2, o1, o2, o3, e8]
  rw [if_pos ⟨h1, h2⟩]
def twoD : List D → Option (D × D)
  | [a, b] => some (a, b)
  | _ => none
@[simp] theorem twoD_t (a b : D) : twoD [a, b] = some (a, b) := rfl
@[simp] theorem w_mDZ {m : MA} {ρ : En} {QE : Rv → En → Prop} : wp (mDZ m) ρ QE = wp m ρ fun rs ρ1 => ok (peeks ρ1 rs) fun ds => ok (twoD ds) fun p => ok (dzD p.1 p.2) fun z => QE z.rv ρ1 := by
  unfold wp mDZ
  rcases m ρ with _ | ⟨rs, ρ1⟩ <;> try rfl
  show okP (match peeks ρ1 rs with | some [a, b] => _ | _ => none) _ = ok (peeks ρ1 rs) _
  rcases peeks ρ1 rs with _ | ds <;> try rfl
  rcases ds with _ | ⟨a, _ | ⟨b, _ | ⟨c, ds⟩⟩⟩ <;> try rfl
  show okP (match dzD a b with | some z => _ | none => none) _ = ok (dzD a b) _
  rcases dzD a b with _ | z <;> rfl
@[simp] theorem dictCD_d (kvs : List (Key × D)) : dictCD [.dic kvs] = some (.ow (.dic kvs)) := rfl
end
end Mi
set_option Elab.async false
set_option linter.all false
set_option maxRecDepth 100000
set_option maxHeartbeats 1000000
set_option autoImplicit false
namespace Mi
noncomputable section
open PySem PySem.Spec PyProof.Rows L2
def oneD : List D → Option D
  | [a] => some a
  | _ => none
@[simp] theorem oneD_o (a : D) : oneD [a] = some a := rfl
@[simp] theorem w_mLE {m : MA} {ρ : En} {QE : Rv → En → Prop} : wp (mLE m) ρ QE = wp m ρ fun rs ρ1 => ok (peeks ρ1 rs) fun ds => ok (oneD ds) fun a => ok (enD a) fun z => QE z.rv ρ1 := by
  unfold wp mLE
  rcases m ρ with _ | ⟨rs, ρ1⟩ <;> try rfl
  show okP (match peeks ρ1 rs with | some [a] => _ | _ => none) _ = ok (peeks ρ1 rs) _
  rcases peeks ρ1 rs with _ | ds <;> try rfl
  rcases ds with _ | ⟨a, _ | ⟨b, ds⟩⟩ <;> try rfl
  show okP (match enD a with | some z => _ | none => none) _ = ok (enD a) _
  rcases enD a with _ | z <;> rfl
@[simp] theorem enD_l (ds : List D) : enD (.lst ds) = some (.ow (.lst (enL 0 ds))) := rfl
@[simp] theorem w_mDc {mi : MI} {tg : D → En → Option En} {tt : MT} {tk tv : ME} {vs : List Nat} {ρ : En} {QE : Rv → En → Prop} : wp (mDc mi tg tt tk tv vs) ρ QE = wp mi ρ fun ds ρ1 => wp (dcL tg tt tk tv vs ds []) (wipeR ρ1 vs) fun acc ρ2 => QE (.ow (.dic acc)) (resto ρ1 ρ2 vs) := by
  unfold wp mDc
  rcases mi ρ with _ | ⟨ds, ρ1⟩ <;> try rfl
  show okP (match dcL tg tt tk tv vs ds [] (wipeR ρ1 vs) with | some (acc, ρ2) => _ | none => none) _ = okP (dcL tg tt tk tv vs ds [] (wipeR ρ1 vs)) _
  rcases dcL tg tt tk tv vs ds [] (wipeR ρ1 vs) with _ | ⟨acc, ρ2⟩ <;> rfl
section
variable {tg : D → En → Option En} {tt : MT} {tk tv : ME} {vs : List Nat} {ρ : En} {Q : List (Key × D) → En → Prop}
@[simp] theorem dc_nil {acc : List (Key × D)} : wp (dcL tg tt tk tv vs [] acc) ρ Q = Q acc ρ := nr rfl
@[simp] theorem dc_cons {acc : List (Key × D)} {d : D} {ds : List D} : wp (dcL tg tt tk tv vs (d :: ds) acc) ρ Q = ok (tg d ρ) fun ρ1 => wp tt ρ1 fun c ρ2 =>
    ev ρ2 fun ρ2 => br c (wp tk ρ2 fun r ρ3 => ok (peek ρ3 r) fun kd => ok (keyD kd) fun kk => wp tv ρ3 fun q ρ4 => ok (shr ρ4 q) fun p => acc.length < sizeLine ∧ wp (dcL tg tt tk tv vs ds (putD acc kk p.1)) (wipeR p.2 vs) Q) (wp (dcL tg tt tk tv vs ds acc) (wipeR ρ2 vs) Q) := by
  unfold wp
  show okP (match tg d ρ with | some ρ1 => _ | none => none) _ = ok (tg d ρ) _
  rcases tg d ρ with _ | ρ1 <;> try rfl
  show okP (match tt ρ1 with | some (true, ρ2) => _ | some (false, ρ2) => _ | none => none) _ = okP (tt ρ1) _
  rcases tt ρ1 with _ | ⟨c, ρ2⟩ <;> try rfl
  cases c
  · simp [okP, ev]
  · simp only [okP, ev_go, br_true]
    show okP (match tk ρ2 with | some (r, ρ3) => _ | none => none) _ = okP (tk ρ2) _
    rcases tk ρ2 with _ | ⟨r, ρ3⟩ <;> try rfl
    show okP (match peek ρ3 r with | some kd => _ | none => none) _ = ok (peek ρ3 r) _
    rcases peek ρ3 r with _ | kd <;> try rfl
    show okP (match keyD kd with | some kk => _ | none => none) _ = ok (keyD kd) _
    rcases keyD kd with _ | kk <;> try rfl
    show okP (match tv ρ3 with | some (q, ρ4) => _ | none => none) _ = okP (tv ρ3) _
    rcases tv ρ3 with _ | ⟨q, ρ4⟩ <;> try rfl
    show okP (match shr ρ4 q with | some (y, ρ5) => _ | none => none) _ = ok (shr ρ4 q) _
    rcases shr ρ4 q with _ | ⟨y, ρ5⟩ <;> try rfl
    show okP (if acc.length < sizeLine then _ else none) _ = (acc.length < sizeLine ∧ _)
    by_cases h : acc.length < sizeLine
    · rw [if_pos h]; exact propext ⟨fun z => ⟨h, z⟩, fun z => z.2⟩
    · rw [if_neg h]; exact propext ⟨fun z => z.elim, fun z => absurd z.1 h⟩
end
end
end Mi
set_option Elab.async false
set_option linter.all false
set_option maxRecDepth 100000
set_option maxHeartbeats 1000000
set_option autoImplicit false
namespace Cm
noncomputable section
open PySem PySem.Spec PyProof.Rows L2 Mi
def b_law_tape : MS :=
  (sSeq (mSet 2 (mIf (mTe (m2 ltD (mVar 1) (mCB lenD (mCons (mVar 0) mNil)))) (m2 ixD (mVar 0) (mVar 1)) (mC (.int 0))))
  (sRet (mLst (mCons (m2 mulD (mCB absD (mCons (mVar 2) mNil)) (mCB intD (mCons (m2 geD (mCB absD (mCons (mVar 2) mNil)) (m2 powD (mC (.int 10)) (mC (.int 18)))) mNil))) (mCons (m2 addD (m2 addD (m2 modD (mVar 2) (mC (.int 2305843009213693951))) (m2 mulD (mC (.int 39373)) (mVar 1))) (mC (.int 17))) (mCons (mC (.int 0)) mNil))))))
def g_law_tape : MG := gOf 3 b_law_tape
def b_law_draw : MS :=
  (sSeq (sIf (mTe (m2 gtD (m2 ixD (mVar 0) (mC (.int 0))) (mC (.int 0))))
  (sSeq (mSet 2 (m2 modD (m2 ixD (mVar 0) (mC (.int 0))) (mVar 1)))
  (sSeq (mSto 0 (m2 divD (m2 ixD (mVar 0) (mC (.int 0))) (mVar 1)) (mC (.int 0)))
  (sRet (mVar 2))))
  sNx)
  (sSeq (mSto 0 (m2 addD (m2 ixD (mVar 0) (mC (.int 2))) (mC (.int 1))) (mC (.int 2)))
  (sSeq (mSet 3 (m2 modD (m2 powD (m2 addD (m2 ixD (mVar 0) (mC (.int 1))) (m2 mulD (mC (.int 39373)) (m2 ixD (mVar 0) (mC (.int 2))))) (mC (.int 5))) (mC (.int 2147483647))))
  (sSeq (mSet 4 (m2 modD (m2 mulD (m2 addD (mVar 3) (m2 ixD (mVar 0) (mC (.int 2)))) (m2 addD (m2 addD (m2 modD (mVar 3) (mC (.int 40009))) (mC (.int 7))) (m2 ixD (mVar 0) (mC (.int 2))))) (mC (.int 2147483629))))
  (sSeq (mSet 5 (m2 modD (m2 addD (m2 addD (m2 divD (m2 ixD (mVar 0) (mC (.int 1))) (mC (.int 2147483647))) (m2 mulD (mVar 4) (mC (.int 40009)))) (m2 ixD (mVar 0) (mC (.int 2)))) (mC (.int 2305843009213693951))))
  (sRet (m2 modD (m2 divD (m2 modD (m2 addD (m2 addD (m2 mulD (mVar 4) (mC (.int 48271))) (m2 mulD (mVar 5) (mC (.int 39373)))) (mVar 3)) (mC (.int 2305843009213693921))) (mC (.int 64))) (mVar 1))))))))
def g_law_draw : MG := gOf 6 b_law_draw
def b_law_folded : MS :=
  (sSeq (mSet 2 (mCB listD (mCons (mSl (mVar 0) oNo (oSo (mVar 1))) mNil)))
  (sSeq (mFor (iEn (mCons (mSl (mVar 0) (oSo (mVar 1)) (oSo (mC (.int 63)))) mNil)) (tgT [3, 4])
  (mSto 2 (m2 addD (m2 ixD (mVar 2) (m2 modD (mVar 3) (mVar 1))) (m2 mulD (mVar 4) (m2 addD (mVar 3) (mC (.int 2))))) (m2 modD (mVar 3) (mVar 1))))
  (sRet (mVar 2))))
def g_law_folded : MG := gOf 5 b_law_folded
def b_law_names : MS :=
  (sSeq (mPar [2, 3] (mCons (mC (.str "abcdefghijklmnopqrstuvwxyz")) (mCons (mCall Cm.g_law_draw [true, false] (mCons (mVar 0) (mCons (mC (.int 26)) mNil))) mNil)))
  (sSeq (mSet 4 (mMt "str" joinD (mC (.str "")) (mCons (mLc (iR1 (mCons (mCall Cm.g_law_draw [true, false] (mCons (mVar 0) (mCons (mC (.int 8)) mNil))) mNil)) (tgN 5) mYes (m2 ixD (mVar 2) (mCall Cm.g_law_draw [true, false] (mCons (mVar 0) (mCons (mC (.int 26)) mNil)))) [5]) mNil)))
  (sSeq (mPar [6, 7, 8] (mCons (mCall Cm.g_law_draw [true, false] (mCons (mVar 0) (mCons (m2 addD (mCB lenD (mCons (mVar 4) mNil)) (mC (.int 1))) mNil))) (mCons (m2 ixD (mLst (mCons (mC (.int 1)) (mCons (mC (.int 7)) (mCons (mC (.int 25)) mNil)))) (mCall Cm.g_law_draw [true, false] (mCons (mVar 0) (mCons (mC (.int 3)) mNil)))) (mCons (mLst mNil) mNil))))
  (sSeq (mPar [9, 10] (mCons (mSl (mVar 4) oNo (oSo (mVar 6))) (mCons (mSl (mVar 4) (oSo (mVar 6)) oNo) mNil)))
  (sSeq (mFor (iR1 (mCons (mVar 1) mNil)) (tgN 5)
  (sSeq (mSet 11 (m2 mulD (m2 modD (m2 addD (m2 addD (mVar 3) (mVar 6)) (mCB lenD (mCons (mVar 4) mNil))) (mC (.int 3))) (mCB intD (mCons (m2 neD (mVar 10) (mC (.str ""))) mNil))))
  (sSeq (mSet 12 (m2 ixD (mVar 2) (m2 modD (m2 addD (mVar 3) (m2 mulD (mVar 7) (m2 ixD (mLst (mCons (mVar 5) (mCons (m2 divD (mVar 5) (mC (.int 2))) (mCons (mVar 5) mNil)))) (mVar 11)))) (mC (.int 26)))))
  (sDrop (mMm "list" appD 8 (mCons (m2 addD (m2 addD (mVar 9) (mVar 12)) (m2 ixD (mLst (mCons (mVar 10) (mCons (m2 mulD (mVar 10) (m2 modD (mVar 5) (mC (.int 2)))) (mCons (mSl (mVar 10) oNo (oSo (m2 modD (mVar 5) (m2 addD (mCB lenD (mCons (mVar 10) mNil)) (mC (.int 1)))))) mNil)))) (mVar 11))) mNil))))))
  (sRet (mVar 8)))))))
def g_law_names : MG := gOf 13 b_law_names
def b_law_stepnames : MS :=
  (sSeq (mPar [2, 3] (mCons (mCall Cm.g_law_names [true, false] (mCons (mVar 0) (mCons (m2 addD (mVar 1) (mC (.int 2))) mNil))) (mCons (mLst mNil) mNil)))
  (sSeq (mFor (iSh (mSl (mVar 2) oNo (oSo (mVar 1)))) (tgN 4)
  (sDrop (mMm "list" appD 3 (mCons (m2 addD (mVar 4) (m2 ixD (mLst (mCons (mC (.str "")) (mCons (m2 addD (mC (.str ".")) (m2 ixD (mVar 2) (mVar 1))) (mCons (m2 addD (mC (.str ".")) (mVar 4)) mNil)))) (mCall Cm.g_law_draw [true, false] (mCons (mVar 0) (mCons (mC (.int 3)) mNil))))) mNil))))
  (sRet (mVar 3))))
def g_law_stepnames : MG := gOf 5 b_law_stepnames
def b_law_leaf : MS :=
  (sSeq (mPar [2, 3] (mCons (mCall Cm.g_law_draw [true, false] (mCons (mVar 0) (mCons (mC (.int 6)) mNil))) (mCons (m2 ixD (mVar 1) (mCall Cm.g_law_draw [true, false] (mCons (mVar 0) (mCons (mCB lenD (mCons (mVar 1) mNil)) mNil)))) mNil)))
  (sSeq (sIf (mTe (m2 gtD (mVar 2) (mC (.int 2))))
  (sRet (mTup (mCons (m2 ixD (mLst (mCons (mC (.str "ran")) (mCons (mC (.str "fell")) (mCons (mC (.str "passed")) mNil)))) (m2 subD (mVar 2) (mC (.int 3)))) (mCons (mVar 3) mNil))))
  sNx)
  (sSeq (mSet 4 (m2 ixD (mLst (mCons (mC (.int 0)) (mCons (mC (.int 99)) (mCons (mC (.int 1)) (mCons (mC (.int 98)) (mCons (mCall Cm.g_law_draw [true, false] (mCons (mVar 0) (mCons (mC (.int 6)) mNil))) (mCons (mCall Cm.g_law_draw [true, false] (mCons (mVar 0) (mCons (mC (.int 100)) mNil))) mNil))))))) (mCall Cm.g_law_draw [true, false] (mCons (mVar 0) (mCons (mC (.int 6)) mNil)))))
  (sRet (mTup (mCons (m2 ixD (mLst (mCons (mC (.str "below")) (mCons (mC (.str "above")) (mCons (mC (.str "is")) mNil)))) (mVar 2)) (mCons (mVar 3) (mCons (mVar 4) mNil))))))))
def g_law_leaf : MG := gOf 5 b_law_leaf
def b_law_grown (g_law_grown : MG) : MS :=
  (sSeq (sIf (mOr (mTe (m2 ltD (mVar 2) (mC (.int 2)))) (mTe (m2 ltD (mVar 3) (mC (.int 2)))))
  (sRet (mCall Cm.g_law_leaf [true, false] (mCons (mVar 0) (mCons (mVar 1) mNil))))
  sNx)
  (sSeq (sIf (mOr (mTe (m2 eqD (mVar 2) (mC (.int 2)))) (mTe (m2 eqD (mCall Cm.g_law_draw [true, false] (mCons (mVar 0) (mCons (mC (.int 4)) mNil))) (mC (.int 0)))))
  (sRet (mTup (mCons (mC (.str "not")) (mCons (mCall g_law_grown [true, false, false, false] (mCons (mVar 0) (mCons (mVar 1) (mCons (m2 subD (mVar 2) (mC (.int 1))) (mCons (m2 subD (mVar 3) (mC (.int 1))) mNil))))) mNil))))
  sNx)
  (sSeq (mSet 4 (m2 addD (mC (.int 1)) (mCall Cm.g_law_draw [true, false] (mCons (mVar 0) (mCons (m2 subD (mVar 2) (mC (.int 2))) mNil)))))
  (sSeq (mSet 5 (mCall g_law_grown [true, false, false, false] (mCons (mVar 0) (mCons (mVar 1) (mCons (mVar 4) (mCons (m2 subD (mVar 3) (mC (.int 1))) mNil))))))
  (sRet (mTup (mCons (m2 ixD (mLst (mCons (mC (.str "both")) (mCons (mC (.str "either")) mNil))) (mCall Cm.g_law_draw [true, false] (mCons (mVar 0) (mCons (mC (.int 2)) mNil)))) (mCons (mVar 5) (mCons (mCall g_law_grown [true, false, false, false] (mCons (mVar 0) (mCons (mVar 1) (mCons (m2 subD (m2 subD (mVar 2) (mC (.int 1))) (mVar 4)) (mCons (m2 subD (mVar 3) (mC (.int 1))) mNil))))) mNil)))))))))
def g_law_grown : Nat → MG
  | 0 => fun _ => none
  | n + 1 => gOf 6 (b_law_grown (g_law_grown n))
def b_law_same (g_law_same : MG) : MS :=
  (sSeq (sIf (mTru (mCB isiD (mCons (mVar 1) (mCons (mTup (mCons (mC (.ty "list")) (mCons (mC (.ty "tuple")) mNil))) mNil))))
  (sSeq (sIf (mOr (mTe (m2 neD (mCB isiD (mCons (mVar 0) (mCons (mC (.ty "list")) mNil))) (mCB isiD (mCons (mVar 1) (mCons (mC (.ty "list")) mNil))))) (mTe (m2 neD (mCB isiD (mCons (mVar 0) (mCons (mC (.ty "tuple")) mNil))) (mCB isiD (mCons (mVar 1) (mCons (mC (.ty "tuple")) mNil))))))
  (sRet (mC (.bl false)))
  sNx)
  (sRet (mAndV (m2 eqD (mCB lenD (mCons (mVar 0) mNil)) (mCB lenD (mCons (mVar 1) mNil))) (mCB allD (mCons (mLc (iZa (mCons (mVar 0) (mCons (mVar 1) mNil))) (tgT [2, 3]) mYes (mCall g_law_same [false, false] (mCons (mVar 2) (mCons (mVar 3) mNil))) [2, 3]) mNil)))))
  sNx)
  (sSeq (sIf (mOr (mTe (m2 isND (mVar 1) (mC .non))) (mTru (mCB isiD (mCons (mVar 1) (mCons (mTup (mCons (mC (.ty "str")) (mCons (mC (.ty "bool")) mNil))) mNil)))))
  (sRet (mAndV (m2 eqD (mCB isiD (mCons (mVar 0) (mCons (mC (.ty "bool")) mNil))) (mCB isiD (mCons (mVar 1) (mCons (mC (.ty "bool")) mNil)))) (m2 eqD (mVar 0) (mVar 1))))
  sNx)
  (sRet (mAndV (mCB isiD (mCons (mVar 0) (mCons (mC (.ty "int")) mNil))) (mAndV (mNotV (mCB isiD (mCons (mVar 0) (mCons (mC (.ty "bool")) mNil)))) (m2 eqD (mVar 0) (mVar 1)))))))
def g_law_same : Nat → MG
  | 0 => fun _ => none
  | n + 1 => gOf 4 (b_law_same (g_law_same n))
def b_law_end_of : MS :=
  (sSeq (mSet 1 (mCall Cm.g_law_draw [true, false] (mCons (mVar 0) (mCons (mC (.int 5)) mNil))))
  (sSeq (sIf (mTe (m2 gtD (mVar 1) (mC (.int 2))))
  (sRet (m2 ixD (mLst (mCons (mTup (mCons (mC (.str "fell")) (mCons (mC (.str "word")) mNil))) (mCons (mTup (mCons (mC (.str "passed")) mNil)) mNil))) (m2 subD (mVar 1) (mC (.int 3)))))
  sNx)
  (sRet (mTup (mCons (mC (.str "ran")) (mCons (m2 ixD (mLst (mCons (mC (.int 0)) (mCons (mC (.int 99)) (mCons (mC (.int 1)) (mCons (mC (.int 98)) (mCons (mCall Cm.g_law_draw [true, false] (mCons (mVar 0) (mCons (mC (.int 6)) mNil))) (mCons (mCall Cm.g_law_draw [true, false] (mCons (mVar 0) (mCons (mC (.int 100)) mNil))) mNil))))))) (mCall Cm.g_law_draw [true, false] (mCons (mVar 0) (mCons (mC (.int 6)) mNil)))) mNil))))))
def g_law_end_of : MG := gOf 2 b_law_end_of
def b_law_holds (g_law_holds : MG) : MS :=
  (sSeq (sIf (mTe (m2 inD (m2 ixD (mVar 0) (mC (.int 0))) (mTup (mCons (mC (.str "not")) (mCons (mC (.str "both")) (mCons (mC (.str "either")) mNil))))))
  (sSeq (mSet 2 (mLc (iSh (mSl (mVar 0) (oSo (mC (.int 1))) oNo)) (tgN 3) mYes (mCall g_law_holds [false, false] (mCons (mVar 3) (mCons (mVar 1) mNil))) [3]))
  (sRet (m2 ixD (mDisp [((mC (.str "not")), (mNotV (m2 ixD (mVar 2) (mC (.int 0))))), ((mC (.str "both")), (mCB allD (mCons (mVar 2) mNil))), ((mC (.str "either")), (mCB anyD (mCons (mVar 2) mNil)))]) (m2 ixD (mVar 0) (mC (.int 0))))))
  sNx)
  (sSeq (mSet 4 (m2 ixD (mVar 1) (m2 ixD (mVar 0) (mC (.int 1)))))
  (sSeq (sIf (mTe (m2 inD (m2 ixD (mVar 0) (mC (.int 0))) (mTup (mCons (mC (.str "ran")) (mCons (mC (.str "fell")) (mCons (mC (.str "passed")) mNil))))))
  (sRet (m2 eqD (m2 ixD (mVar 4) (mC (.int 0))) (m2 ixD (mVar 0) (mC (.int 0)))))
  sNx)
  (sSeq (sIf (mTe (m2 neD (m2 ixD (mVar 4) (mC (.int 0))) (mC (.str "ran"))))
  (sRet (mC (.bl false)))
  sNx)
  (sRet (m2 ixD (mDisp [((mC (.str "below")), (m2 ltD (m2 ixD (mVar 4) (mC (.int 1))) (m2 ixD (mVar 0) (mC (.int 2))))), ((mC (.str "above")), (m2 gtD (m2 ixD (mVar 4) (mC (.int 1))) (m2 ixD (mVar 0) (mC (.int 2))))), ((mC (.str "is")), (m2 eqD (m2 ixD (mVar 4) (mC (.int 1))) (m2 ixD (mVar 0) (mC (.int 2)))))]) (m2 ixD (mVar 0) (mC (.int 0)))))))))
def g_law_holds : Nat → MG
  | 0 => fun _ => none
  | n + 1 => gOf 5 (b_law_holds (g_law_holds n))
def b_base_of : MS :=
  (sSeq (mSet 1 (mC (.int 0)))
  (sSeq (whL (mAnd (mTe (m2 ltD (mVar 1) (mCB lenD (mCons (mVar 0) mNil)))) (mTe (m2 inD (m2 ixD (mVar 0) (mVar 1)) (mC (.str "abcdefghijklmnopqrstuvwxyz")))))
  (mAug 1 iaddD (mC (.int 1))) 1000)
  (sRet (mSl (mVar 0) oNo (oSo (mVar 1))))))
def g_base_of : MG := gOf 2 b_base_of
def b_law_part : MS :=
  (sSeq (mSet 3 (mCB listD (mCons (mVar 1) mNil)))
  (sRet (mLc (iR1 (mCons (mVar 2) mNil)) (tgN 4) mYes (mMm "list" popD 3 (mCons (mCall Cm.g_law_draw [true, false] (mCons (mVar 0) (mCons (mCB lenD (mCons (mVar 3) mNil)) mNil))) mNil)) [4])))
def g_law_part : MG := gOf 5 b_law_part
def b_law_kinds : MS :=
  (sSeq (mPar [1, 2] (mCons (mCall Cm.g_law_names [true, false] (mCons (mVar 0) (mCons (mC (.int 26)) mNil))) (mCons mDnew mNil)))
  (sSeq (mFor (iSh (mTup (mCons (mTup (mCons (mC (.str "chests")) (mCons (mC (.int 4)) mNil))) (mCons (mTup (mCons (mC (.str "lines")) (mCons (mC (.int 2)) mNil))) (mCons (mTup (mCons (mC (.str "slots")) (mCons (mC (.int 4)) mNil))) (mCons (mTup (mCons (mC (.str "works")) (mCons (mC (.int 4)) mNil))) (mCons (mTup (mCons (mC (.str "books")) (mCons (mC (.int 3)) mNil))) (mCons (mTup (mCons (mC (.str "words")) (mCons (mC (.int 2)) mNil))) mNil)))))))) (tgT [3, 4])
  (mStoD 2 (mLc (iR1 (mCons (mVar 4) mNil)) (tgN 5) mYes (mMm "list" popD 1 (mCons (mC (.int 0)) mNil)) [5]) (mVar 3)))
  (sSeq (mStoD 2 (mLc (iR1 (mCons (mC (.int 6)) mNil)) (tgN 5) mYes (m2 addD (m2 ixD (mVar 1) (mVar 5)) (m2 ixD (mLst (mCons (mC (.str "")) (mCons (m2 addD (mC (.str ".")) (m2 ixD (mVar 1) (m2 addD (mVar 5) (mC (.int 1))))) mNil))) (mCall Cm.g_law_draw [true, false] (mCons (mVar 0) (mCons (mC (.int 2)) mNil))))) [5]) (mC (.str "steps")))
  (sSeq (mStoD 2 (m2 addD (m2 ixD (mVar 2) (mC (.str "steps"))) (mLst (mCons (m2 addD (m2 addD (m2 ixD (mVar 1) (mC (.int 6))) (mC (.str "."))) (m2 ixD (mVar 1) (mC (.int 0)))) (mCons (m2 addD (m2 addD (m2 ixD (mVar 1) (mC (.int 6))) (mC (.str "."))) (m2 ixD (mVar 1) (mC (.int 1)))) mNil)))) (mC (.str "steps")))
  (sRet (mVar 2))))))
def g_law_kinds : MG := gOf 6 b_law_kinds
def b_law_ref : MS :=
  (sSeq (mPar [3, 4] (mCons (m2 ixD (m2 ixD (mVar 1) (mC (.str "chests"))) (mCall Cm.g_law_draw [true, false] (mCons (mVar 0) (mCons (mC (.int 4)) mNil)))) (mCons (mCall Cm.g_law_draw [true, false] (mCons (mVar 0) (mCons (mC (.int 8)) mNil))) mNil)))
  (sSeq (mSet 5 (m2 ixD (m2 ixD (mVar 1) (mC (.str "lines"))) (mCall Cm.g_law_draw [true, false] (mCons (mVar 0) (mCons (mC (.int 2)) mNil)))))
  (sSeq (sIf (mAnd (mTru (mVar 2)) (mTe (m2 eqD (mCall Cm.g_law_draw [true, false] (mCons (mVar 0) (mCons (mC (.int 12)) mNil))) (mC (.int 0)))))
  (sRet (m2 ixD (mLst (mCons (mVar 5) (mCons (m2 addD (mVar 3) (mC (.str "-0"))) (mCons (m2 addD (mVar 3) (mC (.str "+1"))) (mCons (m2 ixD (m2 ixD (mVar 1) (mC (.str "words"))) (mC (.int 0))) mNil))))) (mCall Cm.g_law_draw [true, false] (mCons (mVar 0) (mCons (mC (.int 4)) mNil)))))
  sNx)
  (sSeq (sIf (mTe (m2 ltD (mVar 4) (mC (.int 4))))
  (sRet (mVar 3))
  sNx)
  (sRet (m2 addD (mVar 5) (m2 ixD (mLst (mCons (mC (.str "-0")) (mCons (m2 addD (mC (.str "-")) (mCB strD (mCons (mCall Cm.g_law_draw [true, false] (mCons (mVar 0) (mCons (mC (.int 5)) mNil))) mNil))) (mCons (mC (.str "+1")) (mCons (m2 addD (mC (.str "+")) (mCB strD (mCons (m2 addD (mC (.int 1)) (mCall Cm.g_law_draw [true, false] (mCons (mVar 0) (mCons (mC (.int 3)) mNil)))) mNil))) mNil))))) (m2 subD (mVar 4) (mC (.int 4))))))))))
def g_law_ref : MG := gOf 6 b_law_ref
def b_law_slots_of : MS :=
  (sSeq (mPar [2, 3] (mCons (mLst mNil) (mCons (mLst mNil) mNil)))
  (sSeq (mFor (iSh (mCall Cm.g_law_part [true, false, false] (mCons (mVar 0) (mCons (m2 ixD (mVar 1) (mC (.str "slots"))) (mCons (mCall Cm.g_law_draw [true, false] (mCons (mVar 0) (mCons (mC (.int 5)) mNil))) mNil))))) (tgN 4)
  (sSeq (mSet 5 (mCall Cm.g_law_ref [true, false, false] (mCons (mVar 0) (mCons (mVar 1) (mCons (mC (.bl true)) mNil)))))
  (sSeq (mSet 6 (m2 ixD (mLst (mCons (mC (.str "new")) (mCons (mC (.str "old")) (mCons (mC (.str "read")) (mCons (mC (.str "more")) mNil))))) (mCall Cm.g_law_draw [true, false] (mCons (mVar 0) (mCons (mC (.int 4)) mNil)))))
  (sSeq (mSet 6 (mIf (mAnd (mTe (m2 inD (mC (.str "+")) (mVar 5))) (mTe (m2 eqD (mCall Cm.g_law_draw [true, false] (mCons (mVar 0) (mCons (mC (.int 2)) mNil))) (mC (.int 0))))) (mC (.str "new")) (mVar 6)))
  (sSeq (mSet 7 (mLc (iR1 (mCons (mC (.int 2)) mNil)) (tgN 8) mYes (m2 ixD (mLst (mCons (mC (.str "keep")) (mCons (mC (.str "keep")) (mCons (mC (.str "strike")) (mCons (mC (.str "hand")) mNil))))) (mCall Cm.g_law_draw [true, false] (mCons (mVar 0) (mCons (mC (.int 4)) mNil)))) [8]))
  (sIf (mTe (m2 notInD (mVar 5) (mVar 3)))
  (sSeq (sDrop (mMm "list" appD 3 (mCons (mVar 5) mNil)))
  (sDrop (mMm "list" appD 2 (mCons (mTup (mCons (mVar 4) (mCons (mVar 5) (mCons (mVar 6) (mCons (m2 ixD (mVar 7) (mC (.int 0))) (mCons (m2 ixD (mVar 7) (mC (.int 1))) mNil)))))) mNil))))
  sNx))))))
  (sRet (mCB tupleD (mCons (mVar 2) mNil)))))
def g_law_slots_of : MG := gOf 9 b_law_slots_of
def b_law_base : MS :=
  (sRet (mMt "str" joinD (mC (.str "")) (mCons (mLc (iSh (mVar 0)) (tgN 1) (mTe (m2 inD (mVar 1) (mC (.str "abcdefghijklmnopqrstuvwxyz")))) (mVar 1) [1]) mNil)))
def g_law_base : MG := gOf 2 b_law_base
def b_law_condition (g_law_condition : MG) : MS :=
  (sSeq (mPar [3, 4] (mCons (mCall Cm.g_law_draw [true, false] (mCons (mVar 0) (mCons (mC (.int 9)) mNil))) (mCons (m2 ixD (mVar 1) (mCall Cm.g_law_draw [true, false] (mCons (mVar 0) (mCons (mCB lenD (mCons (mVar 1) mNil)) mNil)))) mNil)))
  (sSeq (sIf (mOr (mTe (m2 ltD (mVar 3) (mC (.int 3)))) (mAnd (mTe (m2 eqD (mVar 2) (mC (.int 1)))) (mTe (m2 gtD (mVar 3) (mC (.int 5))))))
  (sRet (mTup (mCons (m2 ixD (mLst (mCons (mC (.str "below")) (mCons (mC (.str "above")) (mCons (mC (.str "is")) mNil)))) (m2 modD (mVar 3) (mC (.int 3)))) (mCons (mVar 4) (mCons (m2 ixD (mLst (mCons (mCall Cm.g_law_draw [true, false] (mCons (mVar 0) (mCons (mC (.int 5)) mNil))) (mCons (mCall Cm.g_law_draw [true, false] (mCons (mVar 0) (mCons (mC (.int 100)) mNil))) mNil))) (mCall Cm.g_law_draw [true, false] (mCons (mVar 0) (mCons (mC (.int 2)) mNil)))) mNil)))))
  sNx)
  (sSeq (sIf (mTe (m2 ltD (mVar 3) (mC (.int 6))))
  (sRet (mTup (mCons (m2 ixD (mLst (mCons (mC (.str "ran")) (mCons (mC (.str "fell")) (mCons (mC (.str "passed")) mNil)))) (m2 subD (mVar 3) (mC (.int 3)))) (mCons (mVar 4) mNil))))
  sNx)
  (sSeq (mSet 5 (mCall g_law_condition [true, true, false] (mCons (mVar 0) (mCons (mVar 1) (mCons (m2 subD (mVar 2) (mC (.int 1))) mNil)))))
  (sSeq (sIf (mTe (m2 eqD (mVar 3) (mC (.int 6))))
  (sRet (mTup (mCons (mC (.str "not")) (mCons (mVar 5) mNil))))
  sNx)
  (sRet (mTup (mCons (m2 ixD (mLst (mCons (mC (.str "both")) (mCons (mC (.str "either")) mNil))) (m2 subD (mVar 3) (mC (.int 7)))) (mCons (mVar 5) (mCons (mTup (mCons (mC (.str "ran")) (mCons (mVar 4) mNil))) mNil))))))))))
def g_law_condition : Nat → MG
  | 0 => fun _ => none
  | n + 1 => gOf 6 (b_law_condition (g_law_condition n))
def b_law_errand_of : MS :=
  (sSeq (mPar [3, 4] (mCons (mLst mNil) (mCons (mLst mNil) mNil)))
  (sSeq (mFor (iSh (mSl (m2 ixD (mVar 1) (mC (.str "steps"))) oNo (oSo (m2 addD (mC (.int 1)) (mCall Cm.g_law_draw [true, false] (mCons (mVar 0) (mCons (mVar 2) mNil))))))) (tgN 5)
  (sSeq (mSet 6 (m2 ixD (mLst (mCons (mC (.str "well")) (mCons (mC (.str "well")) (mCons (mC (.str "even")) (mCons (mC (.str "only")) mNil))))) (mCall Cm.g_law_draw [true, false] (mCons (mVar 0) (mCons (mC (.int 4)) mNil)))))
  (sSeq (mSet 7 (mIf (mAnd (mTe (m2 neD (mVar 4) (mLst mNil))) (mTe (m2 eqD (mCall Cm.g_law_draw [true, false] (mCons (mVar 0) (mCons (mC (.int 3)) mNil))) (mC (.int 0))))) (mCall (Cm.g_law_condition 20) [true, true, false] (mCons (mVar 0) (mCons (mVar 4) (mCons (mC (.int 3)) mNil)))) (mC .non)))
  (sSeq (mSet 8 (m2 ixD (m2 ixD (mVar 1) (mC (.str "works"))) (mCall Cm.g_law_draw [true, false] (mCons (mVar 0) (mCons (mC (.int 4)) mNil)))))
  (sSeq (sDrop (mMm "list" appD 3 (mCons (mTup (mCons (mVar 5) (mCons (mVar 8) (mCons (mVar 6) (mCons (mVar 7) (mCons (mCall Cm.g_law_slots_of [true, false] (mCons (mVar 0) (mCons (mVar 1) mNil))) mNil)))))) mNil)))
  (sDrop (mMm "list" appD 4 (mCons (mVar 5) mNil))))))))
  (sSeq (mSet 9 (mCB tupleD (mCons (mSl (m2 ixD (mVar 1) (mC (.str "books"))) oNo (oSo (m2 addD (mC (.int 1)) (mCall Cm.g_law_draw [true, false] (mCons (mVar 0) (mCons (mC (.int 3)) mNil)))))) mNil)))
  (sRet (mTup (mCons (m2 ixD (m2 ixD (mVar 1) (mC (.str "words"))) (mC (.int 1))) (mCons (mVar 9) (mCons (mCB tupleD (mCons (mVar 3) mNil)) mNil))))))))
def g_law_errand_of : MG := gOf 10 b_law_errand_of
def b_law_act : MS :=
  (sSeq (mSet 3 (mIf (mOr (mTe (m2 eqD (mVar 2) (mLst mNil))) (mTe (m2 eqD (mCall Cm.g_law_draw [true, false] (mCons (mVar 0) (mCons (mC (.int 6)) mNil))) (mC (.int 0))))) (m2 addD (mVar 2) (mSl (m2 ixD (mVar 1) (mC (.str "slots"))) oNo (oSo (m2 addD (mC (.int 1)) (mCB intD (mCons (m2 eqD (mCall Cm.g_law_draw [true, false] (mCons (mVar 0) (mCons (mC (.int 6)) mNil))) (mC (.int 0))) mNil)))))) (mVar 2)))
  (sSeq (mPar [4, 5] (mCons (m2 ixD (mVar 3) (mCall Cm.g_law_draw [true, false] (mCons (mVar 0) (mCons (mCB lenD (mCons (mVar 3) mNil)) mNil)))) (mCons (m2 ixD (mVar 3) (mCall Cm.g_law_draw [true, false] (mCons (mVar 0) (mCons (mCB lenD (mCons (mVar 3) mNil)) mNil)))) mNil)))
  (sSeq (mPar [6, 7] (mCons (mCall Cm.g_law_draw [true, false] (mCons (mVar 0) (mCons (mC (.int 14)) mNil))) (mCons (m2 ixD (m2 ixD (mVar 1) (mC (.str "words"))) (mCall Cm.g_law_draw [true, false] (mCons (mVar 0) (mCons (mC (.int 2)) mNil)))) mNil)))
  (sSeq (sIf (mTe (m2 ltD (mVar 6) (mC (.int 4))))
  (sRet (mIf (mTe (m2 ltD (mVar 6) (mC (.int 2)))) (mTup (mCons (mC (.str "copy")) (mCons (mVar 4) (mCons (mVar 5) mNil)))) (mTup (mCons (mC (.str "put")) (mCons (mVar 4) (mCons (mCall Cm.g_law_draw [true, false] (mCons (mVar 0) (mCons (mC (.int 1000)) mNil))) mNil))))))
  sNx)
  (sSeq (sIf (mTe (m2 ltD (mVar 6) (mC (.int 7))))
  (sRet (m2 ixD (mLst (mCons (mTup (mCons (mC (.str "empty")) (mCons (mVar 4) mNil))) (mCons (mTup (mCons (mC (.str "count")) (mCons (mVar 4) mNil))) (mCons (mTup (mCons (mC (.str "code")) (mCons (mCall Cm.g_law_draw [true, false] (mCons (mVar 0) (mCons (m2 ixD (mLst (mCons (mC (.int 5)) (mCons (mC (.int 100)) mNil))) (mCall Cm.g_law_draw [true, false] (mCons (mVar 0) (mCons (mC (.int 2)) mNil)))) mNil))) mNil))) mNil)))) (m2 subD (mVar 6) (mC (.int 4)))))
  sNx)
  (sSeq (sIf (mTe (m2 ltD (mVar 6) (mC (.int 10))))
  (sRet (m2 ixD (mLst (mCons (mTup (mCons (mC (.str "mark")) (mCons (mVar 7) mNil))) (mCons (mTup (mCons (mC (.str "code")) (mCons (mCall Cm.g_law_draw [true, false] (mCons (mVar 0) (mCons (mC (.int 4)) mNil))) mNil))) (mCons (mTup (mCons (mC (.str "put")) (mCons (mVar 4) (mCons (mC (.int 7)) mNil)))) mNil)))) (m2 subD (mVar 6) (mC (.int 7)))))
  sNx)
  (sSeq (sIf (mTe (m2 ltD (mVar 6) (mC (.int 12))))
  (sRet (mTup (mCons (mC (.str "over")) (mCons (mVar 4) (mCons (m2 ixD (mLst (mCons (mC (.int 40)) (mCons (mC (.int 3)) (mCons (mC (.int 12)) mNil)))) (mCall Cm.g_law_draw [true, false] (mCons (mVar 0) (mCons (mC (.int 3)) mNil)))) (mCons (mVar 7) mNil))))))
  sNx)
  (sRet (mIf (mOr (mTe (m2 eqD (mVar 6) (mC (.int 12)))) (mTe (m2 gtD (mCall Cm.g_law_draw [true, false] (mCons (mVar 0) (mCons (mC (.int 3)) mNil))) (mC (.int 0))))) (mTup (mCons (mC (.str "mark")) (mCons (mVar 7) mNil))) (mTup (mCons (mC (.str "fall")) (mCons (mVar 7) mNil))))))))))))
def g_law_act : MG := gOf 8 b_law_act
def b_law_work_of : MS :=
  (sRet (mCB tupleD (mCons (mLc (iR1 (mCons (m2 addD (mC (.int 1)) (mCall Cm.g_law_draw [true, false] (mCons (mVar 0) (mCons (mC (.int 8)) mNil)))) mNil)) (tgN 3) mYes (mCall Cm.g_law_act [true, false, false] (mCons (mVar 0) (mCons (mVar 1) (mCons (mVar 2) mNil)))) [3]) mNil)))
def g_law_work_of : MG := gOf 4 b_law_work_of
end
end Cm
set_option Elab.async false
set_option linter.all false
set_option maxRecDepth 100000
set_option maxHeartbeats 1000000
set_option autoImplicit false
namespace Cm
noncomputable section
open PySem Mi
@[simp] theorem q0 : Str.ofString "ran" = S [114, 97, 110] := by decide +kernel
@[simp] theorem q1 : Str.ofString "fell" = S [102, 101, 108, 108] := by decide +kernel
@[simp] theorem q2 : Str.ofString "passed" = S [112, 97, 115, 115, 101, 100] := by decide +kernel
@[simp] theorem q4 : Str.ofString "not" = S [110, 111, 116] := by decide +kernel
@[simp] theorem q5 : Str.ofString "both" = S [98, 111, 116, 104] := by decide +kernel
@[simp] theorem q6 : Str.ofString "either" = S [101, 105, 116, 104, 101, 114] := by decide +kernel
@[simp] theorem q7 : Str.ofString "below" = S [98, 101, 108, 111, 119] := by decide +kernel
@[simp] theorem q8 : Str.ofString "above" = S [97, 98, 111, 118, 101] := by decide +kernel
@[simp] theorem q9 : Str.ofString "" = S [] := by decide +kernel
@[simp] theorem q10 : Str.ofString "is" = S [105, 115] := by decide +kernel
@[simp] theorem q11 : Str.ofString "word" = S [119, 111, 114, 100] := by decide +kernel
@[simp] theorem q12 : Str.ofString "." = S [46] := by decide +kernel
@[simp] theorem q14 : Str.ofString "well" = S [119, 101, 108, 108] := by decide +kernel
@[simp] theorem q15 : Str.ofString "only" = S [111, 110, 108, 121] := by decide +kernel
@[simp] theorem q16 : Str.ofString "even" = S [101, 118, 101, 110] := by decide +kernel
@[simp] theorem q19 : Str.ofString "read" = S [114, 101, 97, 100] := by decide +kernel
@[simp] theorem q20 : Str.ofString "keep" = S [107, 101, 101, 112] := by decide +kernel
@[simp] theorem q21 : Str.ofString "share" = S [115, 104, 97, 114, 101] := by decide +kernel
@[simp] theorem q22 : Str.ofString "own" = S [111, 119, 110] := by decide +kernel
@[simp] theorem q23 : Str.ofString "steps" = S [115, 116, 101, 112, 115] := by decide +kernel
@[simp] theorem q24 : Str.ofString "chests" = S [99, 104, 101, 115, 116, 115] := by decide +kernel
@[simp] theorem q25 : Str.ofString "lines" = S [108, 105, 110, 101, 115] := by decide +kernel
@[simp] theorem q26 : Str.ofString "slots" = S [115, 108, 111, 116, 115] := by decide +kernel
@[simp] theorem q27 : Str.ofString "works" = S [119, 111, 114, 107, 115] := by decide +kernel
@[simp] theorem q28 : Str.ofString "books" = S [98, 111, 111, 107, 115] := by decide +kernel
@[simp] theorem q29 : Str.ofString "words" = S [119, 111, 114, 100, 115] := by decide +kernel
@[simp] theorem q30 : Str.ofString "new" = S [110, 101, 119] := by decide +kernel
@[simp] theorem q31 : Str.ofString "zz" = S [122, 122] := by decide +kernel
@[simp] theorem q32 : Str.ofString "-0" = S [45, 48] := by decide +kernel
@[simp] theorem q33 : Str.ofString "+1" = S [43, 49] := by decide +kernel
@[simp] theorem q34 : Str.ofString "old" = S [111, 108, 100] := by decide +kernel
@[simp] theorem q35 : Str.ofString "more" = S [109, 111, 114, 101] := by decide +kernel
@[simp] theorem q36 : Str.ofString "-" = S [45] := by decide +kernel
@[simp] theorem q37 : Str.ofString "+" = S [43] := by decide +kernel
@[simp] theorem q38 : Str.ofString "strike" = S [115, 116, 114, 105, 107, 101] := by decide +kernel
@[simp] theorem q39 : Str.ofString "hand" = S [104, 97, 110, 100] := by decide +kernel
@[simp] theorem q41 : Str.ofString "over" = S [111, 118, 101, 114] := by decide +kernel
@[simp] theorem q42 : Str.ofString "mark" = S [109, 97, 114, 107] := by decide +kernel
@[simp] theorem q43 : Str.ofString "fall" = S [102, 97, 108, 108] := by decide +kernel
@[simp] theorem q44 : Str.ofString "copy" = S [99, 111, 112, 121] := by decide +kernel
@[simp] theorem q45 : Str.ofString "put" = S [112, 117, 116] := by decide +kernel
@[simp] theorem q46 : Str.ofString "empty" = S [101, 109, 112, 116, 121] := by decide +kernel
@[simp] theorem q47 : Str.ofString "count" = S [99, 111, 117, 110, 116] := by decide +kernel
@[simp] theorem q48 : Str.ofString "code" = S [99, 111, 100, 101] := by decide +kernel
end
end Cm
set_option Elab.async false
set_option linter.all false
set_option maxRecDepth 100000
set_option maxHeartbeats 1000000
namespace Cm
noncomputable section
open Mi PySem
/-! ### the tape -/
theorem draw_a (a b c m : Int) (ha : 0 < a) (hm : 0 < m) (hm3 : m < 18446744073709551616) : g_law_draw [⟨true,true,.lst [.int a,.int b,.int c]⟩, ⟨false,false,.int m⟩] = some (.sh (.int (a % m)), [⟨true,true,.lst [.int (a/m),.int b,.int c]⟩, ⟨false,false,.int m⟩]) := by
  simp [g_law_draw, b_law_draw, ha, hm, hm3]
theorem draw_b (a b c m : Int) (ha : ¬ 0 < a) (hb : 0 ≤ b) (hb2 : b < 4611686018427387904) (hc : 0 ≤ c) (hc2 : c < 1099511627776) (hm : 0 < m) : ∃ v, g_law_draw [⟨true,true,.lst [.int a,.int b,.int c]⟩, ⟨false,false,.int m⟩] = some (.sh (.int v), [⟨true,true,.lst [.int a,.int b,.int (c + 1)]⟩, ⟨false,false,.int m⟩]) ∧ 0 ≤ v ∧ v < m := by
  have h1 : small (c + 1) = true := small_of (by omega) (by omega)
  have h2 : (b + 39373 * (c + 1)).natAbs < 18446744073709551616 := by omega
  have k1 : small 39373 = true := small_of (by decide) (by decide)
  have k2 : small 40009 = true := small_of (by decide) (by decide)
  have k3 : small 48271 = true := small_of (by decide) (by decide)
  have k4 : ∀ x : Int, small (x % 2147483647 % 40009 + 7 + (c + 1)) = true := fun x => by
    have := Int.emod_nonneg (x % 2147483647) (by decide : (40009 : Int) ≠ 0)
    have := Int.emod_lt_of_pos (x % 2147483647) (by decide : (0 : Int) < 40009)
    exact small_of (by omega) (by omega)
  simp [g_law_draw, b_law_draw, ha, hm, h1, h2, k1, k2, k3, k4, Int.emod_nonneg _ (by omega : m ≠ 0), Int.emod_lt_of_pos _ hm]
structure Tp (r : Nat) (d : D) : Prop where
  ex : ∃ a b c : Int, d = .lst [.int a, .int b, .int c] ∧ 0 ≤ a ∧ 0 ≤ b ∧ b < 4611686018427387904 ∧ 0 ≤ c ∧ c + r ≤ 1099511627776
theorem Tp.mono {r q : Nat} {d : D} (h : Tp r d) (l : q ≤ r) : Tp q d := by
  obtain ⟨a, b, c, e, h1, h2, h3, h4, h5⟩ := h
  exact ⟨a, b, c, e, h1, h2, h3, h4, by omega⟩
theorem draw_ok {r : Nat} {d : D} (m : Int) (h : Tp (r + 1) d) (hm : 0 < m) (hm2 : m < 18446744073709551616) : ∃ v d', g_law_draw [⟨true,true,d⟩, ⟨false,false,.int m⟩] = some (.sh (.int v), [⟨true,true,d'⟩, ⟨false,false,.int m⟩]) ∧ Tp r d' ∧ 0 ≤ v ∧ v < m := by
  obtain ⟨a, b, c, rfl, h1, h2, h3, h4, h5⟩ := h
  by_cases ha : 0 < a
  · exact ⟨_, _, draw_a a b c m ha hm hm2, ⟨_, _, _, rfl, Int.ediv_nonneg h1 (by omega), h2, h3, h4, by omega⟩, Int.emod_nonneg _ (by omega), Int.emod_lt_of_pos _ hm⟩
  · obtain ⟨v, e, v1, v2⟩ := draw_b a b c m ha h2 h3 h4 (by omega) hm
    exact ⟨v, _, e, ⟨_, _, _, rfl, h1, h2, h3, by omega, by omega⟩, v1, v2⟩
theorem tape_ok (cs : List Int) (k : Nat) (hk : k < cs.length) (hk2 : k < 1000) : ∃ d, g_law_tape [⟨false,false,.lst (cs.map .int)⟩, ⟨false,false,.int k⟩] = some (.ow d, [⟨false,false,.lst (cs.map .int)⟩, ⟨false,false,.int k⟩]) ∧ Tp 1099511627776 d := by
  have e1 : L2.atI (cs.map D.int) (k : Int) = some (.int cs[k]) := atI_get (by omega) (by simp [hk])
  have h1 : (k : Int) < cs.length := by omega
  have k1 : small 39373 = true := small_of (by decide) (by decide)
  have k2 : ∀ b : Bool, small (if b = true then 1 else 0) = true := fun b => by cases b <;> exact small_of (by decide) (by decide)
  have hn := Int.emod_nonneg cs[k] (by decide : (2305843009213693951 : Int) ≠ 0)
  have hl := Int.emod_lt_of_pos cs[k] (by decide : (0 : Int) < 2305843009213693951)
  by_cases hb : (10 : Int) ^ 18 ≤ (if cs[k] < 0 then -cs[k] else cs[k])
  · refine ⟨.lst [.int ((if cs[k] < 0 then -cs[k] else cs[k]) * 1), .int (cs[k] % 2305843009213693951 + 39373 * k + 17), .int 0], ?_, ⟨_, _, _, rfl, ?_, ?_, ?_, ?_, ?_⟩⟩
    · have q := k2 true
      simp at q hb
      simp [g_law_tape, b_law_tape, e1, h1, k1, hb, q]
    · split <;> omega
    · omega
    · omega
    · omega
    · decide
  · refine ⟨.lst [.int ((if cs[k] < 0 then -cs[k] else cs[k]) * 0), .int (cs[k] % 2305843009213693951 + 39373 * k + 17), .int 0], ?_, ⟨_, _, _, rfl, ?_, ?_, ?_, ?_, ?_⟩⟩
    · have q := k2 false
      simp at q hb
      have hb := Int.not_le.mpr hb
      simp [g_law_tape, b_law_tape, e1, h1, k1, hb, q]
    · omega
    · omega
    · omega
    · omega
    · decide
theorem folded_ok (ns : List Int) (m : Nat) (hm : 0 < m) (hm2 : m ≤ 63) (hl : ns.length ≤ 63) : ∃ cs : List Int, g_law_folded [⟨false,false,.frl (ns.map .int)⟩, ⟨false,false,.int m⟩] = some (.ow (.lst (cs.map .int)), [⟨false,false,.frl (ns.map .int)⟩, ⟨false,false,.int m⟩]) ∧ cs.length = min ns.length m := by
  have hmi : (0 : Int) < m := by omega
  let I : List D → En → Prop := fun ds ρ => (∃ cs : List Int, ∃ x3 x4 : Option W, ρ = [some ⟨false,false,.frl (ns.map .int)⟩, some ⟨false,false,.int m⟩, some ⟨true,false,.lst (cs.map .int)⟩, x3, x4] ∧ cs.length = min ns.length m ∧ pinned (some x3) = false ∧ pinned (some x4) = false) ∧
    ∃ (es : List Int) (j : Nat), ds = dEnum j (es.map .int) ∧ j + es.length ≤ 63 ∧ (es ≠ [] → m ≤ ns.length)
  have key := forL_inv (tg := tgT [3, 4]) (b := mSto 2 (m2 addD (m2 ixD (mVar 2) (m2 modD (mVar 3) (mVar 1))) (m2 mulD (mVar 4) (m2 addD (mVar 3) (mC (.int 2))))) (m2 modD (mVar 3) (mVar 1))) I ?_
    (dEnum 0 (((ns.map D.int).drop m).take (63 - m))) [some ⟨false,false,.frl (ns.map .int)⟩, some ⟨false,false,.int m⟩, some ⟨true,false,.lst ((ns.map D.int).take m)⟩, none, none] ?_
  · obtain ⟨ρ', e, ⟨cs, x3, x4, rfl, hc, _⟩, _⟩ := key
    refine ⟨cs, ?_, hc⟩
    have c1 := cutA_to (ns.map D.int) m
    have c2 : cutA (ns.map D.int) (some (m : Int)) (some 63) = ((ns.map D.int).drop m).take (63 - m) := by
      have := cutA_mid (ns.map D.int) m (63 - m)
      rwa [show m + (63 - m) = 63 by omega] at this
    simp [g_law_folded, b_law_folded, c1, c2]
    simp [e]
  · rintro d ds ρ ⟨⟨cs, x3, x4, rfl, hc, h3, h4⟩, es, j, hd, hj, hne⟩
    rcases es with _ | ⟨e, es⟩
    · cases hd
    simp [dEnum] at hd
    obtain ⟨rfl, rfl⟩ := hd
    have hmn := hne (by simp)
    have hlt : (j : Int) % m < cs.length := by
      have := Int.emod_lt_of_pos (j : Int) hmi
      omega
    have hge : 0 ≤ (j : Int) % m := Int.emod_nonneg _ (by omega)
    have e1 : L2.atI (cs.map D.int) ((j : Int) % m) = some (.int (cs[((j : Int) % m).toNat]'(by omega))) := atI_get hge (by simp)
    have e2 : L2.ixN cs.length ((j : Int) % m) = some ((j : Int) % m).toNat := ixN_of hge hlt
    have sm : small ((j : Int) + 2) = true := by simp at hj; exact small_of (by omega) (by omega)
    refine ⟨_, _, by simp [h3, h4]; rfl, .inl (by simp [e1, e2, sm, hm]; rfl), ⟨cs.set ((j : Int) % m).toNat (cs[((j : Int) % m).toNat]'(by omega) + e * (j + 2)), some ⟨false, false, .int j⟩, some ⟨false, false, .int e⟩, by simp, by simpa using hc, rfl, rfl⟩, es, j + 1, rfl, by simp at hj; omega, fun _ => hmn⟩
  · refine ⟨⟨ns.take m, none, none, by simp, by simp; omega, rfl, rfl⟩, (ns.drop m).take (63 - m), 0, by simp, by simp; omega, fun h => ?_⟩
    rcases Nat.lt_or_ge ns.length m with q | q
    · simp [List.drop_of_length_le (Nat.le_of_lt q)] at h
    · exact q
/-! ### names -/
def LetS (l : List Nat) : Prop := ∀ c ∈ l, 97 ≤ c ∧ c ≤ 122
def NameL (l : List Nat) : Prop := 1 ≤ l.length ∧ l.length ≤ 8 ∧ LetS l
def dstr (ls : List (List Nat)) : List D := ls.map fun l => .str (S l)
def AZ : List Nat := List.range' 97 26
theorem az_eq : Str.ofString "abcdefghijklmnopqrstuvwxyz" = S AZ := by decide +kernel
theorem az_len : AZ.length = 26 := by simp [AZ]
theorem az_at (v : Int) (h0 : 0 ≤ v) (h1 : v < 26) : L2.atI AZ v = some (97 + v.toNat) := atI_get h0 (by rw [AZ, List.getElem?_range' (by omega)]; simp)
abbrev tw (d : D) : Option W := some ⟨true, true, d⟩
abbrev iw (n : Int) : Option W := some ⟨false, false, .int n⟩
abbrev zw (l : List Nat) : Option W := some ⟨false, false, .str (S l)⟩
theorem stem_ok (q : Nat) (many : Nat) (sh : Int) : ∀ (n : Nat) (d : D) (lo : Nat) (acc : List Nat), Tp (q + n) d → acc.length + n ≤ 1000 → LetS acc →
    ∃ l d', lcL (tgN 5) mYes (m2 ixD (mVar 2) (mCall g_law_draw [true, false] (mCons (mVar 0) (mCons (mC (.int 26)) mNil)))) [5] ((List.range' lo n).map fun (i : Nat) => D.int i) (acc.map fun c => .str (S [c])) [tw d, iw many, zw AZ, iw sh, none, none, none, none, none, none, none, none, none]
      = some (l.map fun c => .str (S [c]), [tw d', iw many, zw AZ, iw sh, none, none, none, none, none, none, none, none, none]) ∧ l.length = acc.length + n ∧ LetS l ∧ Tp q d'
  | 0, d, lo, acc, h, _, ha => ⟨acc, d, by simp [lcL], rfl, ha, h⟩
  | n + 1, d, lo, acc, h, hn, ha => by
    obtain ⟨v, d1, e1, t1, v0, v1⟩ := draw_ok (r := q + n) 26 h (by decide) (by decide)
    obtain ⟨l, d', e2, hl, hL, t2⟩ := stem_ok q many sh n d1 (lo + 1) (acc ++ [97 + v.toNat]) t1 (by simp; omega) (fun c hc => by
      rcases List.mem_append.mp hc with hc | hc
      · exact ha c hc
      · simp at hc; omega)
    refine ⟨l, d', ?_, by simp at hl; omega, hL, t2⟩
    have a1 := az_at v v0 v1
    have l1 : acc.length < 16777216 := by omega
    simp at e2
    simp [List.range'_succ, lcL, e1, a1, l1, e2, az_len]
theorem dRange_eq (n : Nat) : dRange 0 n = (List.range' 0 n).map fun (i : Nat) => D.int i := by
  simp [dRange, List.range_eq_range']
def bodyN : MS := (sSeq (mSet 11 (m2 mulD (m2 modD (m2 addD (m2 addD (mVar 3) (mVar 6)) (mCB lenD (mCons (mVar 4) mNil))) (mC (.int 3))) (mCB intD (mCons (m2 neD (mVar 10) (mC (.str ""))) mNil))))
  (sSeq (mSet 12 (m2 ixD (mVar 2) (m2 modD (m2 addD (mVar 3) (m2 mulD (mVar 7) (m2 ixD (mLst (mCons (mVar 5) (mCons (m2 divD (mVar 5) (mC (.int 2))) (mCons (mVar 5) mNil)))) (mVar 11)))) (mC (.int 26)))))
  (sDrop (mMm "list" appD 8 (mCons (m2 addD (m2 addD (mVar 9) (mVar 12)) (m2 ixD (mLst (mCons (mVar 10) (mCons (m2 mulD (mVar 10) (m2 modD (mVar 5) (mC (.int 2)))) (mCons (mSl (mVar 10) oNo (oSo (m2 modD (mVar 5) (m2 addD (mCB lenD (mCons (mVar 10) mNil)) (mC (.int 1)))))) mNil)))) (mVar 11))) mNil)))))
/-- which way the names go, and the k-th of them -/
def nmW (sh at_ : Int) (stem tl : List Nat) : Int := (sh + at_ + stem.length) % 3 * (if tl = [] then 0 else 1)
def nmF (sh st w : Int) (hd tl : List Nat) (k : Nat) : List Nat := hd ++ [97 + ((sh + st * (if w = 1 then (k : Int) / 2 else k)) % 26).toNat] ++ (if w = 0 then tl else if w = 1 then (if (k : Int) % 2 = 0 then [] else tl) else tl.take (k % (tl.length + 1)))
theorem names_step (d : D) (many : Int) (sh : Int) (stem hd tl : List Nat) (k : Nat) (at_ st : Int) (acc : List (List Nat)) (x11 x12 : Option W) (h11 : pinned (some x11) = false) (h12 : pinned (some x12) = false)
    (hs : stem.length ≤ 7) (hst : 0 ≤ st ∧ st ≤ 25) (hk : k < 1000) (ha : acc.length < 1000) (hh : hd.length + tl.length ≤ 7) (l1 : LetS hd) (l2 : LetS tl) :
    ∃ (y11 y12 : Option W), bodyN [tw d, iw many, zw AZ, iw sh, zw stem, iw k, iw at_, iw st, some ⟨true, false, .lst (dstr acc)⟩, zw hd, zw tl, x11, x12]
      = some (.nx, [tw d, iw many, zw AZ, iw sh, zw stem, iw k, iw at_, iw st, some ⟨true, false, .lst (dstr (acc ++ [nmF sh st (nmW sh at_ stem tl) hd tl k]))⟩, zw hd, zw tl, y11, y12]) ∧ NameL (nmF sh st (nmW sh at_ stem tl) hd tl k) ∧ pinned (some y11) = false ∧ pinned (some y12) = false := by
  have m3a := Int.emod_nonneg (sh + at_ + stem.length) (by decide : (3 : Int) ≠ 0)
  have m3b := Int.emod_lt_of_pos (sh + at_ + stem.length) (by decide : (0 : Int) < 3)
  have hle : stem.length ≤ 16777216 := by omega
  have htl : tl.length ≤ 16777216 := by omega
  have e0 : Str.ofString "" = S [] := S_empty
  have sms : small st = true := small_of (by omega) (by omega)
  have e2 : mulD (.str (S tl)) (.int ((k : Int) % 2)) = some (.sh (.str (S (if (k : Int) % 2 = 0 then [] else tl)))) := mul_rep (by omega) (by omega) (by omega)
  have e3 : cutA tl none (some ((k : Int) % (tl.length + 1))) = tl.take (k % (tl.length + 1)) := by
    have := cutA_to tl (k % (tl.length + 1))
    simpa using this
  have p3 : (0 : Int) < tl.length + 1 := by omega
  have fin : ∀ (w : Int) (t : List Nat) (kk : Int), (t.length ≤ tl.length ∧ LetS t) → L2.atI [D.int k, D.int ((k : Int) / 2), D.int k] w = some (.int kk) →
      L2.atI [D.str (S tl), D.str (S (if (k : Int) % 2 = 0 then [] else tl)), D.str (S (tl.take (k % (tl.length + 1))))] w = some (.str (S t)) →
      (sh + at_ + stem.length) % 3 * (if tl = [] then 0 else 1) = w → nmF sh st (nmW sh at_ stem tl) hd tl k = hd ++ [97 + ((sh + st * kk) % 26).toNat] ++ t → ∃ (y11 y12 : Option W), bodyN [tw d, iw many, zw AZ, iw sh, zw stem, iw k, iw at_, iw st, some ⟨true, false, .lst (dstr acc)⟩, zw hd, zw tl, x11, x12]
      = some (.nx, [tw d, iw many, zw AZ, iw sh, zw stem, iw k, iw at_, iw st, some ⟨true, false, .lst (dstr (acc ++ [nmF sh st (nmW sh at_ stem tl) hd tl k]))⟩, zw hd, zw tl, y11, y12]) ∧ NameL (nmF sh st (nmW sh at_ stem tl) hd tl k) ∧ pinned (some y11) = false ∧ pinned (some y12) = false := by
    intro w t kk ht a1 a2 hw eF
    rw [eF]
    have v0 := Int.emod_nonneg (sh + st * kk) (by decide : (26 : Int) ≠ 0)
    have v1 := Int.emod_lt_of_pos (sh + st * kk) (by decide : (0 : Int) < 26)
    have az := az_at _ v0 v1
    have lh1 : hd.length + 1 ≤ 16777216 := by omega
    have lh2 : hd.length + 1 + t.length ≤ 16777216 := by omega
    have la : acc.length < 16777216 := by omega
    refine ⟨iw w, zw [97 + ((sh + st * kk) % 26).toNat], ?_, ⟨by simp; omega, by simp; omega, fun c hc => ?_⟩, rfl, rfl⟩
    · have sm1 : small (if tl = [] then 0 else 1) = true := by split <;> exact small_of (by decide) (by decide)
      simp [bodyN, dstr, e0, hle, htl, sm1, hw, h11, h12, a1, a2, sms, az, az_len, e2, e3, p3, lh1, lh2, la]
    · rcases List.mem_append.mp hc with hc | hc
      · rcases List.mem_append.mp hc with hc | hc
        · exact l1 c hc
        · simp at hc; omega
      · exact ht.2 c hc
  by_cases hz : tl = []
  · subst hz
    exact fin 0 [] k ⟨by simp, fun c hc => by cases hc⟩ (by simp) (by simp) (by simp) (by simp [nmF, nmW])
  · rcases (by omega : (sh + at_ + stem.length) % 3 = 0 ∨ (sh + at_ + stem.length) % 3 = 1 ∨ (sh + at_ + stem.length) % 3 = 2) with q | q | q
    · exact fin 0 tl k ⟨Nat.le_refl _, l2⟩ (by simp) (by simp) (by simp [hz, q]) (by simp [nmF, nmW, hz, q])
    · exact fin 1 (if (k : Int) % 2 = 0 then [] else tl) (k / 2) ⟨by split <;> simp, by split; (intro c hc; cases hc); exact l2⟩ (by simp) (by simp) (by simp [hz, q]) (by simp [nmF, nmW, hz, q])
    · exact fin 2 (tl.take (k % (tl.length + 1))) k ⟨by simp; omega, fun c hc => l2 c (List.mem_of_mem_take hc)⟩ (by simp) (by simp) (by simp [hz, q]) (by simp [nmF, nmW, hz, q])
theorem names_loop (many : Int) (sh : Int) (stem hd tl : List Nat) (at_ st : Int) (d : D) (hs : stem.length ≤ 7) (hst : 0 ≤ st ∧ st ≤ 25) (hh : hd.length + tl.length ≤ 7) (l1 : LetS hd) (l2 : LetS tl) :
    ∀ (n lo : Nat) (acc : List (List Nat)) (x5 x11 x12 : Option W), pinned (some x5) = false → pinned (some x11) = false → pinned (some x12) = false → lo + n ≤ 1000 → acc.length + n ≤ 1000 → (∀ l ∈ acc, NameL l) →
    ∃ (y5 y11 y12 : Option W), forL (tgN 5) bodyN ((List.range' lo n).map fun (i : Nat) => D.int i) [tw d, iw many, zw AZ, iw sh, zw stem, x5, iw at_, iw st, some ⟨true, false, .lst (dstr acc)⟩, zw hd, zw tl, x11, x12]
      = some (.nx, [tw d, iw many, zw AZ, iw sh, zw stem, y5, iw at_, iw st, some ⟨true, false, .lst (dstr (acc ++ (List.range' lo n).map (nmF sh st (nmW sh at_ stem tl) hd tl)))⟩, zw hd, zw tl, y11, y12]) ∧ ∀ l ∈ acc ++ (List.range' lo n).map (nmF sh st (nmW sh at_ stem tl) hd tl), NameL l
  | 0, lo, acc, x5, x11, x12, _, _, _, _, _, ha => ⟨x5, x11, x12, by simp [forL], by simpa using ha⟩
  | n + 1, lo, acc, x5, x11, x12, h5, h11, h12, hlo, hac, ha => by
    obtain ⟨y11, y12, e, hl, g11, g12⟩ := names_step d many sh stem hd tl lo at_ st acc x11 x12 h11 h12 hs hst (by omega) (by omega) hh l1 l2
    obtain ⟨z5, z11, z12, e2, h3⟩ := names_loop many sh stem hd tl at_ st d hs hst hh l1 l2 n (lo + 1) (acc ++ [nmF sh st (nmW sh at_ stem tl) hd tl lo]) (iw lo) y11 y12 rfl g11 g12 (by omega) (by simp; omega) (fun q hq => by
      rcases List.mem_append.mp hq with hq | hq
      · exact ha q hq
      · simp at hq; subst hq; exact hl)
    have ea : acc ++ (List.range' lo (n + 1)).map (nmF sh st (nmW sh at_ stem tl) hd tl) = acc ++ [nmF sh st (nmW sh at_ stem tl) hd tl lo] ++ (List.range' (lo + 1) n).map (nmF sh st (nmW sh at_ stem tl) hd tl) := by simp [List.range'_succ]
    rw [ea]
    refine ⟨z5, z11, z12, ?_, h3⟩
    rw [List.range'_succ]
    simp only [List.map_cons]
    unfold forL
    simp only [tgN]
    simp [h5, e, e2]
theorem nm_inj {sh st : Int} (hst : st = 1 ∨ st = 7 ∨ st = 25) {w : Int} {hd tl : List Nat} (hw : w = 0 ∨ (w = 1 ∧ tl ≠ []) ∨ w = 2) {i j : Nat} (hi : i < 26) (hj : j < 26) (h : nmF sh st w hd tl i = nmF sh st w hd tl j) : i = j := by
  unfold nmF at h
  rw [List.append_assoc, List.append_assoc] at h
  have h1 := List.append_cancel_left h
  simp only [List.singleton_append, List.cons.injEq] at h1
  obtain ⟨hc, ht⟩ := h1
  have a0 := Int.emod_nonneg (sh + st * (if w = 1 then (i : Int) / 2 else i)) (by decide : (26 : Int) ≠ 0)
  have b0 := Int.emod_nonneg (sh + st * (if w = 1 then (j : Int) / 2 else j)) (by decide : (26 : Int) ≠ 0)
  have he : (sh + st * (if w = 1 then (i : Int) / 2 else i)) % 26 = (sh + st * (if w = 1 then (j : Int) / 2 else j)) % 26 := by omega
  rcases hw with rfl | ⟨rfl, htl⟩ | rfl
  · simp at he
    rcases hst with rfl | rfl | rfl <;> omega
  · simp at he
    have e2 : (i : Int) / 2 = (j : Int) / 2 := by rcases hst with rfl | rfl | rfl <;> omega
    have par : (i : Int) % 2 = (j : Int) % 2 := by
      have z10 : ¬ ((1 : Int) = 0) := by decide
      simp only [z10, if_false, if_true] at ht
      by_cases p : (i : Int) % 2 = 0 <;> by_cases q : (j : Int) % 2 = 0
      · omega
      · rw [if_pos p, if_neg q] at ht
        exact absurd ht.symm htl
      · rw [if_neg p, if_pos q] at ht
        exact absurd ht htl
      · omega
    omega
  · simp at he
    rcases hst with rfl | rfl | rfl <;> omega
theorem names_okN {r : Nat} {d : D} (many : Nat) (hm : many ≤ 500) (h : Tp (r + 12) d) : ∃ ls d', g_law_names [⟨true,true,d⟩, ⟨false,false,.int many⟩] = some (.ow (.lst (dstr ls)), [⟨true,true,d'⟩, ⟨false,false,.int many⟩]) ∧ Tp r d' ∧ ls.length = many ∧ (∀ l ∈ ls, NameL l) ∧ (many ≤ 26 → ls.Nodup) := by
  obtain ⟨sh, d1, e1, t1, s0, s1⟩ := draw_ok (r := r + 11) 26 h (by decide) (by decide)
  obtain ⟨n, d2, e2, t2, n0, n1⟩ := draw_ok (r := r + 10) 8 t1 (by decide) (by decide)
  obtain ⟨m, rfl⟩ := Int.eq_ofNat_of_zero_le n0
  obtain ⟨stem, d3, e3, hl, hL, t3⟩ := stem_ok (r + 2) many sh m d2 0 [] (t2.mono (by omega)) (by simp; omega) (fun c hc => by cases hc)
  simp at hl
  obtain ⟨at_, d4, e4, t4, a0, a1⟩ := draw_ok (r := r + 1) (stem.length + 1 : Int) t3 (by omega) (by omega)
  obtain ⟨a, rfl⟩ := Int.eq_ofNat_of_zero_le a0
  obtain ⟨sti, d5, e5, t5, i0, i1⟩ := draw_ok (r := r) 3 t4 (by decide) (by decide)
  obtain ⟨st, hst, e6⟩ : ∃ st : Int, ((0 ≤ st ∧ st ≤ 25) ∧ (st = 1 ∨ st = 7 ∨ st = 25)) ∧ L2.atI [D.int 1, D.int 7, D.int 25] sti = some (.int st) := by
    rcases (by omega : sti = 0 ∨ sti = 1 ∨ sti = 2) with rfl | rfl | rfl
    · exact ⟨1, by decide, by simp⟩
    · exact ⟨7, by decide, by simp⟩
    · exact ⟨25, by decide, by simp⟩
  obtain ⟨y5, y11, y12, e7, h8⟩ := names_loop many sh stem (stem.take a) (stem.drop a) a st d5 (by omega) hst.1 (by simp; omega) (fun c hc => hL c (List.mem_of_mem_take hc)) (fun c hc => hL c (List.mem_of_mem_drop hc)) many 0 [] none none none rfl rfl rfl (by omega) (by simp; omega) (fun l hl => by cases hl)
  have nd : many ≤ 26 → ((List.range' 0 many).map (nmF sh st (nmW sh a stem (stem.drop a)) (stem.take a) (stem.drop a))).Nodup := fun h26 => by
    rw [List.Nodup, List.pairwise_map]
    refine List.Pairwise.imp_of_mem (fun {i j} hi hj hlt q => ?_) (List.pairwise_lt_range' (s := 0) (n := many))
    have h1 := (List.mem_range'_1.mp hi).2
    have h2 := (List.mem_range'_1.mp hj).2
    have hw : nmW sh a stem (stem.drop a) = 0 ∨ (nmW sh a stem (stem.drop a) = 1 ∧ stem.drop a ≠ []) ∨ nmW sh a stem (stem.drop a) = 2 := by
      unfold nmW
      by_cases z : stem.drop a = []
      · left; simp [z]
      · have m0 := Int.emod_nonneg (sh + a + stem.length) (by decide : (3 : Int) ≠ 0)
        have m1 := Int.emod_lt_of_pos (sh + a + stem.length) (by decide : (0 : Int) < 3)
        simp [z]
        omega
    have := nm_inj hst.2 hw (by omega) (by omega) q
    omega
  simp only [List.nil_append] at e7 h8
  have h7 : ((List.range' 0 many).map (nmF sh st (nmW sh a stem (stem.drop a)) (stem.take a) (stem.drop a))).length = many := by simp
  generalize (List.range' 0 many).map (nmF sh st (nmW sh a stem (stem.drop a)) (stem.take a) (stem.drop a)) = ls at e7 h8 nd h7
  refine ⟨ls, d5, ?_, t5, h7, h8, nd⟩
  have c1 := cutA_to stem a
  have c2 := cutA_from stem a
  have j1 : strsD (stem.map fun c => D.str (S [c])) = some (stem.map fun c => S [c]) := by
    have := strsD_S (stem.map fun c => [c])
    simpa [Function.comp_def] using this
  have j2 : Txt.join (S []) (stem.map fun c => S [c]) = S stem := by
    have := join_S (stem.map fun c => [c])
    rw [flat1] at this
    simpa [Function.comp_def] using this
  have sl : (stem.map (Str.length ∘ fun c => S [c])).sum ≤ 16777216 := by
    have := sum_le (l := stem) (f := Str.length ∘ fun c => S [c]) (B := 1) fun _ _ => by simp
    omega
  have e0 : Str.ofString "" = S [] := S_empty
  have r1 : (m : Int) < 2 ^ 62 := by omega
  have r2 : -(2 ^ 62) ≤ (m : Int) := by omega
  have r3 : (many : Int) < 2 ^ 62 := by omega
  have r4 : -(2 ^ 62) ≤ (many : Int) := by omega
  have sl2 : stem.length ≤ 16777216 := by omega
  simp only [bodyN, e0] at e7
  simp [dstr] at e3 e7 r1 r2 r3 r4
  simp [g_law_names, b_law_names, az_eq, e0, e1, e2, dRange_eq, e3, j1, j2, sl, sl2, r1, r2, r3, r4, e4, e5, e6, c1, c2, e7, dstr]

theorem names_ok {r : Nat} {d : D} (many : Nat) (hm : many ≤ 500) (h : Tp (r + 12) d) : ∃ ls d', g_law_names [⟨true,true,d⟩, ⟨false,false,.int many⟩] = some (.ow (.lst (dstr ls)), [⟨true,true,d'⟩, ⟨false,false,.int many⟩]) ∧ Tp r d' ∧ ls.length = many ∧ ∀ l ∈ ls, NameL l := by
  obtain ⟨ls, d', e, t, l, n, _⟩ := names_okN many hm h
  exact ⟨ls, d', e, t, l, n⟩
end
end Cm
set_option Elab.async false
set_option linter.all false
set_option maxRecDepth 100000
set_option maxHeartbeats 1000000
namespace Cm
noncomputable section
open Mi PySem
/-! ### from the front -/
section
variable {s : Nat} {d : D} {Q : Rs × List W → Prop}
theorem draw_w {m : Int} (h : Tp s d) (hs : 1 ≤ s) (hm : 0 < m) (hm2 : m < 18446744073709551616) (k : ∀ v d', Tp (s - 1) d' → 0 ≤ v → v < m → Q (.sh (.int v), [⟨true,true,d'⟩, ⟨false,false,.int m⟩])) : ok (g_law_draw [⟨true,true,d⟩, ⟨false,false,.int m⟩]) Q := by
  obtain ⟨v, d', e, t, v0, v1⟩ := draw_ok (r := s - 1) m (h.mono (by omega)) hm hm2
  exact ok_of e (k v d' t v0 v1)
theorem names_w {many : Int} (h : Tp s d) (hs : 12 ≤ s) (h0 : 0 ≤ many) (h1 : many ≤ 500) (k : ∀ ls d', Tp (s - 12) d' → (ls.length : Int) = many → (∀ l ∈ ls, NameL l) → Q (.ow (.lst (dstr ls)), [⟨true,true,d'⟩, ⟨false,false,.int many⟩])) : ok (g_law_names [⟨true,true,d⟩, ⟨false,false,.int many⟩]) Q := by
  obtain ⟨m, rfl⟩ := Int.eq_ofNat_of_zero_le h0
  obtain ⟨ls, d', e, t, hl, hn⟩ := names_ok (r := s - 12) m (by omega) (h.mono (by omega))
  exact ok_of e (k ls d' t (by omega) hn)
theorem folded_w (ns : List Int) {m : Int} (hm : 0 < m) (hm2 : m ≤ 63) (hl : ns.length ≤ 63) (k : ∀ cs : List Int, (cs.length : Int) ≤ m → cs.length = min ns.length m.toNat → Q (.ow (.lst (cs.map .int)), [⟨false,false,.frl (ns.map .int)⟩, ⟨false,false,.int m⟩])) : ok (g_law_folded [⟨false,false,.frl (ns.map .int)⟩, ⟨false,false,.int m⟩]) Q := by
  obtain ⟨m, rfl⟩ := Int.eq_ofNat_of_zero_le (Int.le_of_lt hm)
  obtain ⟨cs, e, hc⟩ := folded_ok ns m (by omega) (by omega) hl
  exact ok_of e (k cs (by omega) (by simpa using hc))
theorem tape_w (cs : List Int) {k : Int} (h0 : 0 ≤ k) (h1 : k < cs.length) (h2 : k < 1000) (q : ∀ d, Tp 1099511627776 d → Q (.ow d, [⟨false,false,.lst (cs.map .int)⟩, ⟨false,false,.int k⟩])) : ok (g_law_tape [⟨false,false,.lst (cs.map .int)⟩, ⟨false,false,.int k⟩]) Q := by
  obtain ⟨m, rfl⟩ := Int.eq_ofNat_of_zero_le h0
  obtain ⟨d, e, t⟩ := tape_ok cs m (by omega) (by omega)
  exact ok_of e (q d t)
end
theorem ok_dstr {P : List (List Nat)} {i : Int} {Q : D → Prop} (h0 : 0 ≤ i) (h1 : i < P.length) (k : ∀ p ∈ P, Q (.str (S p))) : ok (L2.atI (dstr P) i) Q := by
  refine ok_at h0 (by simpa [dstr] using h1) fun x hx => ?_
  obtain ⟨p, hp, rfl⟩ := List.mem_map.mp hx
  exact k p hp
@[simp] theorem dstr_len (P : List (List Nat)) : (dstr P).length = P.length := by simp [dstr]
@[simp] theorem dstr_app (P : List (List Nat)) (l : List Nat) : dstr P ++ [.str (S l)] = dstr (P ++ [l]) := by simp [dstr]
@[simp] theorem dstr_nil : dstr [] = [] := rfl
theorem dstr_take (P : List (List Nat)) (n : Nat) : (dstr P).take n = dstr (P.take n) := by simp [dstr]
/-- letters and dots -/
def SnL (l : List Nat) : Prop := 1 ≤ l.length ∧ l.length ≤ 17 ∧ ∀ c ∈ l, c = 46 ∨ (97 ≤ c ∧ c ≤ 122)
theorem stepnames_w {s : Nat} {d : D} {Q : Rs × List W → Prop} {many : Int} (h0 : 0 ≤ many) (h1 : many ≤ 20) (h : Tp s d) (hs : 32 ≤ s) (k : ∀ ls d', Tp (s - 32) d' → (ls.length : Int) = many → (∀ l ∈ ls, SnL l) → Q (.ow (.lst (dstr ls)), [⟨true,true,d'⟩, ⟨false,false,.int many⟩])) : ok (g_law_stepnames [⟨true,true,d⟩, ⟨false,false,.int many⟩]) Q := by
  rw [g_law_stepnames, w_gOf, b_law_stepnames]
  obtain ⟨m, rfl⟩ := Int.eq_ofNat_of_zero_le h0
  simp
  refine names_w h (by omega) (by omega) (by omega) fun ls d1 t1 hl hn => ?_
  simp
  let I : List D → En → Prop := fun ds ρ => ∃ (d2 : D) (ks acc : List (List Nat)) (x : Option W), ds = dstr ks ∧ (∀ k ∈ ks, NameL k) ∧ Tp (s - 32 + ks.length) d2 ∧ pinned (some x) = false ∧ acc.length + ks.length = m ∧ (∀ l ∈ acc, SnL l) ∧
     ρ = [some ⟨true, true, d2⟩, some ⟨false, false, .int m⟩, some ⟨true, false, .lst (dstr ls)⟩, some ⟨true, false, .lst (dstr acc)⟩, x]
  refine fo_inv I ?_ ?_ ?_
  · exact ⟨d1, ls.take m, [], none, by rw [cutA_to, dstr_take], fun k hk => hn k (List.mem_of_mem_take hk), t1.mono (by simp; omega), rfl, by simp; omega, by simp, rfl⟩
  · rintro d ds ρ ⟨d2, ks, acc, x, hd, hk, t2, hx, ha, hsn, rfl⟩
    rcases ks with _ | ⟨k1, ks⟩
    · cases hd
    simp [dstr] at hd
    obtain ⟨rfl, rfl⟩ := hd
    have hk1 := hk k1 (by simp)
    simp at ha t2
    simp [hx]
    refine ok_dstr (by omega) (by omega) fun p hp => ?_
    have hp1 := hn p hp
    simp
    refine ⟨by have := hp1.2.1; omega, by have := hk1.2.1; omega, ?_⟩
    refine draw_w t2 (by omega) (by omega) (by omega) fun v d3 t3 v0 v1 => ?_
    simp
    refine ok_dstr (P := [[], 46 :: p, 46 :: k1]) v0 (by simpa using v1) fun z hz => ?_
    have hz1 : z.length ≤ 9 ∧ ∀ c ∈ z, c = 46 ∨ (97 ≤ c ∧ c ≤ 122) := by
      simp at hz
      rcases hz with rfl | rfl | rfl
      · exact ⟨by simp, by simp⟩
      · exact ⟨by have := hp1.2.1; simp; omega, fun c hc => by rcases List.mem_cons.mp hc with rfl | hc; exact .inl rfl; exact .inr (hp1.2.2 c hc)⟩
      · exact ⟨by have := hk1.2.1; simp; omega, fun c hc => by rcases List.mem_cons.mp hc with rfl | hc; exact .inl rfl; exact .inr (hk1.2.2 c hc)⟩
    simp
    refine ⟨by have := hk1.2.1; omega, by omega, d3, ks, _, some ⟨false, false, .str (S k1)⟩, rfl, fun k hk' => hk k (by simp [hk']), t3.mono (by omega), rfl, ?_, ?_, rfl⟩
    · simp; omega
    · intro l hl'
      simp at hl'
      rcases hl' with hl' | rfl
      · exact hsn l hl'
      · refine ⟨by have := hk1.1; simp; omega, by have := hk1.2.1; simp; omega, fun c hc => ?_⟩
        rcases List.mem_append.mp hc with hc | hc
        · exact .inr (hk1.2.2 c hc)
        · exact hz1.2 c hc
  · rintro ρ ⟨d2, ks, acc, x, hd, hk, t2, hx, ha, hsn, rfl⟩
    have : ks = [] := by cases ks with | nil => rfl | cons a b => simp [dstr] at hd
    subst this
    simp
    exact k acc d2 (by simpa using t2) (by simp at ha; omega) hsn
end
end Cm
set_option Elab.async false
set_option linter.all false
set_option maxRecDepth 100000
set_option maxHeartbeats 1000000
namespace Cm
noncomputable section
open Mi PySem
/-! ### conditions -/
inductive Cw where
  | below | above | is
inductive Ew where
  | ran | fell | passed
inductive Cd where
  | cmp (w : Cw) (s : List Nat) (n : Int) | en (w : Ew) (s : List Nat) | no (c : Cd) | both (c d : Cd) | either (c d : Cd)
def Cw.l : Cw → List Nat
  | .below => [98, 101, 108, 111, 119]
  | .above => [97, 98, 111, 118, 101]
  | .is => [105, 115]
def Ew.l : Ew → List Nat
  | .ran => [114, 97, 110]
  | .fell => [102, 101, 108, 108]
  | .passed => [112, 97, 115, 115, 101, 100]
def enc : Cd → D
  | .cmp w s n => .tup [.str (S w.l), .str (S s), .int n]
  | .en w s => .tup [.str (S w.l), .str (S s)]
  | .no c => .tup [.str (S [110, 111, 116]), enc c]
  | .both c d => .tup [.str (S [98, 111, 116, 104]), enc c, enc d]
  | .either c d => .tup [.str (S [101, 105, 116, 104, 101, 114]), enc c, enc d]
def Cd.deep : Cd → Nat
  | .cmp _ _ _ => 1
  | .en _ _ => 1
  | .no c => c.deep + 1
  | .both c d => max c.deep d.deep + 1
  | .either c d => max c.deep d.deep + 1
def Cd.size : Cd → Nat
  | .cmp _ _ _ => 1
  | .en _ _ => 1
  | .no c => c.size + 1
  | .both c d => c.size + d.size + 1
  | .either c d => c.size + d.size + 1
theorem Cd.deep_pos (c : Cd) : 1 ≤ c.deep := by cases c <;> simp [Cd.deep]
theorem Cd.size_pos (c : Cd) : 1 ≤ c.size := by cases c <;> simp [Cd.size]
def CdOk (N : List (List Nat)) : Cd → Prop
  | .cmp _ s n => s ∈ N ∧ 0 ≤ n ∧ n ≤ 99
  | .en _ s => s ∈ N
  | .no c => CdOk N c
  | .both c d => CdOk N c ∧ CdOk N d
  | .either c d => CdOk N c ∧ CdOk N d
theorem leaf_w {s : Nat} {d : D} {Q : Rs × List W → Prop} {N : List (List Nat)} (h : Tp s d) (hs : 5 ≤ s) (h0 : N ≠ []) (h1 : N.length ≤ 1000)
    (k : ∀ c d', Tp (s - 5) d' → CdOk N c → c.deep = 1 → c.size = 1 → Q (.sh (enc c), [⟨true,true,d'⟩, ⟨false,false,.lst (dstr N)⟩])) : ok (g_law_leaf [⟨true,true,d⟩, ⟨false,false,.lst (dstr N)⟩]) Q := by
  have hp : 0 < N.length := List.length_pos_iff.mpr h0
  rw [g_law_leaf, w_gOf, b_law_leaf]
  simp
  refine draw_w h (by omega) (by omega) (by omega) fun v d1 t1 v0 v1 => ?_
  simp
  refine draw_w t1 (by omega) (by omega) (by omega) fun u d2 t2 u0 u1 => ?_
  simp
  refine ok_dstr u0 (by omega) fun p hp => ?_
  simp
  refine ⟨fun hv => ?_, fun hv => ?_⟩
  · simp at hv
    simp
    refine ok_at (by omega) (by simp; omega) fun x hx => ?_
    simp at hx
    rcases hx with rfl | rfl | rfl
    · simp; exact k (.en .ran p) _ (t2.mono (by omega)) hp rfl rfl
    · simp; exact k (.en .fell p) _ (t2.mono (by omega)) hp rfl rfl
    · simp; exact k (.en .passed p) _ (t2.mono (by omega)) hp rfl rfl
  · simp at hv
    simp
    refine draw_w t2 (by omega) (by omega) (by omega) fun a d3 t3 a0 a1 => ?_
    simp
    refine draw_w t3 (by omega) (by omega) (by omega) fun b d4 t4 b0 b1 => ?_
    simp
    refine draw_w t4 (by omega) (by omega) (by omega) fun e d5 t5 e0 e1 => ?_
    simp
    refine ok_at (by omega) (by simp; omega) fun x hx => ?_
    obtain ⟨n, rfl, hn⟩ : ∃ n : Int, x = .int n ∧ (0 ≤ n ∧ n ≤ 99) := by
      simp at hx
      rcases hx with rfl | rfl | rfl | rfl | rfl | rfl <;> exact ⟨_, rfl, by omega⟩
    simp
    refine ok_at (by omega) (by simp; omega) fun x hx => ?_
    simp at hx
    rcases hx with rfl | rfl | rfl
    · simp; exact k (.cmp .below p n) _ (t5.mono (by omega)) ⟨hp, hn⟩ rfl rfl
    · simp; exact k (.cmp .above p n) _ (t5.mono (by omega)) ⟨hp, hn⟩ rfl rfl
    · simp; exact k (.cmp .is p n) _ (t5.mono (by omega)) ⟨hp, hn⟩ rfl rfl
theorem grown_w {N : List (List Nat)} (h0 : N ≠ []) (h1 : N.length ≤ 1000) : ∀ (n : Nat) {s : Nat} {d : D} {Q : Rs × List W → Prop} {p e : Int}, Tp s d → 1 ≤ p → p ≤ 20 → 1 ≤ n → e ≤ n → 10 * p.toNat ≤ s →
    (∀ c d', Tp (s - 10 * p.toNat) d' → CdOk N c → (c.deep : Int) ≤ max 1 e → (c.size : Int) ≤ p → Q (.sh (enc c), [⟨true,true,d'⟩, ⟨false,false,.lst (dstr N)⟩, ⟨false,false,.int p⟩, ⟨false,false,.int e⟩])) →
    ok (g_law_grown n [⟨true,true,d⟩, ⟨false,false,.lst (dstr N)⟩, ⟨false,false,.int p⟩, ⟨false,false,.int e⟩]) Q
  | 0, s, d, Q, p, e, _, _, _, hn, _, _, _ => by omega
  | n + 1, s, d, Q, p, e, h, hp, hp2, hn, he, hs, k => by
    rw [g_law_grown, w_gOf, b_law_grown]
    have lf : ∀ {s' : Nat} {d' : D}, Tp s' d' → 5 + (s - 10 * p.toNat) ≤ s' → wp (sRet (mCall g_law_leaf [true, false] (mCons (mVar 0) (mCons (mVar 1) mNil)))) [some ⟨true,true,d'⟩, some ⟨false,false,.lst (dstr N)⟩, some ⟨false,false,.int p⟩, some ⟨false,false,.int e⟩, none, none] fun o ρ => nxt o True (okG [⟨true,true,d⟩, ⟨false,false,.lst (dstr N)⟩, ⟨false,false,.int p⟩, ⟨false,false,.int e⟩] o ρ Q) := by
      intro s' d' t hs'
      simp
      refine leaf_w t (by omega) h0 h1 fun c d2 t2 hc hd hz => ?_
      simp
      exact k c d2 (t2.mono (by omega)) hc (by omega) (by omega)
    simp
    refine ⟨fun q => ?_, fun q => ?_⟩
    · simp
      refine leaf_w h (by omega) h0 h1 fun c d2 t2 hc hd hz => ?_
      simp
      exact k c d2 (t2.mono (by omega)) hc (by omega) (by omega)
    · simp at q
      simp
      refine ⟨fun q2 => ?_, fun q2 => ?_⟩
      · simp
        refine leaf_w h (by omega) h0 h1 fun c d2 t2 hc hd hz => ?_
        simp
        exact k c d2 (t2.mono (by omega)) hc (by omega) (by omega)
      · simp at q2
        simp
        have nt : ∀ {s' : Nat} {d' : D}, Tp s' d' → s - 1 ≤ s' → ok (g_law_grown n [⟨true,true,d'⟩, ⟨false,false,.lst (dstr N)⟩, ⟨false,false,.int (p - 1)⟩, ⟨false,false,.int (e - 1)⟩]) fun x => ∃ c d2, x = (.sh (enc c), [⟨true,true,d2⟩, ⟨false,false,.lst (dstr N)⟩, ⟨false,false,.int (p - 1)⟩, ⟨false,false,.int (e - 1)⟩]) ∧ Tp (s - 10 * p.toNat) d2 ∧ CdOk N c ∧ (c.deep : Int) ≤ e - 1 ∧ (c.size : Int) ≤ p - 1 := by
          intro s' d' t hs'
          exact grown_w h0 h1 n t (by omega) (by omega) (by omega) (by omega) (by omega) fun c d2 t2 hc hd hz => ⟨c, d2, rfl, t2.mono (by omega), hc, by omega, hz⟩
        refine ⟨fun q3 => ?_, fun q3 => ?_⟩
        · simp
          refine ok_mono (nt h (by omega)) ?_
          rintro x ⟨c, d2, rfl, t2, hc, hd, hz⟩
          simp
          exact k (.no c) d2 t2 hc (by simp [Cd.deep]; omega) (by simp [Cd.size]; omega)
        · simp at q3
          simp
          refine draw_w h (by omega) (by omega) (by omega) fun v d1 t1 v0 v1 => ?_
          simp
          refine ⟨fun q4 => ?_, fun q4 => ?_⟩
          · simp
            refine ok_mono (nt t1 (by omega)) ?_
            rintro x ⟨c, d2, rfl, t2, hc, hd, hz⟩
            simp
            exact k (.no c) d2 t2 hc (by simp [Cd.deep]; omega) (by simp [Cd.size]; omega)
          · simp
            refine draw_w t1 (by omega) (by omega) (by omega) fun u d2 t2 u0 u1 => ?_
            simp
            refine grown_w h0 h1 n t2 (by omega) (by omega) (by omega) (by omega) (by omega) fun c d3 t3 hc hcd hcz => ?_
            simp
            refine draw_w t3 (by omega) (by omega) (by omega) fun w d4 t4 w0 w1 => ?_
            simp
            refine ok_at (by omega) (by simp; omega) fun x hx => ?_
            simp
            refine grown_w h0 h1 n t4 (by omega) (by omega) (by omega) (by omega) (by omega) fun f d5 t5 hf hfd hfz => ?_
            simp at hx
            rcases hx with rfl | rfl
            · simp; exact k (.both c f) d5 (t5.mono (by omega)) ⟨hc, hf⟩ (by simp [Cd.deep]; omega) (by simp [Cd.size]; omega)
            · simp; exact k (.either c f) d5 (t5.mono (by omega)) ⟨hc, hf⟩ (by simp [Cd.deep]; omega) (by simp [Cd.size]; omega)
/-! ### alike -/
theorem same_w : ∀ (n : Nat) {d : D} {Q : Rs × List W → Prop}, Sd n d → Q (.sh (.bl true), [⟨false,false,d⟩, ⟨false,false,d⟩]) → ok (g_law_same n [⟨false,false,d⟩, ⟨false,false,d⟩]) Q
  | 0, d, Q, h, _ => h.elim
  | n + 1, d, Q, h, k => by
    rw [g_law_same, w_gOf, b_law_same]
    have sq : ∀ {ds : List D} {ρ : En} {K : List D → En → Prop} {x y : Option W}, ρ = [x, y, none, none] → ds.length ≤ 1000000 → (∀ x ∈ ds, Sd n x) → K (List.replicate ds.length (.bl true)) ρ → wp (lcL (tgT [2, 3]) mYes (mCall (g_law_same n) [false, false] (mCons (mVar 2) (mCons (mVar 3) mNil))) [2, 3] (dZip ds ds) []) ρ K := by
      intro ds ρ K x y hρ hl hd hK
      have e : (dZip ds ds).map (fun _ => D.bl true) = List.replicate ds.length (.bl true) := by
        rw [List.map_const', dZip_len1]
      refine lc_map (fun _ => .bl true) (by rw [dZip_len1]; omega) (fun z hz => ?_) (by rw [e]; exact hK)
      obtain ⟨u, hu, rfl⟩ := dZip_mem hz
      subst hρ
      simp
      refine same_w n (hd u hu) ?_
      simp
    cases d with
    | non => simp; exact k
    | bl b => simp; exact k
    | int i => simp; exact k
    | str x => simp; exact k
    | tup ds =>
      obtain ⟨hl, hd⟩ := h
      simp
      refine sq rfl hl hd ?_
      simp [bls_true]
      exact k
    | lst ds =>
      obtain ⟨hl, hd⟩ := h
      simp
      refine sq rfl hl hd ?_
      simp [bls_true]
      exact k
    | _ => exact h.elim
end
end Cm
set_option Elab.async false
set_option linter.all false
set_option maxRecDepth 100000
set_option maxHeartbeats 1000000
namespace Cm
noncomputable section
open Mi PySem
theorem SnL.asc {s : List Nat} (h : SnL s) : Asc s := fun c hc => by rcases h.2.2 c hc with h | h <;> omega
theorem Cw.asc (w : Cw) : Asc w.l := by cases w <;> simp [Asc, Cw.l]
theorem Ew.asc (w : Ew) : Asc w.l := by cases w <;> simp [Asc, Ew.l]
theorem Cw.len (w : Cw) : w.l.length ≤ 5 := by cases w <;> decide
theorem Ew.len (w : Ew) : w.l.length ≤ 6 := by cases w <;> decide
theorem enc_rp {N : List (List Nat)} (hN : ∀ s ∈ N, SnL s) : ∀ c : Cd, CdOk N c → Rp (200 * 4 ^ c.deep) c.deep (enc c)
  | .cmp w s n, h => by
    have hs := hN s h.1
    have l1 := w.len
    have := Rp.tup (k := 190) (n := 0) (ds := [.str (S w.l), .str (S s), .int n]) (fun x hx => by
      simp at hx
      rcases hx with rfl | rfl | rfl
      · exact Rp.str' w.asc (by omega)
      · exact Rp.str' hs.asc (by have := hs.2.1; omega)
      · exact Rp.int' (by have := h.2; omega) (by have := h.2; omega) (by omega))
    exact this.mono (by simp [Cd.deep]) (by simp [Cd.deep])
  | .en w s, h => by
    have hs := hN s h
    have l1 := w.len
    have := Rp.tup (k := 190) (n := 0) (ds := [.str (S w.l), .str (S s)]) (fun x hx => by
      simp at hx
      rcases hx with rfl | rfl
      · exact Rp.str' w.asc (by omega)
      · exact Rp.str' hs.asc (by have := hs.2.1; omega))
    exact this.mono (by simp [Cd.deep]) (by simp [Cd.deep])
  | .no c, h => by
    have ih := enc_rp hN c h
    have hp : 200 ≤ 200 * 4 ^ c.deep := by have := Nat.pow_pos (a := 4) (n := c.deep) (by decide); omega
    have := Rp.tup (k := 200 * 4 ^ c.deep) (n := c.deep) (ds := [.str (S [110, 111, 116]), enc c]) (fun x hx => by
      simp at hx
      rcases hx with rfl | rfl
      · exact Rp.str' (by simp [Asc]) (by simp; omega)
      · exact ih)
    exact this.mono (by simp [Cd.deep, Nat.pow_succ]; omega) (by simp [Cd.deep])
  | .both c d, h => by
    have i1 := enc_rp hN c h.1
    have i2 := enc_rp hN d h.2
    have m1 : 4 ^ c.deep ≤ 4 ^ max c.deep d.deep := Nat.pow_le_pow_right (by decide) (by omega)
    have m2 : 4 ^ d.deep ≤ 4 ^ max c.deep d.deep := Nat.pow_le_pow_right (by decide) (by omega)
    have hp : 0 < 4 ^ max c.deep d.deep := Nat.pow_pos (by decide)
    have := Rp.tup (k := 200 * 4 ^ max c.deep d.deep) (n := max c.deep d.deep) (ds := [.str (S [98, 111, 116, 104]), enc c, enc d]) (fun x hx => by
      simp at hx
      rcases hx with rfl | rfl | rfl
      · exact Rp.str' (by simp [Asc]) (by simp; omega)
      · exact i1.mono (by omega) (by omega)
      · exact i2.mono (by omega) (by omega))
    exact this.mono (by simp [Cd.deep, Nat.pow_succ]; omega) (by simp [Cd.deep])
  | .either c d, h => by
    have i1 := enc_rp hN c h.1
    have i2 := enc_rp hN d h.2
    have m1 : 4 ^ c.deep ≤ 4 ^ max c.deep d.deep := Nat.pow_le_pow_right (by decide) (by omega)
    have m2 : 4 ^ d.deep ≤ 4 ^ max c.deep d.deep := Nat.pow_le_pow_right (by decide) (by omega)
    have hp : 0 < 4 ^ max c.deep d.deep := Nat.pow_pos (by decide)
    have := Rp.tup (k := 200 * 4 ^ max c.deep d.deep) (n := max c.deep d.deep) (ds := [.str (S [101, 105, 116, 104, 101, 114]), enc c, enc d]) (fun x hx => by
      simp at hx
      rcases hx with rfl | rfl | rfl
      · exact Rp.str' (by simp [Asc]) (by simp; omega)
      · exact i1.mono (by omega) (by omega)
      · exact i2.mono (by omega) (by omega))
    exact this.mono (by simp [Cd.deep, Nat.pow_succ]; omega) (by simp [Cd.deep])
end
end Cm
set_option Elab.async false
set_option linter.all false
set_option maxRecDepth 100000
set_option maxHeartbeats 1000000
namespace Cm
noncomputable section
open Mi PySem
/-! ### ends -/
inductive Ed where
  | ran (n : Int) | fell | passed
def encE : Ed → D
  | .ran n => .tup [.str (S [114, 97, 110]), .int n]
  | .fell => .tup [.str (S [102, 101, 108, 108]), .str (S [119, 111, 114, 100])]
  | .passed => .tup [.str (S [112, 97, 115, 115, 101, 100])]
def EOk : Ed → Prop
  | .ran n => 0 ≤ n ∧ n ≤ 99
  | _ => True
def holdsL : Cd → Ed → Bool
  | .cmp .below _ n, .ran c => decide (c < n)
  | .cmp .above _ n, .ran c => decide (n < c)
  | .cmp .is _ n, .ran c => decide (c = n)
  | .en .ran _, .ran _ => true
  | .en .fell _, .fell => true
  | .en .passed _, .passed => true
  | _, _ => false
def stepOf : Cd → List Nat
  | .cmp _ s _ => s
  | .en _ s => s
  | _ => []
def holdsC (E : List Nat → Ed) : Cd → Bool
  | .no c => !holdsC E c
  | .both c d => holdsC E c && holdsC E d
  | .either c d => holdsC E c || holdsC E d
  | .cmp w s n => holdsL (.cmp w s n) (E s)
  | .en w s => holdsL (.en w s) (E s)
/-- a dict that holds the ENDs of some steps -/
def HoldsE (N : List (List Nat)) (kvs : List (L2.Key × D)) (E : List Nat → Ed) : Prop := ∀ s ∈ N, valD kvs (.inr (S s)) = some (encE (E s))
theorem encE_rp {e : Ed} (h : EOk e) : Rp 150 1 (encE e) := by
  cases e with
  | ran n =>
    exact (Rp.tup (k := 60) (n := 0) fun y hy => by
      simp at hy
      rcases hy with rfl | rfl
      · exact Rp.str' (by simp [Asc]) (by simp)
      · exact Rp.int' (by have := h.1; omega) (by have := h.2; omega) (by omega)).mono (by simp) (by omega)
  | fell =>
    exact (Rp.tup (k := 62) (n := 0) fun y hy => by
      simp at hy
      rcases hy with rfl | rfl
      · exact Rp.str' (by simp [Asc]) (by simp)
      · exact Rp.str' (by simp [Asc]) (by simp)).mono (by simp) (by omega)
  | passed =>
    exact (Rp.tup (k := 62) (n := 0) fun y hy => by
      simp at hy
      subst hy
      exact Rp.str' (by simp [Asc]) (by simp)).mono (by simp) (by omega)
theorem endOf_w {s : Nat} {d : D} {Q : Rs × List W → Prop} (h : Tp s d) (hs : 4 ≤ s) (k : ∀ e d', Tp (s - 4) d' → EOk e → Q (.sh (encE e), [⟨true,true,d'⟩])) : ok (g_law_end_of [⟨true,true,d⟩]) Q := by
  rw [g_law_end_of, w_gOf, b_law_end_of]
  simp
  refine draw_w h (by omega) (by omega) (by omega) fun v d1 t1 v0 v1 => ?_
  simp
  refine ⟨fun hv => ?_, fun hv => ?_⟩
  · simp at hv
    simp
    refine ok_at (by omega) (by simp; omega) fun x hx => ?_
    simp at hx
    rcases hx with rfl | rfl
    · simp; exact k .fell _ (t1.mono (by omega)) trivial
    · simp; exact k .passed _ (t1.mono (by omega)) trivial
  · simp
    refine draw_w t1 (by omega) (by omega) (by omega) fun a d3 t3 a0 a1 => ?_
    simp
    refine draw_w t3 (by omega) (by omega) (by omega) fun b d4 t4 b0 b1 => ?_
    simp
    refine draw_w t4 (by omega) (by omega) (by omega) fun e d5 t5 e0 e1 => ?_
    simp
    refine ok_at (by omega) (by simp; omega) fun x hx => ?_
    obtain ⟨n, rfl, hn⟩ : ∃ n : Int, x = .int n ∧ (0 ≤ n ∧ n ≤ 99) := by
      simp at hx
      rcases hx with rfl | rfl | rfl | rfl | rfl | rfl <;> exact ⟨_, rfl, by omega⟩
    simp
    exact k (.ran n) _ (t5.mono (by omega)) hn
theorem lholds_w {N : List (List Nat)} {kvs : List (L2.Key × D)} {E : List Nat → Ed} (hE : HoldsE N kvs E) : ∀ (n : Nat) (c : Cd) {Q : Rs × List W → Prop}, c.deep ≤ n → CdOk N c → Q (.sh (.bl (holdsC E c)), [⟨false,false,enc c⟩, ⟨false,false,.dic kvs⟩]) →
    ok (g_law_holds n [⟨false,false,enc c⟩, ⟨false,false,.dic kvs⟩]) Q
  | 0, c, Q, hd, _, _ => by have := c.deep_pos; omega
  | n + 1, c, Q, hd, hc, k => by
    rw [g_law_holds, w_gOf, b_law_holds]
    cases c with
    | cmp w s m =>
      have hv := hE s hc.1
      have k' : Q (.sh (.bl (holdsL (.cmp w s m) (E s))), [⟨false,false,enc (.cmp w s m)⟩, ⟨false,false,.dic kvs⟩]) := k
      rcases e : E s with r | _ | _ <;> rw [e] at hv k' <;> cases w <;> simp [enc, encE, Cw.l, hv] <;> (try simp [valD, mergeD, putD]) <;> exact k'
    | en w s =>
      have hv := hE s hc
      have k' : Q (.sh (.bl (holdsL (.en w s) (E s))), [⟨false,false,enc (.en w s)⟩, ⟨false,false,.dic kvs⟩]) := k
      rcases e : E s with r | _ | _ <;> rw [e] at hv k' <;> cases w <;> simp [enc, encE, Ew.l, hv] <;> exact k'
    | no c =>
      simp [Cd.deep] at hd
      simp [enc]
      refine lholds_w hE n c hd hc ?_
      simp [allD, anyD, bls, valD, mergeD, putD]
      exact k
    | both c d =>
      simp [Cd.deep] at hd
      simp [enc]
      refine lholds_w hE n c (by omega) hc.1 ?_
      simp
      refine lholds_w hE n d (by omega) hc.2 ?_
      simp [allD, anyD, bls, valD, mergeD, putD]
      exact k
    | either c d =>
      simp [Cd.deep] at hd
      simp [enc]
      refine lholds_w hE n c (by omega) hc.1 ?_
      simp
      refine lholds_w hE n d (by omega) hc.2 ?_
      simp [allD, anyD, bls, valD, mergeD, putD]
      exact k
end
end Cm
set_option Elab.async false
set_option linter.all false
set_option maxRecDepth 100000
set_option maxHeartbeats 1000000
namespace Cm
noncomputable section
open Mi PySem
/-! ### equal texts -/
theorem strOk_S {l : List Nat} (h : Asc l) : PyData.strOk (S l) = true := by
  simp only [PyData.strOk, S, Array.all_eq_true', decide_eq_true_eq]
  intro c hc
  have := h c (by simpa using hc)
  omega
theorem toPs_str : ∀ ks : List (List Nat), toPs (dstr ks) = some (ks.map fun l => .str (S l))
  | [] => rfl
  | k :: ks => by
    have := toPs_str ks
    simp [dstr] at this
    simp [dstr, toPs, toP, this]
theorem canLay_str : ∀ {ks : List (List Nat)}, (∀ l ∈ ks, Asc l) → PyData.canLayAll0 (ks.map fun l => .str (S l)) = true
  | [], _ => rfl
  | k :: ks, h => by
    have := canLay_str (ks := ks) fun l hl => h l (by simp [hl])
    simp [PyData.canLayAll0, PyData.canLay0, this, strOk_S (h k (by simp))]
theorem depth_str : ∀ ks : List (List Nat), PyData.depthAll (ks.map fun l => .str (S l)) ≤ 1
  | [] => by simp [PyData.depthAll]
  | k :: ks => by
    have := depth_str ks
    simp [PyData.depthAll, PyData.depth, this]
theorem shaped_str {ks : List (List Nat)} (h : ∀ l ∈ ks, Asc l) : SeqAt.shaped (.list (ks.map fun l => .str (S l))) = true := by
  have := depth_str ks
  simp [SeqAt.shaped, PyData.canLay0, canLay_str h, PyData.depth]
  omega
theorem eqv_str : ∀ ks ls : List (List Nat), PyData.eqvAll (ks.map fun l => .str (S l)) (ls.map fun l => .str (S l)) = decide (ks = ls)
  | [], [] => rfl
  | [], _ :: _ => rfl
  | _ :: _, [] => rfl
  | k :: ks, l :: ls => by
    have := eqv_str ks ls
    simp [PyData.eqvAll, PyData.eqv, this]
    by_cases h1 : k = l <;> by_cases h2 : ks = ls <;> simp [h1, h2]
theorem eqB_str {ks ls : List (List Nat)} (hk : ∀ l ∈ ks, Asc l) (hl : ∀ l ∈ ls, Asc l) : eqB (.lst (dstr ks)) (.lst (dstr ls)) = some (decide (ks = ls)) := by
  have e1 : toP (.lst (dstr ks)) = some (.list (ks.map fun l => .str (S l))) := by simp [toP, toPs_str]
  have e2 : toP (.lst (dstr ls)) = some (.list (ls.map fun l => .str (S l))) := by simp [toP, toPs_str]
  show eqP _ _ = _
  simp [eqP, e1, e2, shaped_str hk, shaped_str hl, PyData.eqv, eqv_str]
theorem eqD_str {ks ls : List (List Nat)} (hk : ∀ l ∈ ks, Asc l) (hl : ∀ l ∈ ls, Asc l) : eqD (.lst (dstr ks)) (.lst (dstr ls)) = some (.sh (.bl (decide (ks = ls)))) := by rw [eqD, eqB_str hk hl]; rfl
theorem neD_str {ks ls : List (List Nat)} (hk : ∀ l ∈ ks, Asc l) (hl : ∀ l ∈ ls, Asc l) : neD (.lst (dstr ks)) (.lst (dstr ls)) = some (.sh (.bl (!decide (ks = ls)))) := by rw [neD, eqB_str hk hl]; rfl
theorem neD_nil {ks : List (List Nat)} (hk : ∀ l ∈ ks, Asc l) : neD (.lst (dstr ks)) (.lst []) = some (.sh (.bl (!decide (ks = [])))) := neD_str (ls := []) hk (fun l hl => by cases hl)
@[simp] theorem isN_enc (c : Cd) : isND (enc c) .non = some (.sh (.bl false)) := by cases c <;> rfl
@[simp] theorem notN_enc (c : Cd) : notND (enc c) .non = some (.sh (.bl true)) := by cases c <;> rfl
/-! ### whole numbers -/
theorem toPs_int : ∀ ns : List Int, toPs (ns.map D.int) = some (ns.map .int)
  | [] => rfl
  | n :: r => by simp [toPs, toP, toPs_int r]
theorem canLay_int : ∀ ns : List Int, PyData.canLayAll0 (ns.map .int) = true
  | [] => rfl
  | n :: r => by simp [PyData.canLayAll0, PyData.canLay0, canLay_int r]
theorem depth_int : ∀ ns : List Int, PyData.depthAll (ns.map .int) = 0
  | [] => by simp [PyData.depthAll]
  | n :: r => by simp [PyData.depthAll, PyData.depth, depth_int r]
theorem shaped_int (ns : List Int) : SeqAt.shaped (.list (ns.map .int)) = true := by
  simp [SeqAt.shaped, PyData.canLay0, canLay_int, PyData.depth, depth_int]
theorem neD_script (ns : List Int) : neD (.frl (ns.map .int)) (.lst []) = some (.sh (.bl (!decide (ns = [])))) := by
  have e1 : toP (.frl (ns.map .int)) = some (.list (ns.map .int)) := by simp [toP, toPs_int]
  have e2 : toP (.lst []) = some (.list []) := rfl
  have e3 : SeqAt.shaped (.list []) = true := by decide
  have e4 : eqB (.frl (ns.map .int)) (.lst []) = some (decide (ns = [])) := by
    show eqP _ _ = _
    cases ns <;> simp [eqP, e1, e2, shaped_int, e3, PyData.eqv, PyData.eqvAll] <;> simp [toP, toPs, toPs_int, SeqAt.shaped, PyData.canLay0, PyData.canLayAll0, canLay_int, PyData.depth, PyData.depthAll, depth_int, PyData.eqv, PyData.eqvAll]
  rw [neD, e4]; rfl
end
end Cm
set_option Elab.async false
set_option linter.all false
set_option maxRecDepth 100000
set_option maxHeartbeats 1000000
namespace Cm
noncomputable section
open Mi PySem
/-! ### ENDs by steps -/
theorem forms {α β : Type} {f : α → β} {P : α → Prop} : ∀ {xs : List β}, (∀ x ∈ xs, ∃ p, x = f p ∧ P p) → ∃ l : List α, xs = l.map f ∧ ∀ p ∈ l, P p
  | [], _ => ⟨[], rfl, by simp⟩
  | x :: xs, h => by
    obtain ⟨p, e, hp⟩ := h x (by simp)
    obtain ⟨l, el, hl⟩ := forms (xs := xs) fun y hy => h y (by simp [hy])
    refine ⟨p :: l, by simp [e, el], fun q hq => ?_⟩
    rcases List.mem_cons.mp hq with rfl | hq
    · exact hp
    · exact hl q hq
def kvE (l : List (List Nat × Ed)) : List (L2.Key × D) := l.map fun p => (.inr (S p.1), encE p.2)
structure Eds (N : List (List Nat)) (kvs : List (L2.Key × D)) : Prop where
  form : ∃ l : List (List Nat × Ed), kvs = kvE l ∧ (∀ p ∈ l, p.1 ∈ N ∧ EOk p.2) ∧ l.length ≤ N.length
  keys : ∀ s ∈ N, (.inr (S s)) ∈ kvs.map (·.1)
theorem eds_merge {N : List (List Nat)} (l : List (List Nat × Ed)) (h1 : ∀ s ∈ N, s ∈ l.map (·.1)) (h2 : ∀ p ∈ l, p.1 ∈ N ∧ EOk p.2) (hl : l.length ≤ N.length) : Eds N (mergeD [] (kvE l)) := by
  refine ⟨?_, fun s hs => key_mergeD (.inr ?_)⟩
  · obtain ⟨l', e, h⟩ := forms (f := fun p : List Nat × Ed => ((.inr (S p.1), encE p.2) : L2.Key × D)) (P := fun p => p.1 ∈ N ∧ EOk p.2) (xs := mergeD [] (kvE l)) fun x hx => by
      rcases mem_mergeD hx with hx | hx
      · cases hx
      · obtain ⟨p, hp, rfl⟩ := List.mem_map.mp hx
        exact ⟨p, rfl, h2 p hp⟩
    refine ⟨l', e, h, ?_⟩
    have h3 := len_mergeD (l := kvE l) (acc := [])
    have h4 := congrArg List.length e
    simp [kvE] at h3 h4
    omega
  · obtain ⟨p, hp, rfl⟩ := List.mem_map.mp (h1 s hs)
    exact List.mem_map.mpr ⟨(.inr (S p.1), encE p.2), List.mem_map.mpr ⟨p, hp, rfl⟩, rfl⟩
theorem Eds.get {N : List (List Nat)} {kvs : List (L2.Key × D)} (h : Eds N kvs) : ∃ E, HoldsE N kvs E ∧ ∀ s ∈ N, EOk (E s) := by
  classical
  have ex : ∀ s, s ∈ N → ∃ e, valD kvs (.inr (S s)) = some (encE e) ∧ EOk e := by
    intro s hs
    obtain ⟨v, e, hv⟩ := valD_key (h.keys s hs)
    obtain ⟨l, rfl, hl, _⟩ := h.form
    obtain ⟨p, hp, ep⟩ := List.mem_map.mp hv
    cases ep
    exact ⟨p.2, e, (hl p hp).2⟩
  refine ⟨fun s => if h : ∃ e, valD kvs (.inr (S s)) = some (encE e) ∧ EOk e then Classical.choose h else .fell, fun s hs => ?_, fun s hs => ?_⟩
  · simp only [dif_pos (ex s hs)]
    exact (Classical.choose_spec (ex s hs)).1
  · simp only [dif_pos (ex s hs)]
    exact (Classical.choose_spec (ex s hs)).2
theorem Eds.rp {N : List (List Nat)} {kvs : List (L2.Key × D)} (h : Eds N kvs) (hN : ∀ s ∈ N, SnL s) (hl : N.length ≤ 20) : Rp 20000 2 (.dic kvs) := by
  obtain ⟨l, rfl, h1, h2⟩ := h.form
  have := Rp.dic (k := 190) (n := 1) (ds := kvE l) fun x hx => by
    obtain ⟨p, hp, rfl⟩ := List.mem_map.mp hx
    have hpN := (h1 p hp).1
    exact ⟨⟨p.1, rfl, (hN _ hpN).asc, by have := (hN _ hpN).2.1; omega⟩, (encE_rp (h1 p hp).2).mono (by omega) (by omega)⟩
  exact this.mono (by simp [kvE]; omega) (by omega)
theorem prD_E (l : List (List Nat × Ed)) : kvD (l.map fun p => (p.1, encE p.2)) = kvE l := by simp [kvD, kvE]
/-- ENDs drawn for some names -/
theorem ends_w {s : Nat} {d : D} {N : List (List Nat)} (hl : N.length ≤ 20) (h : Tp s d) (hs : 4 * N.length ≤ s) {ρ : En} {K : List D → En → Prop} (x1 : Option W) (xs : List (Option W)) (hρ : ρ = some ⟨true,true,d⟩ :: x1 :: none :: none :: xs)
    (k : ∀ (l : List (List Nat × Ed)) d', Tp (s - 4 * N.length) d' → l.map (·.1) = N → (∀ p ∈ l, EOk p.2) → K (prD (l.map fun p => (p.1, encE p.2))) (some ⟨true,true,d'⟩ :: x1 :: none :: none :: xs)) :
    wp (lcL (tgN 3) mYes (mTup (mCons (mVar 3) (mCons (mCall Cm.g_law_end_of [true] (mCons (mVar 0) mNil)) mNil))) [3] (dstr N) []) ρ K := by
  let I : List D → List D → En → Prop := fun es acc ρ => ∃ (ks : List (List Nat)) (l : List (List Nat × Ed)) (d' : D), es = dstr ks ∧ acc = prD (l.map fun p => (p.1, encE p.2)) ∧ l.map (·.1) ++ ks = N ∧ Tp (s - 4 * N.length + 4 * ks.length) d' ∧ (∀ p ∈ l, EOk p.2) ∧
    ρ = some ⟨true,true,d'⟩ :: x1 :: none :: none :: xs
  refine lc_inv I ?_ ?_ ?_
  · exact ⟨N, [], d, rfl, rfl, rfl, h.mono (by omega), by simp, hρ⟩
  · rintro e es acc ρ ⟨ks, l, d', he, rfl, hk, t, hF, rfl⟩
    rcases ks with _ | ⟨k1, ks⟩
    · cases he
    simp [dstr] at he
    obtain ⟨rfl, rfl⟩ := he
    simp at t
    have hll : l.length ≤ 20 := by have := congrArg List.length hk; simp at this; omega
    simp
    refine endOf_w t (by omega) fun F d2 t2 hF2 => ?_
    simp
    refine ⟨by omega, ks, l ++ [(k1, F)], d2, rfl, by simp, by simpa using hk, t2.mono (by omega), fun p hp => ?_, rfl⟩
    rcases List.mem_append.mp hp with hp | hp
    · exact hF p hp
    · simp at hp; subst hp; exact hF2
  · rintro acc ρ ⟨ks, l, d', he, rfl, hk, t, hF, rfl⟩
    have : ks = [] := by cases ks with | nil => rfl | cons a b => cases he
    subst this
    exact k l d' (by simpa using t) (by simpa using hk) hF
end
end Cm
set_option Elab.async false
set_option linter.all false
set_option maxRecDepth 100000
set_option maxHeartbeats 1000000
namespace Cm
noncomputable section
open Mi PySem
/-! ### some of them -/
theorem erase_perm {α : Type} : ∀ (xs : List α) (i : Nat) (h : i < xs.length), (xs[i] :: xs.eraseIdx i).Perm xs
  | x :: xs, 0, _ => by simp
  | x :: xs, i + 1, h => by
    simp only [List.getElem_cons_succ, List.eraseIdx_cons_succ]
    exact (List.Perm.swap _ _ _).trans (List.Perm.cons x (erase_perm xs i (by simpa using h)))
theorem part_loop (r : Nat) (x1 : Option W) (many : Int) : ∀ (n lo : Nat) (acc xs : List D) (d : D), Tp (r + n) d → n ≤ xs.length → xs.length ≤ 1000000 → acc.length + n ≤ 1000000 →
    ∃ ys rest d', lcL (tgN 4) mYes (mMm "list" popD 3 (mCons (mCall g_law_draw [true, false] (mCons (mVar 0) (mCons (mCB lenD (mCons (mVar 3) mNil)) mNil))) mNil)) [4] ((List.range' lo n).map fun (i : Nat) => D.int i) acc [tw d, x1, iw many, some ⟨true, false, .lst xs⟩, none]
      = some (acc ++ ys, [tw d', x1, iw many, some ⟨true, false, .lst rest⟩, none]) ∧ (ys ++ rest).Perm xs ∧ ys.length = n ∧ Tp r d'
  | 0, lo, acc, xs, d, h, _, _, _ => ⟨[], xs, d, by simp [lcL], by simp, rfl, h⟩
  | n + 1, lo, acc, xs, d, h, hn, hx, ha => by
    obtain ⟨v, d1, e1, t1, v0, v1⟩ := draw_ok (r := r + n) (xs.length : Int) h (by omega) (by omega)
    have hv : v.toNat < xs.length := by omega
    have p1 : seqIndex? v xs.length = some v.toNat := seqIx_of v0 v1
    obtain ⟨ys, rest, d', e2, hp, hy, t2⟩ := part_loop r x1 many n (lo + 1) (acc ++ [xs[v.toNat]]) (xs.eraseIdx v.toNat) d1 t1 (by rw [List.length_eraseIdx_of_lt hv]; omega) (by rw [List.length_eraseIdx_of_lt hv]; omega) (by simp; omega)
    refine ⟨xs[v.toNat] :: ys, rest, d', ?_, ?_, by simp [hy], t2⟩
    · have q1 : -(2 ^ 63) ≤ v := by omega
      have q2 : v < 2 ^ 63 := by omega
      have q3 : acc.length < 16777216 := by omega
      simp at q1 q2
      simp at e2
      simp [List.range'_succ, lcL, e1, p1, q1, q2, q3, hv, e2]
    · refine List.Perm.trans (List.Perm.cons _ hp) ?_
      exact erase_perm xs _ hv
theorem part_ok {r : Nat} {d : D} (xs : List D) (many : Nat) (hm : many ≤ xs.length) (hx : xs.length ≤ 1000000) (h : Tp (r + many) d) : ∃ ys rest d', g_law_part [⟨true,true,d⟩, ⟨false,false,.lst xs⟩, ⟨false,false,.int many⟩] = some (.ow (.lst ys), [⟨true,true,d'⟩, ⟨false,false,.lst xs⟩, ⟨false,false,.int many⟩]) ∧ (ys ++ rest).Perm xs ∧ ys.length = many ∧ Tp r d' := by
  obtain ⟨ys, rest, d', e, hp, hy, t⟩ := part_loop r (some ⟨false,false,.lst xs⟩) many many 0 [] xs d h hm hx (by simp; omega)
  refine ⟨ys, rest, d', ?_, hp, hy, t⟩
  have r3 : (many : Int) < 2 ^ 62 := by omega
  have r4 : -(2 ^ 62) ≤ (many : Int) := by omega
  simp at e r3 r4
  simp [g_law_part, b_law_part, dRange_eq, r3, r4, e]
theorem part_w {s : Nat} {d : D} {Q : Rs × List W → Prop} {ds : List D} {many : Int} (h0 : 0 ≤ many) (h1 : many ≤ ds.length) (hl : ds.length ≤ 1000) (h : Tp s d) (hs : many.toNat ≤ s)
    (k : ∀ es r d', Tp (s - many.toNat) d' → (es.length : Int) = many → (es ++ r).Perm ds → Q (.ow (.lst es), [⟨true,true,d'⟩, ⟨false,false,.lst ds⟩, ⟨false,false,.int many⟩])) :
    ok (g_law_part [⟨true,true,d⟩, ⟨false,false,.lst ds⟩, ⟨false,false,.int many⟩]) Q := by
  obtain ⟨m, rfl⟩ := Int.eq_ofNat_of_zero_le h0
  obtain ⟨ys, rest, d', e, hp, hy, t⟩ := part_ok (r := s - m) ds m (by omega) (by omega) (h.mono (by simp at hs; omega))
  exact ok_of e (k ys rest d' (by simpa using t) (by simp [hy]) hp)
/-! ### the letters ahead -/
def isLet (c : Nat) : Bool := decide (97 ≤ c ∧ c ≤ 122)
theorem az_mem (c : Nat) : decide (c ∈ AZ) = isLet c := by
  have : c ∈ AZ ↔ (97 ≤ c ∧ c ≤ 122) := by
    unfold AZ
    rw [List.mem_range'_1]; omega
  simp [isLet, this]
@[simp] theorem in_az (c : Nat) : inD (.str (S [c])) (.str (Str.ofString "abcdefghijklmnopqrstuvwxyz")) = some (.sh (.bl (isLet c))) := by
  rw [az_eq, in_ch, az_mem]
def baseL (l : List Nat) : List Nat := l.takeWhile isLet
theorem ok_ch {l : List Nat} {i : Int} {Q : Nat → Prop} (h0 : 0 ≤ i) (h1 : i < l.length) (k : Q (l[i.toNat]'(by omega))) : ok (L2.atI l i) Q := by
  rw [atI_of h0 h1]; exact k
theorem base_take : ∀ (l : List Nat) (m : Nat), m ≤ l.length → (∀ i (h : i < l.length), i < m → isLet l[i] = true) → (∀ h : m < l.length, isLet l[m] = false) → l.take m = baseL l
  | [], m, h, _, _ => by simp [baseL]
  | c :: l, 0, h, _, h2 => by
    have := h2 (by simp)
    simp at this
    simp [baseL, this]
  | c :: l, m + 1, h, h1, h2 => by
    have e := h1 0 (by simp) (by omega)
    have ih := base_take l m (by simpa using h) (fun i a b => h1 (i + 1) (by simpa using a) (by omega)) (fun a => h2 (by simpa using a))
    simp at e
    simp [baseL, e]
    exact ih
theorem base_w {l : List Nat} (hl : l.length ≤ 900) {Q : Rs × List W → Prop} (k : Q (.sh (.str (S (baseL l))), [⟨false,false,.str (S l)⟩])) : ok (g_base_of [⟨false,false,.str (S l)⟩]) Q := by
  rw [g_base_of, w_gOf, b_base_of]
  simp
  let I : Nat → En → Prop := fun n ρ => ∃ m : Nat, m + n = l.length ∧ (∀ i (h : i < l.length), i < m → isLet l[i] = true) ∧ ρ = [some ⟨false,false,.str (S l)⟩, some ⟨false,false,.int m⟩]
  refine wh_inv I l.length _ ⟨0, by simp, by simp, rfl⟩ ?_ 1000 (by omega)
  rintro n ρ ⟨m, hm, hi, rfl⟩
  simp
  refine ⟨by omega, fun h => ?_, fun h => ?_⟩
  · simp at h
    simp
    refine ⟨by omega, ?_⟩
    refine ok_ch (by omega) (by omega) ?_
    simp
    refine ⟨fun q => ?_, fun q => ?_⟩
    · simp
      refine ⟨n - 1, by omega, m + 1, by omega, fun i h1 h2 => ?_, by simp⟩
      by_cases e : i = m
      · subst e; exact q
      · exact hi i h1 (by omega)
    · simp
      rw [cutA_to, base_take l m (by omega) hi fun _ => q]
      exact ⟨by omega, k⟩
  · simp at h
    simp
    rw [cutA_to, base_take l m (by omega) hi fun h2 => by omega]
    exact ⟨by omega, k⟩

theorem join_chs {stem : List Nat} (h : stem.length ≤ 1000000) : joinD (.str (S [])) [.lst (stem.map fun c => D.str (S [c]))] = some (.sh (.str (S stem))) := by
  have j1 : strsD (stem.map fun c => D.str (S [c])) = some (stem.map fun c => S [c]) := by
    have := strsD_S (stem.map fun c => [c])
    simpa [Function.comp_def] using this
  have j2 : Txt.join (S []) (stem.map fun c => S [c]) = S stem := by
    have := join_S (stem.map fun c => [c])
    rw [flat1] at this
    simpa [Function.comp_def] using this
  have sl : (stem.map (Str.length ∘ fun c => S [c])).sum ≤ 16777216 := by
    have := sum_le (l := stem) (f := Str.length ∘ fun c => S [c]) (B := 1) fun _ _ => by simp
    omega
  rw [joinD_l, j1]
  simp [sl, j2]
theorem lbase_w {l : List Nat} (hl : l.length ≤ 900) {Q : Rs × List W → Prop} (k : Q (.sh (.str (S (l.filter isLet))), [⟨false,false,.str (S l)⟩])) : ok (g_law_base [⟨false,false,.str (S l)⟩]) Q := by
  rw [g_law_base, w_gOf, b_law_base]
  simp
  let I : List D → List D → En → Prop := fun ds acc ρ => ∃ a b : List Nat, a ++ b = l ∧ ds = b.map (fun c => D.str (S [c])) ∧ acc = (a.filter isLet).map (fun c => D.str (S [c])) ∧ ρ = [some ⟨false,false,.str (S l)⟩, none]
  refine lc_inv I ?_ ?_ ?_
  · exact ⟨[], l, rfl, rfl, rfl, rfl⟩
  · rintro e es acc ρ ⟨a, b, hab, hb, rfl, rfl⟩
    rcases b with _ | ⟨c, b⟩
    · cases hb
    simp at hb
    obtain ⟨rfl, rfl⟩ := hb
    have hlen := congrArg List.length hab
    simp at hlen
    have hf := List.length_filter_le isLet a
    simp
    refine ⟨fun q => ?_, fun q => ?_⟩
    · simp
      exact ⟨by omega, a ++ [c], b, by simpa using hab, rfl, by simp [List.filter_append, q], rfl⟩
    · exact ⟨a ++ [c], b, by simpa using hab, rfl, by simp [List.filter_append, q], rfl⟩
  · rintro acc ρ ⟨a, b, hab, hb, rfl, rfl⟩
    have : b = [] := by cases b with | nil => rfl | cons a b => cases hb
    subst this
    simp at hab
    subst hab
    have hf := List.length_filter_le isLet a
    have e := join_chs (stem := a.filter isLet) (by omega)
    simp [-joinD_l, e]
    exact k
end
end Cm
set_option Elab.async false
set_option linter.all false
set_option maxRecDepth 100000
set_option maxHeartbeats 1000000
namespace Cm
noncomputable section
open Mi PySem
/-! ### names by kinds -/
structure Kn where
  chests : List (List Nat)
  lines : List (List Nat)
  slots : List (List Nat)
  works : List (List Nat)
  books : List (List Nat)
  words : List (List Nat)
  steps : List (List Nat)
def kvN (n : Kn) : List (L2.Key × D) := [(.inr (S [99, 104, 101, 115, 116, 115]), .lst (dstr n.chests)), (.inr (S [108, 105, 110, 101, 115]), .lst (dstr n.lines)), (.inr (S [115, 108, 111, 116, 115]), .lst (dstr n.slots)),
  (.inr (S [119, 111, 114, 107, 115]), .lst (dstr n.works)), (.inr (S [98, 111, 111, 107, 115]), .lst (dstr n.books)), (.inr (S [119, 111, 114, 100, 115]), .lst (dstr n.words)), (.inr (S [115, 116, 101, 112, 115]), .lst (dstr n.steps))]
@[simp] theorem kn_chests (n : Kn) : valD (kvN n) (.inr (S [99, 104, 101, 115, 116, 115])) = some (.lst (dstr n.chests)) := by simp [valD, kvN]
@[simp] theorem kn_lines (n : Kn) : valD (kvN n) (.inr (S [108, 105, 110, 101, 115])) = some (.lst (dstr n.lines)) := by simp [valD, kvN]
@[simp] theorem kn_slots (n : Kn) : valD (kvN n) (.inr (S [115, 108, 111, 116, 115])) = some (.lst (dstr n.slots)) := by simp [valD, kvN]
@[simp] theorem kn_works (n : Kn) : valD (kvN n) (.inr (S [119, 111, 114, 107, 115])) = some (.lst (dstr n.works)) := by simp [valD, kvN]
@[simp] theorem kn_books (n : Kn) : valD (kvN n) (.inr (S [98, 111, 111, 107, 115])) = some (.lst (dstr n.books)) := by simp [valD, kvN]
@[simp] theorem kn_words (n : Kn) : valD (kvN n) (.inr (S [119, 111, 114, 100, 115])) = some (.lst (dstr n.words)) := by simp [valD, kvN]
@[simp] theorem kn_steps (n : Kn) : valD (kvN n) (.inr (S [115, 116, 101, 112, 115])) = some (.lst (dstr n.steps)) := by simp [valD, kvN]
structure KnOk (n : Kn) : Prop where
  chests : n.chests.length = 4 ∧ ∀ l ∈ n.chests, NameL l
  lines : n.lines.length = 2 ∧ ∀ l ∈ n.lines, NameL l
  slots : n.slots.length = 4 ∧ ∀ l ∈ n.slots, NameL l
  works : n.works.length = 4 ∧ ∀ l ∈ n.works, NameL l
  books : n.books.length = 3 ∧ ∀ l ∈ n.books, NameL l
  words : n.words.length = 2 ∧ ∀ l ∈ n.words, NameL l
  steps : n.steps.length = 8 ∧ ∀ l ∈ n.steps, SnL l
/-- some popped -/
def popM : ME := mMm "list" popD 1 (mCons (mC (.int 0)) mNil)
theorem pops_w {d : D} {kvs : List (L2.Key × D)} {x3 x4 : Option W} {m : Nat} {xs : List (List Nat)} (hm : m ≤ xs.length) (hx : xs.length ≤ 1000) {Q : List D → En → Prop}
    (k : Q (dstr (xs.take m)) [some ⟨true,true,d⟩, some ⟨true,false,.lst (dstr (xs.drop m))⟩, some ⟨true,false,.dic kvs⟩, x3, x4, none]) :
    wp (lcL (tgN 5) mYes (mMm "list" popD 1 (mCons (mC (.int 0)) mNil)) [5] (dRange 0 m) []) [some ⟨true,true,d⟩, some ⟨true,false,.lst (dstr xs)⟩, some ⟨true,false,.dic kvs⟩, x3, x4, none] Q := by
  let I : List D → List D → En → Prop := fun ds acc ρ => ∃ a b : List (List Nat), a ++ b = xs ∧ a.length + ds.length = m ∧ acc = dstr a ∧ ρ = [some ⟨true,true,d⟩, some ⟨true,false,.lst (dstr b)⟩, some ⟨true,false,.dic kvs⟩, x3, x4, none]
  refine lc_inv I ?_ ?_ ?_
  · exact ⟨[], xs, rfl, by simp [dRange], rfl, rfl⟩
  · rintro e es acc ρ ⟨a, b, hab, ha, rfl, rfl⟩
    have hlen := congrArg List.length hab
    simp at ha hlen
    rcases b with _ | ⟨c, b⟩
    · simp at hlen; omega
    have sx : seqIndex? 0 (b.length + 1) = some 0 := seqIx_of (by omega) (by omega)
    simp [dstr, sx]
    refine ⟨by omega, a ++ [c], b, by simpa using hab, by simp; omega, by simp [dstr], by simp [dstr]⟩
  · rintro acc ρ ⟨a, b, hab, ha, rfl, rfl⟩
    simp at ha
    have e1 : xs.take m = a := by rw [← hab, ← ha]; simp
    have e2 : xs.drop m = b := by rw [← hab, ← ha]; simp
    rw [e1, e2] at k
    exact k
theorem kinds_w {s : Nat} {d : D} {Q : Rs × List W → Prop} (h : Tp s d) (hs : 20 ≤ s) (k : ∀ n d', Tp (s - 20) d' → KnOk n → Q (.ow (.dic (kvN n)), [⟨true,true,d'⟩])) : ok (g_law_kinds [⟨true,true,d⟩]) Q := by
  rw [g_law_kinds, w_gOf, b_law_kinds]
  simp
  refine names_w h (by omega) (by omega) (by omega) fun ls d1 t1 hl hn => ?_
  simp [tgT]
  refine pops_w (m := 4) (by omega) (by omega) ?_
  simp [tgT, putD]
  refine pops_w (m := 2) (by simp; omega) (by simp; omega) ?_
  simp [tgT, putD]
  refine pops_w (m := 4) (by simp; omega) (by simp; omega) ?_
  simp [tgT, putD]
  refine pops_w (m := 4) (by simp; omega) (by simp; omega) ?_
  simp [tgT, putD]
  refine pops_w (m := 3) (by simp; omega) (by simp; omega) ?_
  simp [tgT, putD]
  refine pops_w (m := 2) (by simp; omega) (by simp; omega) ?_
  simp [tgT, putD]
  have hr : ∀ l ∈ ls.drop 19, NameL l := fun l h => hn l (List.mem_of_mem_drop h)
  have hrl : (ls.drop 19).length = 7 := by simp; omega
  generalize ls.drop 19 = rs at hr hrl
  let J : Nat → En → Prop := fun n ρ => ∃ d', Tp (s - 18 + n) d' ∧ ρ = [some ⟨true,true,d'⟩, some ⟨true,false,.lst (dstr rs)⟩, some ⟨true,false,.dic [(.inr (S [99, 104, 101, 115, 116, 115]), D.lst (dstr (List.take 4 ls))),
                (.inr (S [108, 105, 110, 101, 115]), D.lst (dstr (List.take 2 (List.drop 4 ls)))),
                (.inr (S [115, 108, 111, 116, 115]), D.lst (dstr (List.take 4 (List.drop 6 ls)))),
                (.inr (S [119, 111, 114, 107, 115]), D.lst (dstr (List.take 4 (List.drop 10 ls)))),
                (.inr (S [98, 111, 111, 107, 115]), D.lst (dstr (List.take 3 (List.drop 14 ls)))),
                (.inr (S [119, 111, 114, 100, 115]), D.lst (dstr (List.take 2 (List.drop 17 ls))))]⟩, some ⟨false,false,.str (S [119, 111, 114, 100, 115])⟩, some ⟨false,false,.int 2⟩, none]
  refine lc_n J (fun x => ∃ l, x = D.str (S l) ∧ SnL l) (by simp [dRange]) ?_ ?_ ?_
  · exact ⟨d1, t1.mono (by simp [dRange]; omega), rfl⟩
  · rintro e n ρ he ⟨d2, t2, rfl⟩
    obtain ⟨i, rfl, i0, i1⟩ : ∃ i : Int, e = .int i ∧ 0 ≤ i ∧ i < 6 := by
      simp [dRange] at he
      obtain ⟨j, hj, rfl⟩ := he
      exact ⟨j, rfl, by omega, by omega⟩
    simp
    refine ok_dstr i0 (by omega) fun p hp => ?_
    have hp1 := hr p hp
    simp
    refine ok_dstr (by omega) (by omega) fun q hq => ?_
    have hq1 := hr q hq
    simp
    refine ⟨by have := hq1.2.1; omega, ?_⟩
    refine draw_w t2 (by omega) (by omega) (by omega) fun v d3 t3 v0 v1 => ?_
    simp
    refine ok_dstr (P := [[], 46 :: q]) v0 (by simpa using v1) fun z hz => ?_
    have hz1 : z.length ≤ 9 ∧ ∀ c ∈ z, c = 46 ∨ (97 ≤ c ∧ c ≤ 122) := by
      simp at hz
      rcases hz with rfl | rfl
      · exact ⟨by simp, by simp⟩
      · exact ⟨by have := hq1.2.1; simp; omega, fun c hc => by rcases List.mem_cons.mp hc with rfl | hc; exact .inl rfl; exact .inr (hq1.2.2 c hc)⟩
    simp
    refine ⟨by have := hp1.2.1; omega, ?_, d3, t3.mono (by omega), rfl⟩
    refine ⟨by have := hp1.1; simp; omega, by have := hp1.2.1; simp; omega, fun c hc => ?_⟩
    rcases List.mem_append.mp hc with hc | hc
    · exact .inr (hp1.2.2 c hc)
    · exact hz1.2 c hc
  · rintro acc ρ ha hP ⟨d2, t2, rfl⟩
    obtain ⟨sn, rfl, hsn⟩ := forms (f := fun l => D.str (S l)) (P := SnL) hP
    simp [dRange] at ha
    simp [tgT, putD]
    have hd : (sn.map fun l => D.str (S l)) = dstr sn := rfl
    rw [hd]
    simp [valD]
    refine ok_dstr (by omega) (by omega) fun p hp => ?_
    have hp1 := hr p hp
    simp
    refine ⟨by have := hp1.2.1; omega, ?_⟩
    refine ok_dstr (by omega) (by omega) fun q hq => ?_
    have hq1 := hr q hq
    simp
    refine ⟨by have := hp1.2.1; have := hq1.2.1; omega, ?_⟩
    refine ok_dstr (by omega) (by omega) fun r hr' => ?_
    have hr1 := hr r hr'
    simp
    refine ⟨by have := hr1.2.1; omega, ?_⟩
    refine ok_dstr (by omega) (by omega) fun u hu => ?_
    have hu1 := hr u hu
    simp [putD]
    refine ⟨by have := hr1.2.1; have := hu1.2.1; omega, ?_⟩
    have dd : dstr sn ++ [D.str (S (p ++ 46 :: q)), D.str (S (r ++ 46 :: u))] = dstr (sn ++ [p ++ 46 :: q, r ++ 46 :: u]) := by simp [dstr]
    rw [dd]
    have two : ∀ {a b : List Nat}, NameL a → NameL b → SnL (a ++ 46 :: b) := by
      intro a b ha hb
      refine ⟨by simp; omega, by have := ha.2.1; have := hb.2.1; simp; omega, fun c hc => ?_⟩
      rcases List.mem_append.mp hc with hc | hc
      · exact .inr (ha.2.2 c hc)
      · rcases List.mem_cons.mp hc with rfl | hc
        · exact .inl rfl
        · exact .inr (hb.2.2 c hc)
    have tk : ∀ (a b : Nat), ∀ l ∈ (ls.drop b).take a, NameL l := fun a b l hl => hn l (List.mem_of_mem_drop (List.mem_of_mem_take hl))
    refine ⟨by omega, k ⟨ls.take 4, (ls.drop 4).take 2, (ls.drop 6).take 4, (ls.drop 10).take 4, (ls.drop 14).take 3, (ls.drop 17).take 2, sn ++ [p ++ 46 :: q, r ++ 46 :: u]⟩ d2 (t2.mono (by omega)) ?_⟩
    refine ⟨⟨by simp; omega, fun l hl => hn l (List.mem_of_mem_take hl)⟩, ⟨by simp; omega, tk _ _⟩, ⟨by simp; omega, tk _ _⟩, ⟨by simp; omega, tk _ _⟩, ⟨by simp; omega, tk _ _⟩, ⟨by simp; omega, tk _ _⟩, ⟨by simp; omega, fun l hl => ?_⟩⟩
    simp at hl
    rcases hl with hl | rfl | rfl
    · exact hsn l hl
    · exact two hp1 hq1
    · exact two hr1 hu1
end
end Cm
set_option Elab.async false
set_option linter.all false
set_option maxRecDepth 100000
set_option maxHeartbeats 1000000
namespace Cm
noncomputable section
open Mi PySem
/-! ### conditions, REFs -/
theorem condition_w {N : List (List Nat)} (h0 : N ≠ []) (h1 : N.length ≤ 1000) : ∀ (n m : Nat) {s : Nat} {d : D} {Q : Rs × List W → Prop} {e : Int}, e = n → Tp s d → 1 ≤ n → n ≤ m → 6 * n ≤ s →
    (∀ c d', Tp (s - 6 * n) d' → CdOk N c → c.deep ≤ n → Q (.sh (enc c), [⟨true,true,d'⟩, ⟨true,true,.lst (dstr N)⟩, ⟨false,false,.int e⟩])) →
    ok (g_law_condition m [⟨true,true,d⟩, ⟨true,true,.lst (dstr N)⟩, ⟨false,false,.int e⟩]) Q
  | 0, _, s, d, Q, _, _, h, hn, _, _, _ => by omega
  | n + 1, 0, s, d, Q, _, _, h, hn, hm, _, _ => by omega
  | n + 1, m + 1, s, d, Q, _, rfl, h, hn, hm, hs, k => by
    have hp : 0 < N.length := List.length_pos_iff.mpr h0
    rw [g_law_condition, w_gOf, b_law_condition]
    simp
    refine draw_w h (by omega) (by omega) (by omega) fun w d1 t1 w0 w1 => ?_
    simp
    refine draw_w t1 (by omega) (by omega) (by omega) fun v d2 t2 v0 v1 => ?_
    simp
    refine ok_dstr v0 (by omega) fun st hst => ?_
    rcases (by omega : w = 0 ∨ w = 1 ∨ w = 2 ∨ w = 3 ∨ w = 4 ∨ w = 5 ∨ w = 6 ∨ w = 7 ∨ w = 8) with rfl | rfl | rfl | rfl | rfl | rfl | rfl | rfl | rfl
    · simp
      refine draw_w t2 (by omega) (by omega) (by omega) fun a d3 t3 a0 a1 => ?_
      simp
      refine draw_w t3 (by omega) (by omega) (by omega) fun b d4 t4 b0 b1 => ?_
      simp
      refine draw_w t4 (by omega) (by omega) (by omega) fun c d5 t5 c0 c1 => ?_
      simp
      refine ok_at c0 (by simpa using c1) fun x hx => ?_
      obtain ⟨y, rfl, y0, y1⟩ : ∃ y : Int, x = .int y ∧ 0 ≤ y ∧ y ≤ 99 := by
        simp at hx
        rcases hx with rfl | rfl
        · exact ⟨a, rfl, a0, by omega⟩
        · exact ⟨b, rfl, b0, by omega⟩
      simp
      exact k (.cmp .below st y) d5 (t5.mono (by omega)) ⟨hst, y0, y1⟩ (by simp [Cd.deep])
    · simp
      refine draw_w t2 (by omega) (by omega) (by omega) fun a d3 t3 a0 a1 => ?_
      simp
      refine draw_w t3 (by omega) (by omega) (by omega) fun b d4 t4 b0 b1 => ?_
      simp
      refine draw_w t4 (by omega) (by omega) (by omega) fun c d5 t5 c0 c1 => ?_
      simp
      refine ok_at c0 (by simpa using c1) fun x hx => ?_
      obtain ⟨y, rfl, y0, y1⟩ : ∃ y : Int, x = .int y ∧ 0 ≤ y ∧ y ≤ 99 := by
        simp at hx
        rcases hx with rfl | rfl
        · exact ⟨a, rfl, a0, by omega⟩
        · exact ⟨b, rfl, b0, by omega⟩
      simp
      exact k (.cmp .above st y) d5 (t5.mono (by omega)) ⟨hst, y0, y1⟩ (by simp [Cd.deep])
    · simp
      refine draw_w t2 (by omega) (by omega) (by omega) fun a d3 t3 a0 a1 => ?_
      simp
      refine draw_w t3 (by omega) (by omega) (by omega) fun b d4 t4 b0 b1 => ?_
      simp
      refine draw_w t4 (by omega) (by omega) (by omega) fun c d5 t5 c0 c1 => ?_
      simp
      refine ok_at c0 (by simpa using c1) fun x hx => ?_
      obtain ⟨y, rfl, y0, y1⟩ : ∃ y : Int, x = .int y ∧ 0 ≤ y ∧ y ≤ 99 := by
        simp at hx
        rcases hx with rfl | rfl
        · exact ⟨a, rfl, a0, by omega⟩
        · exact ⟨b, rfl, b0, by omega⟩
      simp
      exact k (.cmp .is st y) d5 (t5.mono (by omega)) ⟨hst, y0, y1⟩ (by simp [Cd.deep])
    · simp
      refine ⟨fun _ => ?_, fun _ => ?_⟩ <;> simp <;> exact k (.en .ran st) d2 (t2.mono (by omega)) hst (by simp [Cd.deep])
    · simp
      refine ⟨fun _ => ?_, fun _ => ?_⟩ <;> simp <;> exact k (.en .fell st) d2 (t2.mono (by omega)) hst (by simp [Cd.deep])
    · simp
      refine ⟨fun _ => ?_, fun _ => ?_⟩ <;> simp <;> exact k (.en .passed st) d2 (t2.mono (by omega)) hst (by simp [Cd.deep])
    · rcases n with _ | n
      · simp
        refine draw_w t2 (by omega) (by omega) (by omega) fun a d3 t3 a0 a1 => ?_
        simp
        refine draw_w t3 (by omega) (by omega) (by omega) fun b d4 t4 b0 b1 => ?_
        simp
        refine draw_w t4 (by omega) (by omega) (by omega) fun c d5 t5 c0 c1 => ?_
        simp
        refine ok_at c0 (by simpa using c1) fun x hx => ?_
        obtain ⟨y, rfl, y0, y1⟩ : ∃ y : Int, x = .int y ∧ 0 ≤ y ∧ y ≤ 99 := by
          simp at hx
          rcases hx with rfl | rfl
          · exact ⟨a, rfl, a0, by omega⟩
          · exact ⟨b, rfl, b0, by omega⟩
        simp
        exact k (.cmp .below st y) d5 (t5.mono (by omega)) ⟨hst, y0, y1⟩ (by simp [Cd.deep])
      · have e : ¬ ((n : Int) + 1 + 1 = 1) := by omega
        simp [e]
        refine condition_w h0 h1 (n + 1) m (by omega) t2 (by omega) (by omega) (by omega) fun c d3 t3 hc hd => ?_
        simp
        exact k (.no c) d3 (t3.mono (by omega)) hc (by simp [Cd.deep]; omega)
    · rcases n with _ | n
      · simp
        refine draw_w t2 (by omega) (by omega) (by omega) fun a d3 t3 a0 a1 => ?_
        simp
        refine draw_w t3 (by omega) (by omega) (by omega) fun b d4 t4 b0 b1 => ?_
        simp
        refine draw_w t4 (by omega) (by omega) (by omega) fun c d5 t5 c0 c1 => ?_
        simp
        refine ok_at c0 (by simpa using c1) fun x hx => ?_
        obtain ⟨y, rfl, y0, y1⟩ : ∃ y : Int, x = .int y ∧ 0 ≤ y ∧ y ≤ 99 := by
          simp at hx
          rcases hx with rfl | rfl
          · exact ⟨a, rfl, a0, by omega⟩
          · exact ⟨b, rfl, b0, by omega⟩
        simp
        exact k (.cmp .above st y) d5 (t5.mono (by omega)) ⟨hst, y0, y1⟩ (by simp [Cd.deep])
      · have e : ¬ ((n : Int) + 1 + 1 = 1) := by omega
        simp [e]
        refine condition_w h0 h1 (n + 1) m (by omega) t2 (by omega) (by omega) (by omega) fun c d3 t3 hc hd => ?_
        simp
        exact k (.both c (.en .ran st)) d3 (t3.mono (by omega)) ⟨hc, hst⟩ (by simp [Cd.deep]; omega)
    · rcases n with _ | n
      · simp
        refine draw_w t2 (by omega) (by omega) (by omega) fun a d3 t3 a0 a1 => ?_
        simp
        refine draw_w t3 (by omega) (by omega) (by omega) fun b d4 t4 b0 b1 => ?_
        simp
        refine draw_w t4 (by omega) (by omega) (by omega) fun c d5 t5 c0 c1 => ?_
        simp
        refine ok_at c0 (by simpa using c1) fun x hx => ?_
        obtain ⟨y, rfl, y0, y1⟩ : ∃ y : Int, x = .int y ∧ 0 ≤ y ∧ y ≤ 99 := by
          simp at hx
          rcases hx with rfl | rfl
          · exact ⟨a, rfl, a0, by omega⟩
          · exact ⟨b, rfl, b0, by omega⟩
        simp
        exact k (.cmp .is st y) d5 (t5.mono (by omega)) ⟨hst, y0, y1⟩ (by simp [Cd.deep])
      · have e : ¬ ((n : Int) + 1 + 1 = 1) := by omega
        simp [e]
        refine condition_w h0 h1 (n + 1) m (by omega) t2 (by omega) (by omega) (by omega) fun c d3 t3 hc hd => ?_
        simp
        exact k (.either c (.en .ran st)) d3 (t3.mono (by omega)) ⟨hc, hst⟩ (by simp [Cd.deep]; omega)

/-- a REF: letters, then a sign and a figure or nothing -/
def RefL (r : List Nat) : Prop := ∃ b t : List Nat, r = b ++ t ∧ NameL b ∧ t.length ≤ 2 ∧ ∀ c ∈ t, 43 ≤ c ∧ c ≤ 57
theorem NameL.ref {b : List Nat} (h : NameL b) : RefL b := ⟨b, [], by simp, h, by simp, by simp⟩
theorem NameL.ref2 {b : List Nat} (h : NameL b) {x y : Nat} (h1 : 43 ≤ x) (h2 : x ≤ 57) (h3 : 43 ≤ y) (h4 : y ≤ 57) : RefL (b ++ [x, y]) := ⟨b, [x, y], rfl, h, by simp, by simp; omega⟩
theorem str_fig {v : Int} (h0 : 0 ≤ v) (h1 : v < 10) : strD [.int v] = some (.sh (.str (S [48 + v.toNat]))) := by
  rcases (by omega : v = 0 ∨ v = 1 ∨ v = 2 ∨ v = 3 ∨ v = 4 ∨ v = 5 ∨ v = 6 ∨ v = 7 ∨ v = 8 ∨ v = 9) with rfl | rfl | rfl | rfl | rfl | rfl | rfl | rfl | rfl | rfl <;> rfl
theorem ref_w {s : Nat} {d : D} {Q : Rs × List W → Prop} {n : Kn} (hn : KnOk n) {b : Bool} (h : Tp s d) (hs : 7 ≤ s)
    (k : ∀ r d', Tp (s - 7) d' → RefL r → Q (.sh (.str (S r)), [⟨true,true,d'⟩, ⟨false,false,.dic (kvN n)⟩, ⟨false,false,.bl b⟩])) : ok (g_law_ref [⟨true,true,d⟩, ⟨false,false,.dic (kvN n)⟩, ⟨false,false,.bl b⟩]) Q := by
  obtain ⟨c1, c2⟩ := hn.chests
  obtain ⟨l1, l2⟩ := hn.lines
  obtain ⟨w1, w2⟩ := hn.words
  rw [g_law_ref, w_gOf, b_law_ref]
  simp
  refine draw_w h (by omega) (by omega) (by omega) fun a d1 t1 a0 a1 => ?_
  simp
  refine ok_dstr a0 (by omega) fun nm hnm => ?_
  have nm1 := c2 nm hnm
  simp
  refine draw_w t1 (by omega) (by omega) (by omega) fun w d2 t2 w0 w1' => ?_
  simp
  refine draw_w t2 (by omega) (by omega) (by omega) fun e d3 t3 e0 e1 => ?_
  simp
  refine ok_dstr e0 (by omega) fun ln hln => ?_
  have ln1 := l2 ln hln
  simp [-w_sIf]
  let C : Out → En → Prop := fun o ρ => (o = .nx ∧ ∃ d', Tp (s - 4) d' ∧ ρ = [some ⟨true,true,d'⟩, some ⟨false,false,.dic (kvN n)⟩, some ⟨false,false,.bl b⟩, some ⟨false,false,.str (S nm)⟩, some ⟨false,false,.int w⟩, some ⟨false,false,.str (S ln)⟩]) ∨
    ∃ r d', o = .rt (.sh (.str (S r))) ∧ RefL r ∧ Tp (s - 7) d' ∧ ρ = [some ⟨true,true,d'⟩, some ⟨false,false,.dic (kvN n)⟩, some ⟨false,false,.bl b⟩, some ⟨false,false,.str (S nm)⟩, some ⟨false,false,.int w⟩, some ⟨false,false,.str (S ln)⟩]
  refine wp_cut C ?_ ?_
  · simp
    refine ⟨fun q => ?_, fun q => ?_⟩
    · simp
      refine draw_w t3 (by omega) (by omega) (by omega) fun f d4 t4 f0 f1 => ?_
      simp
      refine ⟨fun q => ?_, fun q => ?_⟩
      · simp
        refine ⟨by have := nm1.2.1; omega, ?_⟩
        refine ok_dstr (by omega) (by omega) fun wd hwd => ?_
        have wd1 := w2 wd hwd
        simp
        refine draw_w t4 (by omega) (by omega) (by omega) fun g d5 t5 g0 g1 => ?_
        simp
        refine ok_dstr (P := [ln, nm ++ [45, 48], nm ++ [43, 49], wd]) g0 (by simpa using g1) fun z hz => ?_
        simp
        refine .inr ⟨z, d5, rfl, ?_, t5.mono (by omega), rfl⟩
        simp at hz
        rcases hz with rfl | rfl | rfl | rfl
        · exact ln1.ref
        · exact nm1.ref2 (by omega) (by omega) (by omega) (by omega)
        · exact nm1.ref2 (by omega) (by omega) (by omega) (by omega)
        · exact wd1.ref
      · simp
        exact .inl ⟨rfl, d4, t4.mono (by omega), rfl⟩
    · simp
      exact .inl ⟨rfl, d3, t3.mono (by omega), rfl⟩
  rintro o ρ (⟨rfl, d4, t4, rfl⟩ | ⟨r, d4, rfl, hr, t4, rfl⟩)
  · simp
    refine ⟨fun q => ?_, fun q => ?_⟩
    · simp
      exact k nm d4 (t4.mono (by omega)) nm1.ref
    · simp at q
      simp
      refine draw_w t4 (by omega) (by omega) (by omega) fun f d5 t5 f0 f1 => ?_
      simp [str_fig f0 (by omega)]
      refine draw_w t5 (by omega) (by omega) (by omega) fun g d6 t6 g0 g1 => ?_
      simp [str_fig (v := 1 + g) (by omega) (by omega)]
      refine ok_dstr (P := [[45, 48], [45, 48 + f.toNat], [43, 49], [43, 48 + (1 + g).toNat]]) (by omega) (by simp; omega) fun z hz => ?_
      have hz1 : ∃ x y, z = [x, y] ∧ 43 ≤ x ∧ x ≤ 57 ∧ 43 ≤ y ∧ y ≤ 57 := by
        simp at hz
        rcases hz with rfl | rfl | rfl | rfl
        · exact ⟨_, _, rfl, by omega, by omega, by omega, by omega⟩
        · exact ⟨_, _, rfl, by omega, by omega, by omega, by omega⟩
        · exact ⟨_, _, rfl, by omega, by omega, by omega, by omega⟩
        · exact ⟨_, _, rfl, by omega, by omega, by omega, by omega⟩
      obtain ⟨x, y, rfl, x0, x1, y0, y1⟩ := hz1
      simp
      exact ⟨by have := ln1.2.1; omega, k _ d6 (t6.mono (by omega)) (ln1.ref2 x0 x1 y0 y1)⟩
  · simp
    exact k r d4 t4 hr
end
end Cm
set_option Elab.async false
set_option linter.all false
set_option maxRecDepth 100000
set_option maxHeartbeats 1000000
namespace Cm
noncomputable section
open Mi PySem
/-! ### slots -/
structure Sl where
  nm : List Nat
  ref : List Nat
  way : List Nat
  en : List Nat
  fa : List Nat
def encSl (x : Sl) : D := .tup [.str (S x.nm), .str (S x.ref), .str (S x.way), .str (S x.en), .str (S x.fa)]
def WayL : List (List Nat) := [[110, 101, 119], [111, 108, 100], [114, 101, 97, 100], [109, 111, 114, 101]]
def EndL : List (List Nat) := [[107, 101, 101, 112], [107, 101, 101, 112], [115, 116, 114, 105, 107, 101], [104, 97, 110, 100]]
def AfL : List (List Nat) := [[119, 101, 108, 108], [119, 101, 108, 108], [101, 118, 101, 110], [111, 110, 108, 121]]
structure SlOk (x : Sl) : Prop where
  nm : NameL x.nm
  ref : RefL x.ref
  way : x.way ∈ WayL
  en : x.en ∈ EndL
  fa : x.fa ∈ EndL
theorem nin_dstr (r : List Nat) (l : List (List Nat)) : notInD (.str (S r)) (.lst (dstr l)) = some (.sh (.bl (!decide (r ∈ l)))) := by
  have e : dstr l = (l.map S).map D.str := by simp [dstr]
  have h := in_strs (S r) (l.map S)
  rw [← e] at h
  have hm : decide (S r ∈ l.map S) = decide (r ∈ l) := by simp
  rw [hm] at h
  unfold inD at h
  unfold notInD
  cases q : inA (.str (S r)) (.lst (dstr l)) with
  | none => rw [q] at h; cases h
  | some b => rw [q] at h; simp at h; simp [h]
theorem slots_w {s : Nat} {d : D} {Q : Rs × List W → Prop} {n : Kn} (hn : KnOk n) (h : Tp s d) (hs : 60 ≤ s)
    (k : ∀ (sl : List Sl) d', Tp (s - 60) d' → sl.length ≤ 4 → (∀ x ∈ sl, SlOk x) → Q (.sh (.tup (sl.map encSl)), [⟨true,true,d'⟩, ⟨false,false,.dic (kvN n)⟩])) : ok (g_law_slots_of [⟨true,true,d⟩, ⟨false,false,.dic (kvN n)⟩]) Q := by
  obtain ⟨c1, c2⟩ := hn.slots
  rw [g_law_slots_of, w_gOf, b_law_slots_of]
  simp
  refine draw_w h (by omega) (by omega) (by omega) fun a d1 t1 a0 a1 => ?_
  simp
  refine part_w a0 (by simp; omega) (by simp; omega) t1 (by omega) fun es r d2 t2 hl hp => ?_
  simp
  have he : ∀ e ∈ es, ∃ nm, e = .str (S nm) ∧ NameL nm := fun e he => by
    have : e ∈ dstr n.slots := hp.mem_iff.mp (by simp [he])
    obtain ⟨nm, h1, rfl⟩ := List.mem_map.mp this
    exact ⟨nm, rfl, c2 nm h1⟩
  let I : List D → En → Prop := fun ds ρ => ∃ (d' : D) (acc : List Sl) (rf : List (List Nat)) (x4 x5 x6 x7 x8 : Option W), (∀ e ∈ ds, ∃ nm, e = D.str (S nm) ∧ NameL nm) ∧ Tp (s - 60 + 11 * ds.length) d' ∧ (∀ x ∈ acc, SlOk x) ∧ acc.length + ds.length ≤ 4 ∧ rf.length + ds.length ≤ 4 ∧
    pinned (some x4) = false ∧ pinned (some x5) = false ∧ pinned (some x6) = false ∧ pinned (some x7) = false ∧ x8 = none ∧
    ρ = [some ⟨true,true,d'⟩, some ⟨false,false,.dic (kvN n)⟩, some ⟨true,false,.lst (acc.map encSl)⟩, some ⟨true,false,.lst (dstr rf)⟩, x4, x5, x6, x7, x8]
  refine fo_inv I ?_ ?_ ?_
  · exact ⟨d2, [], [], none, none, none, none, none, he, t2.mono (by omega), by simp, by simp; omega, by simp; omega, rfl, rfl, rfl, rfl, rfl, rfl⟩
  · rintro e ds ρ ⟨d', acc, rf, x4, x5, x6, x7, x8, hes, t, hacc, hal, hrl, h4, h5, h6, h7, rfl, rfl⟩
    obtain ⟨nm, rfl, hnm⟩ := hes e (by simp)
    simp at t hal hrl
    simp [h4, h5]
    refine ref_w hn t (by omega) fun rr d3 t3 hr => ?_
    simp [h5, h6]
    refine draw_w t3 (by omega) (by omega) (by omega) fun w d4 t4 w0 w1 => ?_
    simp
    refine ok_dstr (P := WayL) w0 (by simpa [WayL] using w1) fun way hway => ?_
    simp [-w_mSet, h6]
    let C : Out → En → Prop := fun o ρ => o = .nx ∧ ∃ (d5 : D) (way : List Nat), way ∈ WayL ∧ Tp (s - 60 + 11 * ds.length + 2) d5 ∧ ρ = [some ⟨true,true,d5⟩, some ⟨false,false,.dic (kvN n)⟩, some ⟨true,false,.lst (acc.map encSl)⟩, some ⟨true,false,.lst (dstr rf)⟩, some ⟨false,false,.str (S nm)⟩, some ⟨false,false,.str (S rr)⟩, some ⟨false,false,.str (S way)⟩, x7, none]
    refine wp_cut C ?_ ?_
    · simp [in_ch]
      refine ⟨fun q => ?_, fun q => ?_⟩
      · simp
        refine draw_w t4 (by omega) (by omega) (by omega) fun v d5 t5 v0 v1 => ?_
        simp
        refine ⟨fun q => ?_, fun q => ?_⟩
        · simp
          exact ⟨rfl, d5, _, by simp [WayL], t5.mono (by omega), rfl⟩
        · simp
          exact ⟨rfl, d5, way, hway, t5.mono (by omega), rfl⟩
      · simp
        exact ⟨rfl, d4, way, hway, t4.mono (by omega), rfl⟩
    rintro o ρ ⟨rfl, d5, way, hway, t5, rfl⟩
    simp [h7]
    rw [show dRange 0 2 = [D.int 0, D.int 1] from rfl]
    simp [h7]
    refine draw_w t5 (by omega) (by omega) (by omega) fun v d6 t6 v0 v1 => ?_
    simp
    refine ok_dstr (P := EndL) v0 (by simpa [EndL] using v1) fun en hen => ?_
    simp
    refine draw_w t6 (by omega) (by omega) (by omega) fun u d7 t7 u0 u1 => ?_
    simp
    refine ok_dstr (P := EndL) u0 (by simpa [EndL] using u1) fun fa hfa => ?_
    simp [nin_dstr]
    refine ⟨h7, fun q => ?_, fun q => ?_⟩
    · simp at q
      simp [in_ch]
      refine ⟨by omega, by omega, d7, acc ++ [⟨nm, rr, way, en, fa⟩], rf ++ [rr], some ⟨false,false,.str (S nm)⟩, some ⟨false,false,.str (S rr)⟩, some ⟨false,false,.str (S way)⟩, some ⟨true,false,.lst [.str (S en), .str (S fa)]⟩, none, fun e he => hes e (by simp [he]), t7.mono (by omega), ?_, by simp; omega, by simp; omega, rfl, rfl, rfl, rfl, rfl, by simp [encSl]⟩
      intro x hx
      simp at hx
      rcases hx with hx | rfl
      · exact hacc x hx
      · exact ⟨hnm, hr, hway, hen, hfa⟩
    · simp
      exact ⟨d7, acc, rf, _, _, _, _, none, fun e he => hes e (by simp [he]), t7.mono (by omega), hacc, by omega, by omega, rfl, rfl, rfl, rfl, rfl, rfl⟩
  · rintro ρ ⟨d', acc, rf, x4, x5, x6, x7, x8, hes, t, hacc, hal, hrl, h4, h5, h6, h7, rfl, rfl⟩
    simp
    exact k acc d' (t.mono (by simp)) (by simpa using hal) hacc
/-! ### errands -/
structure Stp where
  nm : List Nat
  wk : List Nat
  af : List Nat
  wh : Option Cd
  sl : List Sl
def encO : Option Cd → D
  | none => .non
  | some c => enc c
def encSt (x : Stp) : D := .tup [.str (S x.nm), .str (S x.wk), .str (S x.af), encO x.wh, .tup (x.sl.map encSl)]
structure StOk (N : List (List Nat)) (x : Stp) : Prop where
  nm : SnL x.nm
  wk : NameL x.wk
  af : x.af ∈ AfL
  wh : ∀ c, x.wh = some c → CdOk N c ∧ c.deep ≤ 3
  sl : x.sl.length ≤ 4
  sls : ∀ y ∈ x.sl, SlOk y
/-- each by those ahead of it -/
def StsOk (l : List Stp) : Prop := ∀ a x b, l = a ++ x :: b → StOk (a.map (·.nm)) x
theorem StsOk.nil : StsOk [] := fun a x b e => by cases a <;> cases e
theorem StsOk.add {l : List Stp} {y : Stp} (h : StsOk l) (hy : StOk (l.map (·.nm)) y) : StsOk (l ++ [y]) := by
  intro a x b e
  rcases List.eq_nil_or_concat b with rfl | ⟨b', z, rfl⟩
  · have := List.append_inj' e rfl
    obtain ⟨rfl, e2⟩ := this
    cases e2
    exact hy
  · have e1 : l ++ [y] = (a ++ x :: b') ++ [z] := by simpa using e
    obtain ⟨e2, e3⟩ := List.append_inj' e1 rfl
    exact h a x b' e2
structure Er where
  word : List Nat
  ring : List (List Nat)
  steps : List Stp
def encEr (x : Er) : D := .tup [.str (S x.word), .tup (dstr x.ring), .tup (x.steps.map encSt)]
structure ErOk (x : Er) : Prop where
  word : NameL x.word
  ring : 1 ≤ x.ring.length ∧ x.ring.length ≤ 3 ∧ ∀ l ∈ x.ring, NameL l
  len : 1 ≤ x.steps.length ∧ x.steps.length ≤ 8
  steps : StsOk x.steps
theorem errand_w {s : Nat} {d : D} {Q : Rs × List W → Prop} {n : Kn} (hn : KnOk n) {many : Int} (m0 : 1 ≤ many) (m1 : many ≤ 8) (h : Tp s d) (hs : 800 ≤ s)
    (k : ∀ x d', Tp (s - 800) d' → ErOk x → Q (.sh (encEr x), [⟨true,true,d'⟩, ⟨false,false,.dic (kvN n)⟩, ⟨false,false,.int many⟩])) : ok (g_law_errand_of [⟨true,true,d⟩, ⟨false,false,.dic (kvN n)⟩, ⟨false,false,.int many⟩]) Q := by
  obtain ⟨s1, s2⟩ := hn.steps
  obtain ⟨w1, w2⟩ := hn.works
  obtain ⟨b1, b2⟩ := hn.books
  obtain ⟨o1, o2⟩ := hn.words
  rw [g_law_errand_of, w_gOf, b_law_errand_of]
  simp
  refine draw_w h (by omega) (by omega) (by omega) fun a d1 t1 a0 a1 => ?_
  simp
  let I : List D → En → Prop := fun ds ρ => ∃ (d' : D) (ks : List (List Nat)) (acc : List Stp) (x5 x6 x7 x8 : Option W), ds = dstr ks ∧ (∀ l ∈ ks, SnL l) ∧ Tp (s - 790 + 90 * ks.length) d' ∧ StsOk acc ∧ acc.length + ks.length ≤ 8 ∧ 1 ≤ acc.length + ks.length ∧
    pinned (some x5) = false ∧ pinned (some x6) = false ∧ pinned (some x7) = false ∧ pinned (some x8) = false ∧
    ρ = [some ⟨true,true,d'⟩, some ⟨false,false,.dic (kvN n)⟩, some ⟨false,false,.int many⟩, some ⟨true,false,.lst (acc.map encSt)⟩, some ⟨true,false,.lst (dstr (acc.map (·.nm)))⟩, x5, x6, x7, x8, none]
  refine fo_inv I ?_ ?_ ?_
  · obtain ⟨m, rfl⟩ := Int.eq_ofNat_of_zero_le a0
    have e1 : (1 : Int) + m = ((1 + m : Nat) : Int) := by omega
    rw [e1, cutA_to, dstr_take]
    have hl : (n.steps.take (1 + m)).length ≤ 8 := by simp; omega
    exact ⟨d1, n.steps.take (1 + m), [], none, none, none, none, rfl, fun l hl => s2 l (List.mem_of_mem_take hl), t1.mono (by omega), StsOk.nil, by simp; omega, by simp; omega, rfl, rfl, rfl, rfl, rfl⟩
  · rintro e ds ρ ⟨d', ks, acc, x5, x6, x7, x8, hd, hks, t, hacc, hal, hal2, h5, h6, h7, h8, rfl⟩
    rcases ks with _ | ⟨nm, ks⟩
    · cases hd
    simp [dstr] at hd
    obtain ⟨rfl, rfl⟩ := hd
    have hnm := hks nm (by simp)
    simp at t hal
    simp [h5, h6]
    refine draw_w t (by omega) (by omega) (by omega) fun w d3 t3 w0 w1 => ?_
    simp
    refine ok_dstr (P := AfL) w0 (by simpa [AfL] using w1) fun af haf => ?_
    simp [-w_mSet, h6, h7]
    have hN : ∀ l ∈ acc.map (·.nm), SnL l := fun l hl => by
      obtain ⟨x, hx, rfl⟩ := List.mem_map.mp hl
      obtain ⟨p, q, rfl⟩ := List.append_of_mem hx
      exact (hacc p x q rfl).nm
    have hne := neD_nil (ks := acc.map (·.nm)) fun l hl => (hN l hl).asc
    let C : Out → En → Prop := fun o ρ => o = .nx ∧ ∃ (d5 : D) (wh : Option Cd), (∀ c, wh = some c → CdOk (acc.map (·.nm)) c ∧ c.deep ≤ 3) ∧ Tp (s - 790 + 90 * ks.length + 65) d5 ∧
      ρ = [some ⟨true,true,d5⟩, some ⟨false,false,.dic (kvN n)⟩, some ⟨false,false,.int many⟩, some ⟨true,false,.lst (acc.map encSt)⟩, some ⟨true,false,.lst (dstr (acc.map (·.nm)))⟩, some ⟨false,false,.str (S nm)⟩, some ⟨false,false,.str (S af)⟩, some ⟨false,false,encO wh⟩, x8, none]
    refine wp_cut C ?_ ?_
    · simp [hne]
      refine ⟨fun q => ?_, fun q => ?_⟩
      · simp at q
        simp
        refine draw_w t3 (by omega) (by omega) (by omega) fun v d5 t5 v0 v1 => ?_
        simp
        refine ⟨fun q2 => ?_, fun q2 => ?_⟩
        · simp
          refine condition_w (N := acc.map (·.nm)) (by simpa using q) (by simp; omega) 3 20 rfl t5 (by omega) (by omega) (by omega) fun c d6 t6 hc hd => ?_
          simp [h7]
          refine ⟨rfl, d6, some c, fun c' e => ?_, t6.mono (by omega), by simp [encO]⟩
          cases e
          exact ⟨hc, hd⟩
        · simp [h7]
          exact ⟨rfl, d5, none, (fun c e => by cases e), t5.mono (by omega), rfl⟩
      · simp [h7]
        exact ⟨rfl, d3, none, (fun c e => by cases e), t3.mono (by omega), rfl⟩
    rintro o ρ ⟨rfl, d5, wh, hwh, t5, rfl⟩
    simp [h8]
    refine draw_w t5 (by omega) (by omega) (by omega) fun v d6 t6 v0 v1 => ?_
    simp
    refine ok_dstr v0 (by omega) fun wk hwk => ?_
    simp [h8]
    refine slots_w hn t6 (by omega) fun sl d7 t7 hsl hsls => ?_
    simp
    refine ⟨by omega, d7, ks, acc ++ [⟨nm, wk, af, wh, sl⟩], some ⟨false,false,.str (S nm)⟩, some ⟨false,false,.str (S af)⟩, some ⟨false,false,encO wh⟩, some ⟨false,false,.str (S wk)⟩, rfl, fun l hl => hks l (by simp [hl]), t7.mono (by omega), hacc.add ⟨hnm, w2 wk hwk, haf, hwh, hsl, hsls⟩, by simp; omega, by simp; omega, rfl, rfl, rfl, rfl, by simp [encSt]⟩
  · rintro ρ ⟨d', ks, acc, x5, x6, x7, x8, hd, hks, t, hacc, hal, hal2, h5, h6, h7, h8, rfl⟩
    have : ks = [] := by cases ks with | nil => rfl | cons a b => cases hd
    subst this
    simp at t hal hal2
    simp
    refine draw_w t (by omega) (by omega) (by omega) fun w d3 t3 w0 w1 => ?_
    simp
    refine ok_dstr (by omega) (by omega) fun wd hwd => ?_
    simp
    obtain ⟨m, rfl⟩ := Int.eq_ofNat_of_zero_le w0
    have e1 : (1 : Int) + m = ((1 + m : Nat) : Int) := by omega
    rw [e1, cutA_to, dstr_take]
    exact k ⟨wd, n.books.take (1 + m), acc⟩ d3 (t3.mono (by omega)) ⟨o2 wd hwd, ⟨by simp; omega, by simp; omega, fun l hl => b2 l (List.mem_of_mem_take hl)⟩, ⟨hal2, hal⟩, hacc⟩
end
end Cm
set_option Elab.async false
set_option linter.all false
set_option maxRecDepth 100000
set_option maxHeartbeats 1000000
namespace Cm
noncomputable section
open Mi PySem
/-! ### how long things are shown -/
theorem str_pl {B : Int} {l : List Nat} (h : Asc l) : plI B (.str (S l)) = true := by
  show (S l).cps.toList.all (fun c => decide (c < 128)) = true
  rw [List.all_eq_true]
  intro c hc
  exact decide_eq_true (h c (by simpa using hc))
theorem gp_str {B : Int} {l : List Nat} {m : Nat} (h : Asc l) (hl : 10 * l.length + 2 ≤ m) : Gp B m 0 (.str (S l)) := ⟨str_pl h, by simpa [wt] using hl, Nat.le_refl _⟩
theorem wts_all : ∀ {ds : List D} {m : Nat}, (∀ x ∈ ds, wt x ≤ m) → wts ds ≤ ds.length * (m + 2)
  | [], _, _ => by simp [wts]
  | d :: ds, m, h => by
    have := wts_all (ds := ds) (m := m) fun x hx => h x (by simp [hx])
    have := h d (by simp)
    simp [wts, Nat.add_mul]; omega
theorem gp_tups {B : Int} {m n L : Nat} {ds : List D} (h : ∀ x ∈ ds, Gp B m n x) (hl : ds.length ≤ L) : Gp B (L * (m + 2) + 3) (n + 1) (.tup ds) := by
  refine Gp.tup (fun x hx => ⟨(h x hx).pl, (h x hx).dp⟩) ?_
  have h1 := wts_all (ds := ds) (m := m) fun x hx => (h x hx).wt
  have h2 := Nat.mul_le_mul_right (m + 2) hl
  omega
theorem gp_lsts {B : Int} {m n L : Nat} {ds : List D} (h : ∀ x ∈ ds, Gp B m n x) (hl : ds.length ≤ L) : Gp B (L * (m + 2) + 3) (n + 1) (.lst ds) := by
  refine Gp.lst (fun x hx => ⟨(h x hx).pl, (h x hx).dp⟩) ?_
  have h1 := wts_all (ds := ds) (m := m) fun x hx => (h x hx).wt
  have h2 := Nat.mul_le_mul_right (m + 2) hl
  omega
theorem enc_gp {N : List (List Nat)} (hN : ∀ s ∈ N, SnL s) : ∀ c : Cd, CdOk N c → Gp 100 (400 * c.size) c.deep (enc c)
  | .cmp w s n, h => by
    have a := (hN s h.1).asc
    have l := (hN s h.1).2.1
    have b := w.asc
    have l2 := w.len
    refine Gp.tup (n := 0) (fun x hx => ?_) ?_
    · simp at hx
      rcases hx with rfl | rfl | rfl
      · exact ⟨str_pl b, Nat.le_refl _⟩
      · exact ⟨str_pl a, Nat.le_refl _⟩
      · exact ⟨decide_eq_true (by have := h.2; omega), Nat.le_refl _⟩
    · simp [wts, wt, Cd.size]; omega
  | .en w s, h => by
    have a := (hN s h).asc
    have l := (hN s h).2.1
    have b := w.asc
    have l2 := w.len
    refine Gp.tup (n := 0) (fun x hx => ?_) ?_
    · simp at hx
      rcases hx with rfl | rfl
      · exact ⟨str_pl b, Nat.le_refl _⟩
      · exact ⟨str_pl a, Nat.le_refl _⟩
    · simp [wts, wt, Cd.size]; omega
  | .no c, h => by
    have ih := enc_gp hN c h
    refine Gp.tup (n := c.deep) (fun x hx => ?_) ?_
    · simp at hx
      rcases hx with rfl | rfl
      · exact ⟨str_pl (by simp [Asc]), Nat.zero_le _⟩
      · exact ⟨ih.pl, ih.dp⟩
    · have := ih.wt
      simp [wts, wt, Cd.size]; omega
  | .both c d, h => by
    have ih := enc_gp hN c h.1
    have ih2 := enc_gp hN d h.2
    refine Gp.tup (n := max c.deep d.deep) (fun x hx => ?_) ?_
    · simp at hx
      rcases hx with rfl | rfl | rfl
      · exact ⟨str_pl (by simp [Asc]), Nat.zero_le _⟩
      · exact ⟨ih.pl, by have := ih.dp; omega⟩
      · exact ⟨ih2.pl, by have := ih2.dp; omega⟩
    · have := ih.wt
      have := ih2.wt
      simp [wts, wt, Cd.size]; omega
  | .either c d, h => by
    have ih := enc_gp hN c h.1
    have ih2 := enc_gp hN d h.2
    refine Gp.tup (n := max c.deep d.deep) (fun x hx => ?_) ?_
    · simp at hx
      rcases hx with rfl | rfl | rfl
      · exact ⟨str_pl (by simp [Asc]), Nat.zero_le _⟩
      · exact ⟨ih.pl, by have := ih.dp; omega⟩
      · exact ⟨ih2.pl, by have := ih2.dp; omega⟩
    · have := ih.wt
      have := ih2.wt
      simp [wts, wt, Cd.size]; omega
theorem cd_size : ∀ c : Cd, c.size + 1 ≤ 2 ^ c.deep
  | .cmp _ _ _ => by simp [Cd.size, Cd.deep]
  | .en _ _ => by simp [Cd.size, Cd.deep]
  | .no c => by
    have := cd_size c
    simp only [Cd.size, Cd.deep]
    rw [Nat.pow_succ]; omega
  | .both c d => by
    have h1 := cd_size c
    have h2 := cd_size d
    have h3 : 2 ^ c.deep ≤ 2 ^ max c.deep d.deep := Nat.pow_le_pow_right (by omega) (by omega)
    have h4 : 2 ^ d.deep ≤ 2 ^ max c.deep d.deep := Nat.pow_le_pow_right (by omega) (by omega)
    simp only [Cd.size, Cd.deep]
    rw [Nat.pow_succ]; omega
  | .either c d => by
    have h1 := cd_size c
    have h2 := cd_size d
    have h3 : 2 ^ c.deep ≤ 2 ^ max c.deep d.deep := Nat.pow_le_pow_right (by omega) (by omega)
    have h4 : 2 ^ d.deep ≤ 2 ^ max c.deep d.deep := Nat.pow_le_pow_right (by omega) (by omega)
    simp only [Cd.size, Cd.deep]
    rw [Nat.pow_succ]; omega
theorem NameL.asc {l : List Nat} (h : NameL l) : Asc l := fun c hc => by have := h.2.2 c hc; omega
theorem RefL.asc {l : List Nat} (h : RefL l) : Asc l := by
  obtain ⟨b, t, rfl, hb, _, ht⟩ := h
  intro c hc
  rcases List.mem_append.mp hc with hc | hc
  · exact hb.asc c hc
  · have := ht c hc; omega
theorem RefL.len {l : List Nat} (h : RefL l) : l.length ≤ 10 := by
  obtain ⟨b, t, rfl, hb, h2, ht⟩ := h
  have := hb.2.1
  simp; omega
theorem way_asc {l : List Nat} (h : l ∈ WayL) : Asc l ∧ l.length ≤ 4 := (by decide : ∀ l ∈ WayL, (∀ c ∈ l, c < 128) ∧ l.length ≤ 4) l h
theorem end_asc {l : List Nat} (h : l ∈ EndL) : Asc l ∧ l.length ≤ 6 := (by decide : ∀ l ∈ EndL, (∀ c ∈ l, c < 128) ∧ l.length ≤ 6) l h
theorem af_asc {l : List Nat} (h : l ∈ AfL) : Asc l ∧ l.length ≤ 4 := (by decide : ∀ l ∈ AfL, (∀ c ∈ l, c < 128) ∧ l.length ≤ 4) l h
theorem sl_gp {x : Sl} (h : SlOk x) : Gp 100 600 1 (encSl x) := by
  refine (gp_tups (m := 110) (n := 0) (L := 5) (fun y hy => ?_) (by simp)).mono (Int.le_refl _) (by omega) (by omega)
  simp at hy
  have := h.nm.2.1
  have := h.ref.len
  have := (way_asc h.way).2
  have := (end_asc h.en).2
  have := (end_asc h.fa).2
  rcases hy with rfl | rfl | rfl | rfl | rfl
  · exact gp_str h.nm.asc (by omega)
  · exact gp_str h.ref.asc (by omega)
  · exact gp_str (way_asc h.way).1 (by omega)
  · exact gp_str (end_asc h.en).1 (by omega)
  · exact gp_str (end_asc h.fa).1 (by omega)
/-- a step that may stand anywhere -/
structure StW (x : Stp) : Prop where
  nm : SnL x.nm
  wk : NameL x.wk
  af : x.af ∈ AfL
  wh : ∀ c, x.wh = some c → ∃ N, (∀ l ∈ N, SnL l) ∧ CdOk N c ∧ c.deep ≤ 3
  sl : x.sl.length ≤ 4
  sls : ∀ y ∈ x.sl, SlOk y
theorem st_gp {x : Stp} (h : StW x) : Gp 100 16000 4 (encSt x) := by
  refine (gp_tups (m := 3000) (n := 3) (L := 5) (fun y hy => ?_) (by simp)).mono (Int.le_refl _) (by omega) (by omega)
  simp at hy
  have := h.nm.2.1
  have := h.wk.2.1
  have := (af_asc h.af).2
  rcases hy with rfl | rfl | rfl | rfl | rfl
  · exact (gp_str h.nm.asc (Nat.le_refl _)).mono (Int.le_refl _) (by omega) (by omega)
  · exact (gp_str h.wk.asc (Nat.le_refl _)).mono (Int.le_refl _) (by omega) (by omega)
  · exact (gp_str (af_asc h.af).1 (Nat.le_refl _)).mono (Int.le_refl _) (by omega) (by omega)
  · cases q : x.wh with
    | none => exact ⟨rfl, by simp [encO, wt], by simp [encO, dpt]⟩
    | some c =>
      obtain ⟨N, hN, hc, hd⟩ := h.wh c q
      have h1 := cd_size c
      have h2 : 2 ^ c.deep ≤ 2 ^ 3 := Nat.pow_le_pow_right (by omega) hd
      exact (enc_gp hN c hc).mono (Int.le_refl _) (by omega) hd
  · refine (gp_tups (m := 600) (n := 1) (L := 4) (fun y hy => ?_) (by simpa using h.sl)).mono (Int.le_refl _) (by omega) (by omega)
    obtain ⟨z, hz, rfl⟩ := List.mem_map.mp hy
    exact sl_gp (h.sls z hz)
structure ErW (x : Er) : Prop where
  word : NameL x.word
  ring : x.ring.length ≤ 3 ∧ ∀ l ∈ x.ring, NameL l
  len : x.steps.length ≤ 8
  steps : ∀ y ∈ x.steps, StW y
theorem er_gp {x : Er} (h : ErW x) : Gp 100 400000 6 (encEr x) := by
  refine (gp_tups (m := 130000) (n := 5) (L := 3) (fun y hy => ?_) (by simp)).mono (Int.le_refl _) (by omega) (by omega)
  simp at hy
  have := h.word.2.1
  rcases hy with rfl | rfl | rfl
  · exact (gp_str h.word.asc (Nat.le_refl _)).mono (Int.le_refl _) (by omega) (by omega)
  · refine (gp_tups (m := 100) (n := 0) (L := 3) (fun y hy => ?_) (by simpa using h.ring.1)).mono (Int.le_refl _) (by omega) (by omega)
    obtain ⟨z, hz, rfl⟩ := List.mem_map.mp hy
    have := (h.ring.2 z hz).2.1
    exact gp_str (h.ring.2 z hz).asc (by omega)
  · refine (gp_tups (m := 16000) (n := 4) (L := 8) (fun y hy => ?_) (by simpa using h.len)).mono (Int.le_refl _) (by omega) (by omega)
    obtain ⟨z, hz, rfl⟩ := List.mem_map.mp hy
    exact st_gp (h.steps z hz)
theorem StsOk.names {l : List Stp} (h : StsOk l) : ∀ x ∈ l, SnL x.nm := fun x hx => by
  obtain ⟨p, q, rfl⟩ := List.append_of_mem hx
  exact (h p x q rfl).nm
theorem StsOk.w {l : List Stp} (h : StsOk l) : ∀ x ∈ l, StW x := fun x hx => by
  obtain ⟨p, q, rfl⟩ := List.append_of_mem hx
  have o := h p x q rfl
  refine ⟨o.nm, o.wk, o.af, fun c hc => ⟨p.map (·.nm), fun l hl => ?_, o.wh c hc⟩, o.sl, o.sls⟩
  obtain ⟨y, hy, rfl⟩ := List.mem_map.mp hl
  exact h.names y (by simp [hy])
theorem ErOk.w {x : Er} (h : ErOk x) : ErW x := ⟨h.word, h.ring.2, h.len.2, h.steps.w⟩
theorem ne_ss {a b c e : List Nat} (ha : Asc a) (hb : Asc b) (hc : Asc c) (he : Asc e) : neD (.tup [.str (S a), .str (S b)]) (.tup [.str (S c), .str (S e)]) = some (.sh (.bl (!(decide (a = c) && decide (b = e))))) := by
  have s1 : ∀ {a b : List Nat}, Asc a → Asc b → SeqAt.shaped (.tuple [.str (S a), .str (S b)]) = true := by
    intro a b ha hb
    simp [SeqAt.shaped, PyData.canLay0, PyData.canLayAll0, strOk_S ha, strOk_S hb, PyData.depth, PyData.depthAll]
  have e0 : eqB (.tup [.str (S a), .str (S b)]) (.tup [.str (S c), .str (S e)]) = some (decide (a = c) && decide (b = e)) := by
    have s0 : scD (.tup [.str (S a), .str (S b)]) (.tup [.str (S c), .str (S e)]) = none := rfl
    unfold eqB
    rw [s0]
    simp [eqP, toP, toPs, s1 ha hb, s1 hc he, PyData.eqv, PyData.eqvAll, str_beq]
  rw [neD, e0]; rfl
theorem NameL.noend {b t : List Nat} (hb : NameL b) (ht : ∀ c ∈ t, 43 ≤ c ∧ c ≤ 57) : baseL (b ++ t) = b ∧ (b ++ t).filter isLet = b := by
  have h1 : ∀ c ∈ b, isLet c = true := fun c hc => by have := hb.2.2 c hc; simp [isLet]; omega
  have h2 : ∀ c ∈ t, isLet c = false := fun c hc => by have := ht c hc; simp [isLet]; omega
  constructor
  · unfold baseL
    rw [List.takeWhile_append_of_pos h1]
    cases t with
    | nil => simp
    | cons c t => simp [h2 c (by simp)]
  · rw [List.filter_append, List.filter_eq_self.mpr h1, List.filter_eq_nil_iff.mpr (fun c hc => by simp [h2 c hc])]
    simp
theorem RefL.base {r : List Nat} (h : RefL r) : r.filter isLet = baseL r := by
  obtain ⟨b, t, rfl, hb, _, ht⟩ := h
  rw [(NameL.noend hb ht).1, (NameL.noend hb ht).2]
theorem RefL.name {r : List Nat} (h : RefL r) : NameL (baseL r) := by
  obtain ⟨b, t, rfl, hb, _, ht⟩ := h
  rw [(NameL.noend hb ht).1]; exact hb

end
end Cm
set_option Elab.async false
set_option linter.all false
set_option maxRecDepth 100000
set_option maxHeartbeats 1000000
namespace Cm
noncomputable section
open Mi PySem
/-! ### unlike names; tapes beyond the cells -/
section
variable {s : Nat} {d : D} {Q : Rs × List W → Prop}
theorem namesN_w {many : Int} (h : Tp s d) (hs : 12 ≤ s) (h0 : 0 ≤ many) (h1 : many ≤ 26) (k : ∀ ls d', Tp (s - 12) d' → (ls.length : Int) = many → (∀ l ∈ ls, NameL l) → ls.Nodup → Q (.ow (.lst (dstr ls)), [⟨true,true,d'⟩, ⟨false,false,.int many⟩])) : ok (g_law_names [⟨true,true,d⟩, ⟨false,false,.int many⟩]) Q := by
  obtain ⟨m, rfl⟩ := Int.eq_ofNat_of_zero_le h0
  obtain ⟨ls, d', e, t, l, n, nd⟩ := names_okN (r := s - 12) m (by omega) (h.mono (by omega))
  exact ok_of e (k ls d' t (by simp [l]) n (nd (by omega)))
end
theorem tapeX_w (cs : List Int) {k : Int} (h0 : 0 ≤ k) (h2 : k < 1000) {Q : Rs × List W → Prop} (q : ∀ d, Tp 1099511627776 d → Q (.ow d, [⟨false,false,.lst (cs.map .int)⟩, ⟨false,false,.int k⟩])) : ok (g_law_tape [⟨false,false,.lst (cs.map .int)⟩, ⟨false,false,.int k⟩]) Q := by
  by_cases h : k < cs.length
  · exact tape_w cs h0 h h2 q
  · have hk : ¬ (k < (cs.map D.int).length) := by simpa using h
    have s1 : small (39373 * k) = true := small_of (by omega) (by omega)
    rw [g_law_tape, w_gOf, b_law_tape]
    simp [h]
    exact ⟨small_of (by omega) (by omega), .inr (small_of (by omega) (by omega)), q _ ⟨⟨0, 39373 * k + 17, 0, rfl, by omega, by omega, by omega, by omega, by omega⟩⟩⟩
/-! ### acts -/
inductive Ac where
  | copy (a b : List Nat) | put (a : List Nat) (n : Int) | empty (a : List Nat) | count (a : List Nat) | code (n : Int) | mark (w : List Nat) | over (a : List Nat) (n : Int) (w : List Nat) | fall (w : List Nat)
def encAc : Ac → D
  | .copy a b => .tup [.str (S [99, 111, 112, 121]), .str (S a), .str (S b)]
  | .put a n => .tup [.str (S [112, 117, 116]), .str (S a), .int n]
  | .empty a => .tup [.str (S [101, 109, 112, 116, 121]), .str (S a)]
  | .count a => .tup [.str (S [99, 111, 117, 110, 116]), .str (S a)]
  | .code n => .tup [.str (S [99, 111, 100, 101]), .int n]
  | .mark w => .tup [.str (S [109, 97, 114, 107]), .str (S w)]
  | .over a n w => .tup [.str (S [111, 118, 101, 114]), .str (S a), .int n, .str (S w)]
  | .fall w => .tup [.str (S [102, 97, 108, 108]), .str (S w)]
def AcOk : Ac → Prop
  | .copy a b => NameL a ∧ NameL b
  | .put a n => NameL a ∧ 0 ≤ n ∧ n ≤ 999
  | .empty a => NameL a
  | .count a => NameL a
  | .code n => 0 ≤ n ∧ n ≤ 99
  | .mark w => NameL w
  | .over a n w => NameL a ∧ 0 ≤ n ∧ n ≤ 40 ∧ NameL w
  | .fall w => NameL w
theorem eqD_nil {ks : List (List Nat)} (hk : ∀ l ∈ ks, Asc l) : eqD (.lst (dstr ks)) (.lst []) = some (.sh (.bl (decide (ks = [])))) := eqD_str (ls := []) hk (fun l hl => by cases hl)
theorem act_w {s : Nat} {d : D} {Q : Rs × List W → Prop} {n : Kn} (hn : KnOk n) {sl : List (List Nat)} (h1 : ∀ l ∈ sl, NameL l) (h2 : sl.length ≤ 8) (h : Tp s d) (hs : 10 ≤ s)
    (k : ∀ a d', Tp (s - 10) d' → AcOk a → Q (.sh (encAc a), [⟨true,true,d'⟩, ⟨false,false,.dic (kvN n)⟩, ⟨false,false,.lst (dstr sl)⟩])) : ok (g_law_act [⟨true,true,d⟩, ⟨false,false,.dic (kvN n)⟩, ⟨false,false,.lst (dstr sl)⟩]) Q := by
  obtain ⟨s1, s2⟩ := hn.slots
  obtain ⟨w1, w2⟩ := hn.words
  have he := eqD_nil (ks := sl) fun l hl => (h1 l hl).asc
  rw [g_law_act, w_gOf, b_law_act]
  simp [-w_mSet]
  let C : Out → En → Prop := fun o ρ => o = .nx ∧ ∃ (d2 : D) (b : Bool) (xs : List (List Nat)), Tp (s - 2) d2 ∧ xs ≠ [] ∧ xs.length ≤ 20 ∧ (∀ l ∈ xs, NameL l) ∧ ρ = [some ⟨true,true,d2⟩, some ⟨false,false,.dic (kvN n)⟩, some ⟨false,false,.lst (dstr sl)⟩, some ⟨b,false,.lst (dstr xs)⟩, none, none, none, none]
  refine wp_cut C ?_ ?_
  · simp [he]
    refine ⟨fun q => ?_, fun q => ?_⟩
    · simp
      refine draw_w h (by omega) (by omega) (by omega) fun v d3 t3 v0 v1 => ?_
      simp
      have e1 : ∃ m : Nat, 1 ≤ m ∧ m ≤ 2 ∧ ((1 : Int) + if v = 0 then 1 else 0) = (m : Int) := by
        by_cases z : v = 0
        · exact ⟨2, by omega, by omega, by simp [z]⟩
        · exact ⟨1, by omega, by omega, by simp [z]⟩
      obtain ⟨m, m1, m2', em⟩ := e1
      rw [em, cutA_to, dstr_take]
      have ed : dstr sl ++ dstr (n.slots.take m) = dstr (sl ++ n.slots.take m) := by simp [dstr]
      refine ⟨by simp; omega, rfl, d3, true, sl ++ n.slots.take m, t3.mono (by omega), ?_, by simp; omega, fun l hl => ?_, by rw [ed]⟩
      · intro z
        have := congrArg List.length z
        rw [List.length_append, List.length_take, s1, List.length_nil] at this
        omega
      · rcases List.mem_append.mp hl with q' | q'
        · exact h1 l q'
        · exact s2 l (List.mem_of_mem_take q')
    · simp at q
      simp
      refine draw_w h (by omega) (by omega) (by omega) fun u d2 t2 u0 u1 => ?_
      simp
      refine ⟨fun q2 => ?_, fun q2 => ?_⟩
      · simp
        refine draw_w t2 (by omega) (by omega) (by omega) fun v d3 t3 v0 v1 => ?_
        simp
        have e1 : ∃ m : Nat, 1 ≤ m ∧ m ≤ 2 ∧ ((1 : Int) + if v = 0 then 1 else 0) = (m : Int) := by
          by_cases z : v = 0
          · exact ⟨2, by omega, by omega, by simp [z]⟩
          · exact ⟨1, by omega, by omega, by simp [z]⟩
        obtain ⟨m, m1, m2', em⟩ := e1
        rw [em, cutA_to, dstr_take]
        have ed : dstr sl ++ dstr (n.slots.take m) = dstr (sl ++ n.slots.take m) := by simp [dstr]
        refine ⟨by simp; omega, rfl, d3, true, sl ++ n.slots.take m, t3.mono (by omega), ?_, by simp; omega, fun l hl => ?_, by rw [ed]⟩
        · intro z
          have := congrArg List.length z
          rw [List.length_append, List.length_take, s1, List.length_nil] at this
          omega
        · rcases List.mem_append.mp hl with q' | q'
          · exact h1 l q'
          · exact s2 l (List.mem_of_mem_take q')
      · simp
        exact ⟨rfl, d2, false, sl, t2.mono (by omega), q, by omega, h1, rfl⟩
  rintro o ρ ⟨rfl, d2, b, xs, t2, x1, x2, x3, rfl⟩
  have xp : 0 < xs.length := List.length_pos_iff.mpr x1
  let C2 : Out → En → Prop := fun o ρ => o = .nx ∧ ∃ (d4 : D) (a c : List Nat), Tp (s - 4) d4 ∧ NameL a ∧ NameL c ∧ ρ = [some ⟨true,true,d4⟩, some ⟨false,false,.dic (kvN n)⟩, some ⟨false,false,.lst (dstr sl)⟩, some ⟨b,false,.lst (dstr xs)⟩, some ⟨false,false,.str (S a)⟩, some ⟨false,false,.str (S c)⟩, none, none]
  simp [-w_mPar]
  refine wp_cut C2 ?_ ?_
  · cases b
    · simp
      refine draw_w t2 (by omega) (by omega) (by omega) fun u d3 t3 u0 u1 => ?_
      simp
      refine ok_dstr u0 (by omega) fun a ha => ?_
      simp
      refine draw_w t3 (by omega) (by omega) (by omega) fun v d4 t4 v0 v1 => ?_
      simp
      refine ok_dstr v0 (by omega) fun c hc => ?_
      simp
      exact ⟨rfl, d4, a, c, t4.mono (by omega), x3 a ha, x3 c hc, rfl⟩
    · simp
      refine draw_w t2 (by omega) (by omega) (by omega) fun u d3 t3 u0 u1 => ?_
      simp
      refine ok_dstr u0 (by omega) fun a ha => ?_
      simp
      refine draw_w t3 (by omega) (by omega) (by omega) fun v d4 t4 v0 v1 => ?_
      simp
      refine ok_dstr v0 (by omega) fun c hc => ?_
      simp
      exact ⟨rfl, d4, a, c, t4.mono (by omega), x3 a ha, x3 c hc, rfl⟩
  rintro o ρ ⟨rfl, d4, a, c, t4, ha, hc, rfl⟩
  simp
  refine draw_w t4 (by omega) (by omega) (by omega) fun w d5 t5 w0 w1' => ?_
  simp
  refine draw_w t5 (by omega) (by omega) (by omega) fun v d6 t6 v0 v1 => ?_
  simp
  refine ok_dstr v0 (by omega) fun wd hwd => ?_
  have hw := w2 wd hwd
  rcases (by omega : w = 0 ∨ w = 1 ∨ w = 2 ∨ w = 3 ∨ w = 4 ∨ w = 5 ∨ w = 6 ∨ w = 7 ∨ w = 8 ∨ w = 9 ∨ w = 10 ∨ w = 11 ∨ w = 12 ∨ w = 13) with rfl | rfl | rfl | rfl | rfl | rfl | rfl | rfl | rfl | rfl | rfl | rfl | rfl | rfl
  · simp
    exact k (.copy a c) d6 (t6.mono (by omega)) ⟨ha, hc⟩
  · simp
    exact k (.copy a c) d6 (t6.mono (by omega)) ⟨ha, hc⟩
  · simp
    refine draw_w t6 (by omega) (by omega) (by omega) fun x d7 t7 y0 y1 => ?_
    simp
    exact k (.put a x) d7 (t7.mono (by omega)) ⟨ha, y0, by omega⟩
  · simp
    refine draw_w t6 (by omega) (by omega) (by omega) fun x d7 t7 y0 y1 => ?_
    simp
    exact k (.put a x) d7 (t7.mono (by omega)) ⟨ha, y0, by omega⟩
  · simp
    refine draw_w t6 (by omega) (by omega) (by omega) fun x d7 t7 z0 z1 => ?_
    simp
    refine ok_at z0 (by simpa using z1) fun q hq => ?_
    obtain ⟨m, rfl, m0, m1⟩ : ∃ m : Int, q = .int m ∧ 0 < m ∧ m ≤ 100 := by
      simp at hq
      rcases hq with rfl | rfl
      · exact ⟨5, rfl, by omega, by omega⟩
      · exact ⟨100, rfl, by omega, by omega⟩
    simp
    refine draw_w t7 (by omega) m0 (by omega) fun y d8 t8 y0 y1 => ?_
    simp
    exact k (.empty a) d8 (t8.mono (by omega)) ha
  · simp
    refine draw_w t6 (by omega) (by omega) (by omega) fun x d7 t7 z0 z1 => ?_
    simp
    refine ok_at z0 (by simpa using z1) fun q hq => ?_
    obtain ⟨m, rfl, m0, m1⟩ : ∃ m : Int, q = .int m ∧ 0 < m ∧ m ≤ 100 := by
      simp at hq
      rcases hq with rfl | rfl
      · exact ⟨5, rfl, by omega, by omega⟩
      · exact ⟨100, rfl, by omega, by omega⟩
    simp
    refine draw_w t7 (by omega) m0 (by omega) fun y d8 t8 y0 y1 => ?_
    simp
    exact k (.count a) d8 (t8.mono (by omega)) ha
  · simp
    refine draw_w t6 (by omega) (by omega) (by omega) fun x d7 t7 z0 z1 => ?_
    simp
    refine ok_at z0 (by simpa using z1) fun q hq => ?_
    obtain ⟨m, rfl, m0, m1⟩ : ∃ m : Int, q = .int m ∧ 0 < m ∧ m ≤ 100 := by
      simp at hq
      rcases hq with rfl | rfl
      · exact ⟨5, rfl, by omega, by omega⟩
      · exact ⟨100, rfl, by omega, by omega⟩
    simp
    refine draw_w t7 (by omega) m0 (by omega) fun y d8 t8 y0 y1 => ?_
    simp
    exact k (.code y) d8 (t8.mono (by omega)) ⟨y0, by omega⟩
  · simp
    refine draw_w t6 (by omega) (by omega) (by omega) fun x d7 t7 y0 y1 => ?_
    simp
    exact k (.mark wd) d7 (t7.mono (by omega)) hw
  · simp
    refine draw_w t6 (by omega) (by omega) (by omega) fun x d7 t7 y0 y1 => ?_
    simp
    exact k (.code x) d7 (t7.mono (by omega)) ⟨y0, by omega⟩
  · simp
    refine draw_w t6 (by omega) (by omega) (by omega) fun x d7 t7 y0 y1 => ?_
    simp
    exact k (.put a 7) d7 (t7.mono (by omega)) ⟨ha, by omega, by omega⟩
  · simp
    refine draw_w t6 (by omega) (by omega) (by omega) fun x d7 t7 z0 z1 => ?_
    simp
    refine ok_at z0 (by simpa using z1) fun q hq => ?_
    obtain ⟨m, rfl, m0, m1⟩ : ∃ m : Int, q = .int m ∧ 0 ≤ m ∧ m ≤ 40 := by
      simp at hq
      rcases hq with rfl | rfl | rfl
      · exact ⟨40, rfl, by omega, by omega⟩
      · exact ⟨3, rfl, by omega, by omega⟩
      · exact ⟨12, rfl, by omega, by omega⟩
    simp
    exact k (.over a m wd) d7 (t7.mono (by omega)) ⟨ha, m0, m1, hw⟩
  · simp
    refine draw_w t6 (by omega) (by omega) (by omega) fun x d7 t7 z0 z1 => ?_
    simp
    refine ok_at z0 (by simpa using z1) fun q hq => ?_
    obtain ⟨m, rfl, m0, m1⟩ : ∃ m : Int, q = .int m ∧ 0 ≤ m ∧ m ≤ 40 := by
      simp at hq
      rcases hq with rfl | rfl | rfl
      · exact ⟨40, rfl, by omega, by omega⟩
      · exact ⟨3, rfl, by omega, by omega⟩
      · exact ⟨12, rfl, by omega, by omega⟩
    simp
    exact k (.over a m wd) d7 (t7.mono (by omega)) ⟨ha, m0, m1, hw⟩
  · simp
    exact k (.mark wd) d6 (t6.mono (by omega)) hw
  · simp
    refine draw_w t6 (by omega) (by omega) (by omega) fun x d7 t7 y0 y1 => ?_
    simp
    refine ⟨fun q => ?_, fun q => ?_⟩
    · simp
      exact k (.mark wd) d7 (t7.mono (by omega)) hw
    · simp
      exact k (.fall wd) d7 (t7.mono (by omega)) hw
theorem ac_gp {a : Ac} (h : AcOk a) : Gp 1000 500 1 (encAc a) := by
  have st : ∀ {l : List Nat}, NameL l → Gp 1000 100 0 (.str (S l)) := fun hl => gp_str hl.asc (by have := hl.2.1; omega)
  have it : ∀ {i : Int}, 0 ≤ i → i ≤ 999 → Gp 1000 100 0 (.int i) := fun h0 h1 => ⟨decide_eq_true (by omega), by simp [wt], Nat.le_refl _⟩
  have wo : ∀ {l : List Nat}, Asc l → l.length ≤ 5 → Gp 1000 100 0 (.str (S l)) := fun hl h5 => gp_str hl (by omega)
  have go : ∀ {ds : List D}, (∀ x ∈ ds, Gp 1000 100 0 x) → ds.length ≤ 4 → Gp 1000 500 1 (.tup ds) := fun h1 h2 => (gp_tups (m := 100) (n := 0) (L := 4) h1 h2).mono (Int.le_refl _) (by omega) (by omega)
  cases a with
  | copy a b => exact go (by simp; exact ⟨wo (by simp [Asc]) (by simp), st h.1, st h.2⟩) (by simp)
  | put a n => exact go (by simp; exact ⟨wo (by simp [Asc]) (by simp), st h.1, it h.2.1 h.2.2⟩) (by simp)
  | empty a => exact go (by simp; exact ⟨wo (by simp [Asc]) (by simp), st h⟩) (by simp)
  | count a => exact go (by simp; exact ⟨wo (by simp [Asc]) (by simp), st h⟩) (by simp)
  | code n => exact go (by simp; exact ⟨wo (by simp [Asc]) (by simp), it h.1 (by have := h.2; omega)⟩) (by simp)
  | mark w => exact go (by simp; exact ⟨wo (by simp [Asc]) (by simp), st h⟩) (by simp)
  | over a n w => exact go (by simp; exact ⟨wo (by simp [Asc]) (by simp), st h.1, it h.2.1 (by have := h.2.2.1; omega), st h.2.2.2⟩) (by simp)
  | fall w => exact go (by simp; exact ⟨wo (by simp [Asc]) (by simp), st h⟩) (by simp)
theorem work_w {s : Nat} {d : D} {Q : Rs × List W → Prop} {n : Kn} (hn : KnOk n) {sl : List (List Nat)} (h1 : ∀ l ∈ sl, NameL l) (h2 : sl.length ≤ 8) (h : Tp s d) (hs : 90 ≤ s)
    (k : ∀ (as : List Ac) d', Tp (s - 90) d' → 1 ≤ as.length → as.length ≤ 8 → (∀ a ∈ as, AcOk a) → Q (.sh (.tup (as.map encAc)), [⟨true,true,d'⟩, ⟨false,false,.dic (kvN n)⟩, ⟨false,false,.lst (dstr sl)⟩])) : ok (g_law_work_of [⟨true,true,d⟩, ⟨false,false,.dic (kvN n)⟩, ⟨false,false,.lst (dstr sl)⟩]) Q := by
  rw [g_law_work_of, w_gOf, b_law_work_of]
  simp
  refine draw_w h (by omega) (by omega) (by omega) fun v d1 t1 v0 v1 => ?_
  obtain ⟨m, rfl⟩ := Int.eq_ofNat_of_zero_le v0
  simp
  refine ⟨by omega, ?_⟩
  have em : ((1 : Int) + m).toNat = 1 + m := by omega
  rw [em]
  let J : Nat → En → Prop := fun i ρ => ∃ d', Tp (s - 90 + 10 * i) d' ∧ ρ = [some ⟨true,true,d'⟩, some ⟨false,false,.dic (kvN n)⟩, some ⟨false,false,.lst (dstr sl)⟩, none]
  refine lc_n J (fun x => ∃ a, x = encAc a ∧ AcOk a) (by simp [dRange]; omega) ⟨d1, t1.mono (by simp [dRange]; omega), rfl⟩ ?_ ?_
  · rintro e i ρ _ ⟨d2, t2, rfl⟩
    simp
    refine act_w hn h1 h2 t2 (by omega) fun a d3 t3 ha => ?_
    simp
    exact ⟨⟨a, rfl, ha⟩, d3, t3.mono (by omega), rfl⟩
  · rintro acc ρ hl hP ⟨d2, t2, rfl⟩
    obtain ⟨as, rfl, has⟩ := forms (f := encAc) (P := AcOk) hP
    simp [dRange] at hl
    simp
    exact k as d2 (t2.mono (by omega)) (by omega) (by omega) has
end
end Cm
set_option Elab.async false
set_option linter.all false
set_option maxRecDepth 100000
set_option maxHeartbeats 4000000
set_option autoImplicit false
namespace K12
noncomputable section
open PySem PySem.Spec PyProof.Rows L2 Mi
def topS (i : Nat) : Stmt := PySem.Challenge.pw_errandchests_k12_works_found_in_rings.main.body.getD i (.Pass ⟨0, 0, 0, 0⟩)
/-! ### find -/
abbrev s_find : Stmt := topS 1
theorem sc_find : FnScope ["ring", "name", "place", "book", "works", "one", "work"] ["ring", "name"] (defScope s_find) := ⟨rfl, rfl, rfl, by decide +kernel, rfl, by decide +kernel, by decide +kernel⟩
/-! ### _law_tape -/
abbrev s_law_tape : Stmt := topS 3
theorem sc_law_tape : FnScope ["_law_script", "_law_k", "_law_cell"] ["_law_script", "_law_k"] (defScope s_law_tape) := ⟨rfl, rfl, rfl, by decide +kernel, rfl, by decide +kernel, by decide +kernel⟩
/-! ### _law_draw -/
abbrev s_law_draw : Stmt := topS 4
theorem sc_law_draw : FnScope ["_law_tape_here", "_law_many", "_law_found_here", "_law_once", "_law_twice", "_law_wide"] ["_law_tape_here", "_law_many"] (defScope s_law_draw) := ⟨rfl, rfl, rfl, by decide +kernel, rfl, by decide +kernel, by decide +kernel⟩
/-! ### _law_folded -/
abbrev s_law_folded : Stmt := topS 5
theorem sc_law_folded : FnScope ["_law_script", "_law_many", "_law_cells", "_law_k", "_law_cell"] ["_law_script", "_law_many"] (defScope s_law_folded) := ⟨rfl, rfl, rfl, by decide +kernel, rfl, by decide +kernel, by decide +kernel⟩
/-! ### _law_names -/
abbrev s_law_names : Stmt := topS 6
theorem sc_law_names : FnScope ["_law_tape_here", "_law_many", "_law_letters", "_law_shift", "_law_stem", "_law_k", "_law_at", "_law_step", "_law_found_here", "_law_head", "_law_tail", "_law_way", "_law_sign"] ["_law_tape_here", "_law_many"] (defScope s_law_names) := ⟨rfl, rfl, rfl, by decide +kernel, rfl, by decide +kernel, by decide +kernel⟩
/-! ### _law_part -/
abbrev s_law_part : Stmt := topS 7
theorem sc_law_part : FnScope ["_law_tape_here", "_law_some", "_law_many", "_law_left", "_law_k"] ["_law_tape_here", "_law_some", "_law_many"] (defScope s_law_part) := ⟨rfl, rfl, rfl, by decide +kernel, rfl, by decide +kernel, by decide +kernel⟩
/-! ### _law_same -/
abbrev s_law_same : Stmt := topS 8
theorem sc_law_same : FnScope ["_law_found_here", "_law_due", "_law_one", "_law_other"] ["_law_found_here", "_law_due"] (defScope s_law_same) := ⟨rfl, rfl, rfl, by decide +kernel, rfl, by decide +kernel, by decide +kernel⟩
/-! ### _law_kinds -/
abbrev s_law_kinds : Stmt := topS 9
theorem sc_law_kinds : FnScope ["_law_tape_here", "_law_some", "_law_found_here", "_law_kind", "_law_many", "_law_turn"] ["_law_tape_here"] (defScope s_law_kinds) := ⟨rfl, rfl, rfl, by decide +kernel, rfl, by decide +kernel, by decide +kernel⟩
/-! ### _law_act -/
abbrev s_law_act : Stmt := topS 10
theorem sc_law_act : FnScope ["_law_tape_here", "_law_n", "_law_slots", "_law_some", "_law_slot", "_law_other", "_law_way", "_law_word"] ["_law_tape_here", "_law_n", "_law_slots"] (defScope s_law_act) := ⟨rfl, rfl, rfl, by decide +kernel, rfl, by decide +kernel, by decide +kernel⟩
/-! ### _law_work_of -/
abbrev s_law_work_of : Stmt := topS 11
theorem sc_law_work_of : FnScope ["_law_tape_here", "_law_n", "_law_slots", "_law_turn"] ["_law_tape_here", "_law_n", "_law_slots"] (defScope s_law_work_of) := ⟨rfl, rfl, rfl, by decide +kernel, rfl, by decide +kernel, by decide +kernel⟩
/-! ### _law_found -/
abbrev s_law_found : Stmt := topS 12
theorem sc_law_found : FnScope ["_law_circle", "_law_who", "_law_found_here", "_law_place", "_law_book", "_law_some", "_law_one", "_law_work"] ["_law_circle", "_law_who"] (defScope s_law_found) := ⟨rfl, rfl, rfl, by decide +kernel, rfl, by decide +kernel, by decide +kernel⟩
/-! ### _law_right -/
abbrev s_law_right : Stmt := topS 13
theorem sc_law_right : FnScope ["_law_tape_here", "_law_n", "_law_names_here", "_law_circle", "_law_turn", "_law_some", "_law_who", "_law_handed", "_law_kept", "_law_due"] ["_law_tape_here"] (defScope s_law_right) := ⟨rfl, rfl, rfl, by decide +kernel, rfl, by decide +kernel, by decide +kernel⟩
/-! ### law -/
abbrev s_law : Stmt := topS 14
theorem sc_law : FnScope ["_law_script", "_law_cells", "_law_k", "_law_tape_here", "_law_turn"] ["_law_script"] (defScope s_law) := ⟨rfl, rfl, rfl, by decide +kernel, rfl, by decide +kernel, by decide +kernel⟩
structure Tx (P : Program) (w : World) (K : PySem.W.Frag) (mg : Str → Option Value) : Prop where
  d_find : Dfn K mg "find" s_find
  d_law_tape : Dfn K mg "_law_tape" s_law_tape
  d_law_draw : Dfn K mg "_law_draw" s_law_draw
  d_law_folded : Dfn K mg "_law_folded" s_law_folded
  d_law_names : Dfn K mg "_law_names" s_law_names
  d_law_part : Dfn K mg "_law_part" s_law_part
  d_law_same : Dfn K mg "_law_same" s_law_same
  d_law_kinds : Dfn K mg "_law_kinds" s_law_kinds
  d_law_act : Dfn K mg "_law_act" s_law_act
  d_law_work_of : Dfn K mg "_law_work_of" s_law_work_of
  d_law_found : Dfn K mg "_law_found" s_law_found
  d_law_right : Dfn K mg "_law_right" s_law_right
  d_law : Dfn K mg "law" s_law
  n_abs : mg "abs" = none
  n_all : mg "all" = none
  n_bool : mg "bool" = none
  n_enumerate : mg "enumerate" = none
  n_int : mg "int" = none
  n_isinstance : mg "isinstance" = none
  n_len : mg "len" = none
  n_list : mg "list" = none
  n_max : mg "max" = none
  n_range : mg "range" = none
  n_repr : mg "repr" = none
  n_sorted : mg "sorted" = none
  n_str : mg "str" = none
  n_tuple : mg "tuple" = none
  n_zip : mg "zip" = none
  sys : SysD K
/-! mirrors -/
def b_find : MS :=
  (sSeq (mFor (iEnW (mCons (mVar 0) mNil)) (tgT [2, 3])
  (sSeq (mSet 4 (mDc (iSh (mVar 3)) (tgT [5, 6]) mYes (mVar 5) (mVar 6) [5, 6]))
  (sIf (mTe (m2 inD (mVar 1) (mVar 4)))
  (sRet (mTup (mCons (mVar 2) (mCons (m2 ixD (mVar 4) (mVar 1)) mNil))))
  sNx)))
  (sRet (mC .non)))
def g_find : MG := gOf 7 b_find
def b_law_found : MS :=
  (sSeq (mSet 2 (mC .non))
  (sSeq (mFor (iSh (m2 stpA (mLE (mCons (mVar 0) mNil)) (mU negD (mC (.int 1))))) (tgT [3, 4])
  (sSeq (mSet 5 (mLc (iSh (mVar 4)) (tgT [6, 7]) (mTe (m2 eqD (mVar 6) (mVar 1))) (mVar 7) [6, 7]))
  (mSet 2 (mIf (mTe (m2 neD (mVar 5) (mLst mNil))) (mTup (mCons (mVar 3) (mCons (m2 ixD (mVar 5) (mC (.int 0))) mNil))) (mVar 2)))))
  (sRet (mVar 2))))
def g_law_found : MG := gOf 8 b_law_found
def b_law_right : MS :=
  (sSeq (mPar [1, 2] (mCons (mCall Cm.g_law_kinds [true] (mCons (mVar 0) mNil)) (mCons (mCall Cm.g_law_names [true, false] (mCons (mVar 0) (mCons (mC (.int 10)) mNil))) mNil)))
  (sSeq (mSet 3 (mLst mNil))
  (sSeq (mFor (iR1 (mCons (mCall Cm.g_law_draw [true, false] (mCons (mVar 0) (mCons (mC (.int 5)) mNil))) mNil)) (tgN 4)
  (sSeq (mSet 5 (mCB sortD (mCons (mCall Cm.g_law_part [true, false, false] (mCons (mVar 0) (mCons (mSl (mVar 2) oNo (oSo (mC (.int 8)))) (mCons (mCall Cm.g_law_draw [true, false] (mCons (mVar 0) (mCons (mC (.int 9)) mNil))) mNil)))) mNil)))
  (sDrop (mMm "list" appD 3 (mCons (mCB tupleD (mCons (mLc (iSh (mVar 5)) (tgN 6) mYes (mTup (mCons (mVar 6) (mCons (mCall Cm.g_law_work_of [true, false, false] (mCons (mVar 0) (mCons (mVar 1) (mCons (m2 ixD (mVar 1) (mC (.str "slots"))) mNil)))) mNil))) [6]) mNil)) mNil)))))
  (sSeq (sIf (mAnd (mTe (m2 neD (mVar 3) (mLst mNil))) (mTe (m2 eqD (mCall Cm.g_law_draw [true, false] (mCons (mVar 0) (mCons (mC (.int 3)) mNil))) (mC (.int 0)))))
  (mSto 3 (m2 ixD (mVar 3) (mC (.int 0))) (mU negD (mC (.int 1))))
  sNx)
  (sSeq (mSet 7 (m2 ixD (mLst (mCons (mVar 3) (mCons (mCB tupleD (mCons (mVar 3) mNil)) mNil))) (mCall Cm.g_law_draw [true, false] (mCons (mVar 0) (mCons (mC (.int 2)) mNil)))))
  (sSeq (mSet 8 (mCB reprG (mCons (mVar 7) mNil)))
  (sSeq (mFor (iSh (mVar 2)) (tgN 6)
  (sSeq (mSet 9 (mCall g_law_found [false, false] (mCons (mVar 3) (mCons (mVar 6) mNil))))
  (sIf (mNot (mTru (mBor (mCall (Cm.g_law_same 20) [false, false] (mCons (mLst (mCons (mCall g_find [false, false] (mCons (mVar 7) (mCons (mVar 6) mNil))) (mCons (mCall g_find [false, false] (mPk 0 2 [1, 0] mNil (mCons (mVar 6) (mCons (mVar 7) mNil)))) mNil))) (mCons (mLst (mCons (mVar 9) (mCons (mVar 9) mNil))) mNil))))))
  (sRet (mC (.bl false)))
  sNx)))
  (sRet (m2 eqD (mCB reprG (mCons (mVar 7) mNil)) (mVar 8))))))))))
def g_law_right : MG := gOf 10 b_law_right
def b_law : MS :=
  (sSeq (mSet 1 (mCall Cm.g_law_folded [false, false] (mCons (mVar 0) (mCons (mC (.int 4)) mNil))))
  (sSeq (mFor (iR1 (mCons (mCB maxD (mCons (mC (.int 1)) (mCons (mCB lenD (mCons (mVar 1) mNil)) mNil))) mNil)) (tgN 2)
  (sSeq (mSet 3 (mCall Cm.g_law_tape [false, false] (mCons (mVar 1) (mCons (mVar 2) mNil))))
  (sIf (mNot (mTru (mCB allD (mCons (mLc (iR1 (mCons (mC (.int 6)) mNil)) (tgN 4) mYes (mCall g_law_right [true] (mCons (mVar 3) mNil)) [4]) mNil))))
  (sRet (mC (.bl false)))
  sNx)))
  (sRet (mC (.bl true)))))
def g_law : MG := gOf 5 b_law
/-! the walk -/
theorem c_find {P : Program} {w : World} {K : PySem.W.Frag} {mg : Str → Option Value} {base : Heap} (T : Tx P w K mg) : Cal P w K mg base 1 "find" s_find ["ring", "name"] g_find :=
  cal_of (k := 0) (N := ["ring", "name", "place", "book", "works", "one", "work"]) T.d_find sc_find (fun _ _ _ _ _ _ us hl => match us, hl with | [_, _], _ => rfl) (fun f cdv A outer s H E hr =>
      (ss_cons (sv_for (is := [2, 3]) PassesOwn.never rfl (tgT_ok (is := [2, 3])) (iv_enA T.n_enumerate (av_cons (ev_var 0) av_nil)) (pg_tup rfl (pgs_cons (pg_name (i := 2) sc_find.nd rfl (by first | exact Or.inl rfl | exact Or.inr rfl)) (pgs_cons (pg_name (i := 3) sc_find.nd rfl (by first | exact Or.inl rfl | exact Or.inr rfl)) pgs_nil)))
      (ss_cons (sv_setDc (i := 4) (own := [("one", 5), ("work", 6)]) (is := [5, 6]) rfl sc_find.nd (tgT_ok (is := [5, 6])) (by decide) (iv_sh (ev_var 3)) (blkOk_by (own := [("one", 5), ("work", 6)]) (N := ["ring", "name", "place", "book", "works", "one", "work"]) (sc := defScope s_find) (by decide +kernel)) (fun _ _ _ _ _ => (pg_tup rfl (pgs_cons (pg_name (i := 5) sc_find.nd rfl (by first | exact Or.inl rfl | exact Or.inr rfl)) (pgs_cons (pg_name (i := 6) sc_find.nd rfl (by first | exact Or.inl rfl | exact Or.inr rfl)) pgs_nil)))) (fun _ _ _ _ _ => tvs_nil) (fun _ _ _ _ _ => (ev_var 5)) (fun _ _ _ _ _ => (ev_var 6)) (sw_dict rfl rfl rfl (by decide +kernel)))
      (ss_one (sv_if (tv_cmp (op_inA hr) ok_in (ev_var 1) (ev_var 4) (by rfl))
      (ss_one (sv_ret (ev_tup (av_cons (ev_var 2) (av_cons (ev_sub_ix hr (ev_var 4) (ev_var 1)) av_nil)))))
      ss_nil))))
      (ss_one (sv_ret ev_non))))
theorem c_law_tape {P : Program} {w : World} {K : PySem.W.Frag} {mg : Str → Option Value} {base : Heap} (T : Tx P w K mg) : Cal P w K mg base 1 "_law_tape" s_law_tape ["_law_script", "_law_k"] Cm.g_law_tape :=
  cal_of (k := 0) (N := ["_law_script", "_law_k", "_law_cell"]) T.d_law_tape sc_law_tape (fun _ _ _ _ _ _ us hl => match us, hl with | [_, _], _ => rfl) (fun f cdv A outer s H E hr =>
      (ss_cons (sv_set (i := 2) sc_law_tape.nd (ev_if (tv_cmp op_ltA ok_lt (ev_var 1) (ev_callB cr_len ok_len T.n_len bb_len (av_cons (ev_var 0) av_nil)) (nomark _)) (ev_sub_ix hr (ev_var 0) (ev_var 1)) ev_int))
      (ss_one (sv_ret (ev_lst (av_cons (ev_mul (ev_callB call_abs ok_abs T.n_abs bb_abs (av_cons (ev_var 2) av_nil)) (ev_callTy cr_int ok_int T.n_int bb_int (av_cons (ev_cmp op_ge ok_ge (ev_callB call_abs ok_abs T.n_abs bb_abs (av_cons (ev_var 2) av_nil)) (ev_pow ev_int ev_int) (nomark _)) av_nil))) (av_cons (ev_add (ev_add (ev_mod (ev_var 2) ev_int) (ev_mul ev_int (ev_var 1))) ev_int) (av_cons ev_int av_nil))))))))
theorem c_law_draw {P : Program} {w : World} {K : PySem.W.Frag} {mg : Str → Option Value} {base : Heap} (T : Tx P w K mg) : Cal P w K mg base 1 "_law_draw" s_law_draw ["_law_tape_here", "_law_many"] Cm.g_law_draw :=
  cal_of (k := 0) (N := ["_law_tape_here", "_law_many", "_law_found_here", "_law_once", "_law_twice", "_law_wide"]) T.d_law_draw sc_law_draw (fun _ _ _ _ _ _ us hl => match us, hl with | [_, _], _ => rfl) (fun f cdv A outer s H E hr =>
      (ss_cons (sv_if (tv_cmp op_gt ok_gt (ev_sub_ix hr (ev_var 0) ev_int) ev_int (nomark _))
      (ss_cons (sv_set (i := 2) sc_law_draw.nd (ev_mod (ev_sub_ix hr (ev_var 0) ev_int) (ev_var 1)))
      (ss_cons (sv_sto 0 (ev_div (ev_sub_ix hr (ev_var 0) ev_int) (ev_var 1)) ev_int)
      (ss_one (sv_ret (ev_var 2)))))
      ss_nil)
      (ss_cons (sv_sto 0 (ev_add (ev_sub_ix hr (ev_var 0) ev_int) ev_int) ev_int)
      (ss_cons (sv_set (i := 3) sc_law_draw.nd (ev_mod (ev_pow (ev_add (ev_sub_ix hr (ev_var 0) ev_int) (ev_mul ev_int (ev_sub_ix hr (ev_var 0) ev_int))) ev_int) ev_int))
      (ss_cons (sv_set (i := 4) sc_law_draw.nd (ev_mod (ev_mul (ev_add (ev_var 3) (ev_sub_ix hr (ev_var 0) ev_int)) (ev_add (ev_add (ev_mod (ev_var 3) ev_int) ev_int) (ev_sub_ix hr (ev_var 0) ev_int))) ev_int))
      (ss_cons (sv_set (i := 5) sc_law_draw.nd (ev_mod (ev_add (ev_add (ev_div (ev_sub_ix hr (ev_var 0) ev_int) ev_int) (ev_mul (ev_var 4) ev_int)) (ev_sub_ix hr (ev_var 0) ev_int)) ev_int))
      (ss_one (sv_ret (ev_mod (ev_div (ev_mod (ev_add (ev_add (ev_mul (ev_var 4) ev_int) (ev_mul (ev_var 5) ev_int)) (ev_var 3)) ev_int) ev_int) (ev_var 1))))))))))
theorem c_law_folded {P : Program} {w : World} {K : PySem.W.Frag} {mg : Str → Option Value} {base : Heap} (T : Tx P w K mg) : Cal P w K mg base 1 "_law_folded" s_law_folded ["_law_script", "_law_many"] Cm.g_law_folded :=
  cal_of (k := 0) (N := ["_law_script", "_law_many", "_law_cells", "_law_k", "_law_cell"]) T.d_law_folded sc_law_folded (fun _ _ _ _ _ _ us hl => match us, hl with | [_, _], _ => rfl) (fun f cdv A outer s H E hr =>
      (ss_cons (sv_set (i := 2) sc_law_folded.nd (ev_callTy call_list_of ok_list T.n_list bb_list (av_cons (ev_slice (ev_var 0) ov_none (ov_some (ev_var 1))) av_nil)))
      (ss_cons (sv_for (is := [3, 4]) PassesOwn.never rfl (tgT_ok (is := [3, 4])) (iv_enum T.n_enumerate (av_cons (ev_slice (ev_var 0) (ov_some (ev_var 1)) (ov_some ev_int)) av_nil)) (pg_tup rfl (pgs_cons (pg_name (i := 3) sc_law_folded.nd rfl (by first | exact Or.inl rfl | exact Or.inr rfl)) (pgs_cons (pg_name (i := 4) sc_law_folded.nd rfl (by first | exact Or.inl rfl | exact Or.inr rfl)) pgs_nil)))
      (ss_one (sv_sto 2 (ev_add (ev_sub_ix hr (ev_var 2) (ev_mod (ev_var 3) (ev_var 1))) (ev_mul (ev_var 4) (ev_add (ev_var 3) ev_int))) (ev_mod (ev_var 3) (ev_var 1)))))
      (ss_one (sv_ret (ev_var 2))))))
theorem c_law_names {P : Program} {w : World} {K : PySem.W.Frag} {mg : Str → Option Value} {base : Heap} (T : Tx P w K mg) : Cal P w K mg base 2 "_law_names" s_law_names ["_law_tape_here", "_law_many"] Cm.g_law_names :=
  cal_of (k := 1) (N := ["_law_tape_here", "_law_many", "_law_letters", "_law_shift", "_law_stem", "_law_k", "_law_at", "_law_step", "_law_found_here", "_law_head", "_law_tail", "_law_way", "_law_sign"]) T.d_law_names sc_law_names (fun _ _ _ _ _ _ us hl => match us, hl with | [_, _], _ => rfl) (fun f cdv A outer s H E hr =>
      (ss_cons (sv_parC (is := [2, 3]) (by decide) (av_cons ev_str (av_cons (ev_call (bs := [true, false]) (c_law_draw T) hr (by decide) rfl (av_cons (ev_var 0) (av_cons ev_int av_nil))) av_nil)) (pg_tup rfl (pgs_cons (pg_name (i := 2) sc_law_names.nd rfl (by first | exact Or.inl rfl | exact Or.inr rfl)) (pgs_cons (pg_name (i := 3) sc_law_names.nd rfl (by first | exact Or.inl rfl | exact Or.inr rfl)) pgs_nil))))
      (ss_cons (sv_set (i := 4) sc_law_names.nd (ev_join ev_str (av_cons (ev_lc (own := [("_law_k", 5)]) (is := [5]) rfl sc_law_names.nd tgN_ok (by decide) (iv_range1 T.n_range (av_cons (ev_call (bs := [true, false]) (c_law_draw T) hr (by decide) rfl (av_cons (ev_var 0) (av_cons ev_int av_nil))) av_nil)) (blkOk_by (own := [("_law_k", 5)]) (N := ["_law_tape_here", "_law_many", "_law_letters", "_law_shift", "_law_stem", "_law_k", "_law_at", "_law_step", "_law_found_here", "_law_head", "_law_tail", "_law_way", "_law_sign"]) (sc := defScope s_law_names) (by decide +kernel)) (fun _ _ _ _ _ => (pg_name (i := 5) sc_law_names.nd rfl (by first | exact Or.inl rfl | exact Or.inr rfl))) (fun _ _ _ _ _ => tvs_nil) (fun _ _ _ _ _ => (ev_sub_ix hr (ev_var 2) (ev_call (bs := [true, false]) (c_law_draw T) hr (by decide) rfl (av_cons (ev_var 0) (av_cons ev_int av_nil)))))) av_nil)))
      (ss_cons (sv_par3 (i := 6) (j := 7) (l := 8) rfl sc_law_names.nd (by decide) (by decide) (by decide) (av_cons (ev_call (bs := [true, false]) (c_law_draw T) hr (by decide) rfl (av_cons (ev_var 0) (av_cons (ev_add (ev_callB cr_len ok_len T.n_len bb_len (av_cons (ev_var 4) av_nil)) ev_int) av_nil))) (av_cons (ev_sub_ix hr (ev_lst (av_cons ev_int (av_cons ev_int (av_cons ev_int av_nil)))) (ev_call (bs := [true, false]) (c_law_draw T) hr (by decide) rfl (av_cons (ev_var 0) (av_cons ev_int av_nil)))) (av_cons (ev_lst av_nil) av_nil))))
      (ss_cons (sv_par (i := 9) (j := 10) rfl sc_law_names.nd (by decide) (av_cons (ev_slice (ev_var 4) ov_none (ov_some (ev_var 6))) (av_cons (ev_slice (ev_var 4) (ov_some (ev_var 6)) ov_none) av_nil)))
      (ss_cons (sv_for (is := [5]) PassesOwn.never rfl tgN_ok (iv_range1 T.n_range (av_cons (ev_var 1) av_nil)) (pg_name (i := 5) sc_law_names.nd rfl (by first | exact Or.inl rfl | exact Or.inr rfl))
      (ss_cons (sv_set (i := 11) sc_law_names.nd (ev_mul (ev_mod (ev_add (ev_add (ev_var 3) (ev_var 6)) (ev_callB cr_len ok_len T.n_len bb_len (av_cons (ev_var 4) av_nil))) ev_int) (ev_callTy cr_int ok_int T.n_int bb_int (av_cons (ev_cmp (op_neA hr) ok_ne (ev_var 10) ev_str (nomark _)) av_nil))))
      (ss_cons (sv_set (i := 12) sc_law_names.nd (ev_sub_ix hr (ev_var 2) (ev_mod (ev_add (ev_var 3) (ev_mul (ev_var 7) (ev_sub_ix hr (ev_lst (av_cons (ev_var 5) (av_cons (ev_div (ev_var 5) ev_int) (av_cons (ev_var 5) av_nil)))) (ev_var 11)))) ev_int)))
      (ss_one (sv_expr (ev_append 8 (av_cons (ev_add (ev_add (ev_var 9) (ev_var 12)) (ev_sub_ix hr (ev_lst (av_cons (ev_var 10) (av_cons (ev_mul (ev_var 10) (ev_mod (ev_var 5) ev_int)) (av_cons (ev_slice (ev_var 10) ov_none (ov_some (ev_mod (ev_var 5) (ev_add (ev_callB cr_len ok_len T.n_len bb_len (av_cons (ev_var 10) av_nil)) ev_int)))) av_nil)))) (ev_var 11))) av_nil)))))))
      (ss_one (sv_ret (ev_var 8)))))))))
theorem c_law_part {P : Program} {w : World} {K : PySem.W.Frag} {mg : Str → Option Value} {base : Heap} (T : Tx P w K mg) : Cal P w K mg base 2 "_law_part" s_law_part ["_law_tape_here", "_law_some", "_law_many"] Cm.g_law_part :=
  cal_of (k := 1) (N := ["_law_tape_here", "_law_some", "_law_many", "_law_left", "_law_k"]) T.d_law_part sc_law_part (fun _ _ _ _ _ _ us hl => match us, hl with | [_, _, _], _ => rfl) (fun f cdv A outer s H E hr =>
      (ss_cons (sv_set (i := 3) sc_law_part.nd (ev_callTy call_list_of ok_list T.n_list bb_list (av_cons (ev_var 1) av_nil)))
      (ss_one (sv_ret (ev_lc (own := [("_law_k", 4)]) (is := [4]) rfl sc_law_part.nd tgN_ok (by decide) (iv_range1 T.n_range (av_cons (ev_var 2) av_nil)) (blkOk_by (own := [("_law_k", 4)]) (N := ["_law_tape_here", "_law_some", "_law_many", "_law_left", "_law_k"]) (sc := defScope s_law_part) (by decide +kernel)) (fun _ _ _ _ _ => (pg_name (i := 4) sc_law_part.nd rfl (by first | exact Or.inl rfl | exact Or.inr rfl))) (fun _ _ _ _ _ => tvs_nil) (fun _ _ _ _ _ => (ev_pop 3 (av_cons (ev_call (bs := [true, false]) (c_law_draw T) hr (by decide) rfl (av_cons (ev_var 0) (av_cons (ev_callB cr_len ok_len T.n_len bb_len (av_cons (ev_var 3) av_nil)) av_nil))) av_nil))))))))
theorem c_law_same {P : Program} {w : World} {K : PySem.W.Frag} {mg : Str → Option Value} {base : Heap} (T : Tx P w K mg) : ∀ n : Nat, Cal P w K mg base (0 + n) "_law_same" s_law_same ["_law_found_here", "_law_due"] (Cm.g_law_same n)
  | 0 => cal_none T.d_law_same (fun _ _ _ _ _ _ us hl => match us, hl with | [_, _], _ => rfl)
  | n + 1 => by
    have C_law_same := c_law_same (P := P) (w := w) (base := base) T n
    exact cal_of (k := 0 + n) (N := ["_law_found_here", "_law_due", "_law_one", "_law_other"]) T.d_law_same sc_law_same (fun _ _ _ _ _ _ us hl => match us, hl with | [_, _], _ => rfl) (fun f cdv A outer s H E hr =>
      (ss_cons (sv_if (tv_truth (ev_callB cr_isi ok_isi T.n_isinstance bb_isinstance (av_cons (ev_var 1) (av_cons (ev_tup (av_cons (ev_ty T.n_list bb_list) (av_cons (ev_ty T.n_tuple bb_tuple) av_nil))) av_nil))))
      (ss_cons (sv_if (wv_tv (wv_or (tv_cmp (op_neA hr) ok_ne (ev_callB cr_isi ok_isi T.n_isinstance bb_isinstance (av_cons (ev_var 0) (av_cons (ev_ty T.n_list bb_list) av_nil))) (ev_callB cr_isi ok_isi T.n_isinstance bb_isinstance (av_cons (ev_var 1) (av_cons (ev_ty T.n_list bb_list) av_nil))) (nomark _)) (wv_or1 (tv_cmp (op_neA hr) ok_ne (ev_callB cr_isi ok_isi T.n_isinstance bb_isinstance (av_cons (ev_var 0) (av_cons (ev_ty T.n_tuple bb_tuple) av_nil))) (ev_callB cr_isi ok_isi T.n_isinstance bb_isinstance (av_cons (ev_var 1) (av_cons (ev_ty T.n_tuple bb_tuple) av_nil))) (nomark _)))))
      (ss_one (sv_ret ev_bl))
      ss_nil)
      (ss_one (sv_ret (ev_and (ev_cmp (op_eqA hr) ok_eq (ev_callB cr_len ok_len T.n_len bb_len (av_cons (ev_var 0) av_nil)) (ev_callB cr_len ok_len T.n_len bb_len (av_cons (ev_var 1) av_nil)) (nomark _)) (ev_one (ev_callB (cr_all rfl) ok_all T.n_all bb_all (av_cons (ev_lc (own := [("_law_one", 2), ("_law_other", 3)]) (is := [2, 3]) rfl sc_law_same.nd (tgT_ok (is := [2, 3])) (by decide) (iv_zipA T.n_zip (av_cons (ev_var 0) (av_cons (ev_var 1) av_nil))) (blkOk_by (own := [("_law_one", 2), ("_law_other", 3)]) (N := ["_law_found_here", "_law_due", "_law_one", "_law_other"]) (sc := defScope s_law_same) (by decide +kernel)) (fun _ _ _ _ _ => (pg_tup rfl (pgs_cons (pg_name (i := 2) sc_law_same.nd rfl (by first | exact Or.inl rfl | exact Or.inr rfl)) (pgs_cons (pg_name (i := 3) sc_law_same.nd rfl (by first | exact Or.inl rfl | exact Or.inr rfl)) pgs_nil)))) (fun _ _ _ _ _ => tvs_nil) (fun _ _ _ _ _ => (ev_call (bs := [false, false]) C_law_same hr (by omega) rfl (av_cons (ev_var 2) (av_cons (ev_var 3) av_nil))))) av_nil)))))))
      ss_nil)
      (ss_cons (sv_if (wv_tv (wv_or (tv_cmp op_isN ok_isN (ev_var 1) ev_non (nomark _)) (wv_or1 (tv_truth (ev_callB cr_isi ok_isi T.n_isinstance bb_isinstance (av_cons (ev_var 1) (av_cons (ev_tup (av_cons (ev_ty T.n_str bb_str) (av_cons (ev_ty T.n_bool bb_bool) av_nil))) av_nil)))))))
      (ss_one (sv_ret (ev_and (ev_cmp (op_eqA hr) ok_eq (ev_callB cr_isi ok_isi T.n_isinstance bb_isinstance (av_cons (ev_var 0) (av_cons (ev_ty T.n_bool bb_bool) av_nil))) (ev_callB cr_isi ok_isi T.n_isinstance bb_isinstance (av_cons (ev_var 1) (av_cons (ev_ty T.n_bool bb_bool) av_nil))) (nomark _)) (ev_one (ev_cmp (op_eqA hr) ok_eq (ev_var 0) (ev_var 1) (nomark _))))))
      ss_nil)
      (ss_one (sv_ret (ev_and (ev_callB cr_isi ok_isi T.n_isinstance bb_isinstance (av_cons (ev_var 0) (av_cons (ev_ty T.n_int bb_int) av_nil))) (ev_and (ev_not (ev_callB cr_isi ok_isi T.n_isinstance bb_isinstance (av_cons (ev_var 0) (av_cons (ev_ty T.n_bool bb_bool) av_nil)))) (ev_one (ev_cmp (op_eqA hr) ok_eq (ev_var 0) (ev_var 1) (nomark _))))))))))
theorem c_law_kinds {P : Program} {w : World} {K : PySem.W.Frag} {mg : Str → Option Value} {base : Heap} (T : Tx P w K mg) : Cal P w K mg base 3 "_law_kinds" s_law_kinds ["_law_tape_here"] Cm.g_law_kinds :=
  cal_of (k := 2) (N := ["_law_tape_here", "_law_some", "_law_found_here", "_law_kind", "_law_many", "_law_turn"]) T.d_law_kinds sc_law_kinds (fun _ _ _ _ _ _ us hl => match us, hl with | [_], _ => rfl) (fun f cdv A outer s H E hr =>
      (ss_cons (sv_parC (is := [1, 2]) (by decide) (av_cons (ev_call (bs := [true, false]) (c_law_names T) hr (by decide) rfl (av_cons (ev_var 0) (av_cons ev_int av_nil))) (av_cons ev_dnew av_nil)) (pg_tup rfl (pgs_cons (pg_name (i := 1) sc_law_kinds.nd rfl (by first | exact Or.inl rfl | exact Or.inr rfl)) (pgs_cons (pg_name (i := 2) sc_law_kinds.nd rfl (by first | exact Or.inl rfl | exact Or.inr rfl)) pgs_nil))))
      (ss_cons (sv_for (is := [3, 4]) PassesOwn.never rfl (tgT_ok (is := [3, 4])) (iv_sh (ev_tup (av_cons (ev_tup (av_cons ev_str (av_cons ev_int av_nil))) (av_cons (ev_tup (av_cons ev_str (av_cons ev_int av_nil))) (av_cons (ev_tup (av_cons ev_str (av_cons ev_int av_nil))) (av_cons (ev_tup (av_cons ev_str (av_cons ev_int av_nil))) (av_cons (ev_tup (av_cons ev_str (av_cons ev_int av_nil))) (av_cons (ev_tup (av_cons ev_str (av_cons ev_int av_nil))) av_nil)))))))) (pg_tup rfl (pgs_cons (pg_name (i := 3) sc_law_kinds.nd rfl (by first | exact Or.inl rfl | exact Or.inr rfl)) (pgs_cons (pg_name (i := 4) sc_law_kinds.nd rfl (by first | exact Or.inl rfl | exact Or.inr rfl)) pgs_nil)))
      (ss_one (sv_stoD hr 2 (ev_lc (own := [("_law_turn", 5)]) (is := [5]) rfl sc_law_kinds.nd tgN_ok (by decide) (iv_range1 T.n_range (av_cons (ev_var 4) av_nil)) (blkOk_by (own := [("_law_turn", 5)]) (N := ["_law_tape_here", "_law_some", "_law_found_here", "_law_kind", "_law_many", "_law_turn"]) (sc := defScope s_law_kinds) (by decide +kernel)) (fun _ _ _ _ _ => (pg_name (i := 5) sc_law_kinds.nd rfl (by first | exact Or.inl rfl | exact Or.inr rfl))) (fun _ _ _ _ _ => tvs_nil) (fun _ _ _ _ _ => (ev_pop 1 (av_cons ev_int av_nil)))) (ev_var 3))))
      (ss_cons (sv_stoD hr 2 (ev_lc (own := [("_law_turn", 5)]) (is := [5]) rfl sc_law_kinds.nd tgN_ok (by decide) (iv_range1 T.n_range (av_cons ev_int av_nil)) (blkOk_by (own := [("_law_turn", 5)]) (N := ["_law_tape_here", "_law_some", "_law_found_here", "_law_kind", "_law_many", "_law_turn"]) (sc := defScope s_law_kinds) (by decide +kernel)) (fun _ _ _ _ _ => (pg_name (i := 5) sc_law_kinds.nd rfl (by first | exact Or.inl rfl | exact Or.inr rfl))) (fun _ _ _ _ _ => tvs_nil) (fun _ _ _ _ _ => (ev_add (ev_sub_ix hr (ev_var 1) (ev_var 5)) (ev_sub_ix hr (ev_lst (av_cons ev_str (av_cons (ev_add ev_str (ev_sub_ix hr (ev_var 1) (ev_add (ev_var 5) ev_int))) av_nil))) (ev_call (bs := [true, false]) (c_law_draw T) hr (by decide) rfl (av_cons (ev_var 0) (av_cons ev_int av_nil))))))) ev_str)
      (ss_cons (sv_stoD hr 2 (ev_add (ev_sub_ix hr (ev_var 2) ev_str) (ev_lst (av_cons (ev_add (ev_add (ev_sub_ix hr (ev_var 1) ev_int) ev_str) (ev_sub_ix hr (ev_var 1) ev_int)) (av_cons (ev_add (ev_add (ev_sub_ix hr (ev_var 1) ev_int) ev_str) (ev_sub_ix hr (ev_var 1) ev_int)) av_nil)))) ev_str)
      (ss_one (sv_ret (ev_var 2))))))))
theorem c_law_act {P : Program} {w : World} {K : PySem.W.Frag} {mg : Str → Option Value} {base : Heap} (T : Tx P w K mg) : Cal P w K mg base 2 "_law_act" s_law_act ["_law_tape_here", "_law_n", "_law_slots"] Cm.g_law_act :=
  cal_of (k := 1) (N := ["_law_tape_here", "_law_n", "_law_slots", "_law_some", "_law_slot", "_law_other", "_law_way", "_law_word"]) T.d_law_act sc_law_act (fun _ _ _ _ _ _ us hl => match us, hl with | [_, _, _], _ => rfl) (fun f cdv A outer s H E hr =>
      (ss_cons (sv_set (i := 3) sc_law_act.nd (ev_if (wv_tv (wv_or (tv_cmp (op_eqA hr) ok_eq (ev_var 2) (ev_lst av_nil) (nomark _)) (wv_or1 (tv_cmp (op_eqA hr) ok_eq (ev_call (bs := [true, false]) (c_law_draw T) hr (by decide) rfl (av_cons (ev_var 0) (av_cons ev_int av_nil))) ev_int (nomark _))))) (ev_add (ev_var 2) (ev_slice (ev_sub_ix hr (ev_var 1) ev_str) ov_none (ov_some (ev_add ev_int (ev_callTy cr_int ok_int T.n_int bb_int (av_cons (ev_cmp (op_eqA hr) ok_eq (ev_call (bs := [true, false]) (c_law_draw T) hr (by decide) rfl (av_cons (ev_var 0) (av_cons ev_int av_nil))) ev_int (nomark _)) av_nil)))))) (ev_var 2)))
      (ss_cons (sv_par (i := 4) (j := 5) rfl sc_law_act.nd (by decide) (av_cons (ev_sub_ix hr (ev_var 3) (ev_call (bs := [true, false]) (c_law_draw T) hr (by decide) rfl (av_cons (ev_var 0) (av_cons (ev_callB cr_len ok_len T.n_len bb_len (av_cons (ev_var 3) av_nil)) av_nil)))) (av_cons (ev_sub_ix hr (ev_var 3) (ev_call (bs := [true, false]) (c_law_draw T) hr (by decide) rfl (av_cons (ev_var 0) (av_cons (ev_callB cr_len ok_len T.n_len bb_len (av_cons (ev_var 3) av_nil)) av_nil)))) av_nil)))
      (ss_cons (sv_par (i := 6) (j := 7) rfl sc_law_act.nd (by decide) (av_cons (ev_call (bs := [true, false]) (c_law_draw T) hr (by decide) rfl (av_cons (ev_var 0) (av_cons ev_int av_nil))) (av_cons (ev_sub_ix hr (ev_sub_ix hr (ev_var 1) ev_str) (ev_call (bs := [true, false]) (c_law_draw T) hr (by decide) rfl (av_cons (ev_var 0) (av_cons ev_int av_nil)))) av_nil)))
      (ss_cons (sv_if (tv_cmp op_ltA ok_lt (ev_var 6) ev_int (nomark _))
      (ss_one (sv_ret (ev_if (tv_cmp op_ltA ok_lt (ev_var 6) ev_int (nomark _)) (ev_tup (av_cons ev_str (av_cons (ev_var 4) (av_cons (ev_var 5) av_nil)))) (ev_tup (av_cons ev_str (av_cons (ev_var 4) (av_cons (ev_call (bs := [true, false]) (c_law_draw T) hr (by decide) rfl (av_cons (ev_var 0) (av_cons ev_int av_nil))) av_nil)))))))
      ss_nil)
      (ss_cons (sv_if (tv_cmp op_ltA ok_lt (ev_var 6) ev_int (nomark _))
      (ss_one (sv_ret (ev_sub_ix hr (ev_lst (av_cons (ev_tup (av_cons ev_str (av_cons (ev_var 4) av_nil))) (av_cons (ev_tup (av_cons ev_str (av_cons (ev_var 4) av_nil))) (av_cons (ev_tup (av_cons ev_str (av_cons (ev_call (bs := [true, false]) (c_law_draw T) hr (by decide) rfl (av_cons (ev_var 0) (av_cons (ev_sub_ix hr (ev_lst (av_cons ev_int (av_cons ev_int av_nil))) (ev_call (bs := [true, false]) (c_law_draw T) hr (by decide) rfl (av_cons (ev_var 0) (av_cons ev_int av_nil)))) av_nil))) av_nil))) av_nil)))) (ev_sub (ev_var 6) ev_int))))
      ss_nil)
      (ss_cons (sv_if (tv_cmp op_ltA ok_lt (ev_var 6) ev_int (nomark _))
      (ss_one (sv_ret (ev_sub_ix hr (ev_lst (av_cons (ev_tup (av_cons ev_str (av_cons (ev_var 7) av_nil))) (av_cons (ev_tup (av_cons ev_str (av_cons (ev_call (bs := [true, false]) (c_law_draw T) hr (by decide) rfl (av_cons (ev_var 0) (av_cons ev_int av_nil))) av_nil))) (av_cons (ev_tup (av_cons ev_str (av_cons (ev_var 4) (av_cons ev_int av_nil)))) av_nil)))) (ev_sub (ev_var 6) ev_int))))
      ss_nil)
      (ss_cons (sv_if (tv_cmp op_ltA ok_lt (ev_var 6) ev_int (nomark _))
      (ss_one (sv_ret (ev_tup (av_cons ev_str (av_cons (ev_var 4) (av_cons (ev_sub_ix hr (ev_lst (av_cons ev_int (av_cons ev_int (av_cons ev_int av_nil)))) (ev_call (bs := [true, false]) (c_law_draw T) hr (by decide) rfl (av_cons (ev_var 0) (av_cons ev_int av_nil)))) (av_cons (ev_var 7) av_nil)))))))
      ss_nil)
      (ss_one (sv_ret (ev_if (wv_tv (wv_or (tv_cmp (op_eqA hr) ok_eq (ev_var 6) ev_int (nomark _)) (wv_or1 (tv_cmp op_gt ok_gt (ev_call (bs := [true, false]) (c_law_draw T) hr (by decide) rfl (av_cons (ev_var 0) (av_cons ev_int av_nil))) ev_int (nomark _))))) (ev_tup (av_cons ev_str (av_cons (ev_var 7) av_nil))) (ev_tup (av_cons ev_str (av_cons (ev_var 7) av_nil))))))))))))))
theorem c_law_work_of {P : Program} {w : World} {K : PySem.W.Frag} {mg : Str → Option Value} {base : Heap} (T : Tx P w K mg) : Cal P w K mg base 3 "_law_work_of" s_law_work_of ["_law_tape_here", "_law_n", "_law_slots"] Cm.g_law_work_of :=
  cal_of (k := 2) (N := ["_law_tape_here", "_law_n", "_law_slots", "_law_turn"]) T.d_law_work_of sc_law_work_of (fun _ _ _ _ _ _ us hl => match us, hl with | [_, _, _], _ => rfl) (fun f cdv A outer s H E hr =>
      (ss_one (sv_ret (ev_callTy call_tuple_of ok_tuple T.n_tuple bb_tuple (av_cons (ev_lc (own := [("_law_turn", 3)]) (is := [3]) rfl sc_law_work_of.nd tgN_ok (by decide) (iv_range1 T.n_range (av_cons (ev_add ev_int (ev_call (bs := [true, false]) (c_law_draw T) hr (by decide) rfl (av_cons (ev_var 0) (av_cons ev_int av_nil)))) av_nil)) (blkOk_by (own := [("_law_turn", 3)]) (N := ["_law_tape_here", "_law_n", "_law_slots", "_law_turn"]) (sc := defScope s_law_work_of) (by decide +kernel)) (fun _ _ _ _ _ => (pg_name (i := 3) sc_law_work_of.nd rfl (by first | exact Or.inl rfl | exact Or.inr rfl))) (fun _ _ _ _ _ => tvs_nil) (fun _ _ _ _ _ => (ev_call (bs := [true, false, false]) (c_law_act T) hr (by decide) rfl (av_cons (ev_var 0) (av_cons (ev_var 1) (av_cons (ev_var 2) av_nil)))))) av_nil)))))
theorem c_law_found {P : Program} {w : World} {K : PySem.W.Frag} {mg : Str → Option Value} {base : Heap} (T : Tx P w K mg) : Cal P w K mg base 1 "_law_found" s_law_found ["_law_circle", "_law_who"] g_law_found :=
  cal_of (k := 0) (N := ["_law_circle", "_law_who", "_law_found_here", "_law_place", "_law_book", "_law_some", "_law_one", "_law_work"]) T.d_law_found sc_law_found (fun _ _ _ _ _ _ us hl => match us, hl with | [_, _], _ => rfl) (fun f cdv A outer s H E hr =>
      (ss_cons (sv_set (i := 2) sc_law_found.nd ev_non)
      (ss_cons (sv_for (is := [3, 4]) PassesOwn.never rfl (tgT_ok (is := [3, 4])) (iv_sh (ev_stepA (ev_le T.n_list T.n_enumerate (av_cons (ev_var 0) av_nil)) (ev_neg ev_int))) (pg_tup rfl (pgs_cons (pg_name (i := 3) sc_law_found.nd rfl (by first | exact Or.inl rfl | exact Or.inr rfl)) (pgs_cons (pg_name (i := 4) sc_law_found.nd rfl (by first | exact Or.inl rfl | exact Or.inr rfl)) pgs_nil)))
      (ss_cons (sv_setLc (i := 5) (own := [("_law_one", 6), ("_law_work", 7)]) (is := [6, 7]) rfl sc_law_found.nd (tgT_ok (is := [6, 7])) (by decide) (iv_sh (ev_var 4)) (blkOk_by (own := [("_law_one", 6), ("_law_work", 7)]) (N := ["_law_circle", "_law_who", "_law_found_here", "_law_place", "_law_book", "_law_some", "_law_one", "_law_work"]) (sc := defScope s_law_found) (by decide +kernel)) (fun _ _ _ _ _ => (pg_tup rfl (pgs_cons (pg_name (i := 6) sc_law_found.nd rfl (by first | exact Or.inl rfl | exact Or.inr rfl)) (pgs_cons (pg_name (i := 7) sc_law_found.nd rfl (by first | exact Or.inl rfl | exact Or.inr rfl)) pgs_nil)))) (fun _ _ _ _ _ => (tvs_one (tv_cmp (op_eqA hr) ok_eq (ev_var 6) (ev_var 1) (nomark _)))) (fun _ _ _ _ _ => (ev_var 7)) (sw_true rfl rfl rfl (by decide +kernel)))
      (ss_one (sv_set (i := 2) sc_law_found.nd (ev_if (tv_cmp (op_neA hr) ok_ne (ev_var 5) (ev_lst av_nil) (nomark _)) (ev_tup (av_cons (ev_var 3) (av_cons (ev_sub_ix hr (ev_var 5) ev_int) av_nil))) (ev_var 2))))))
      (ss_one (sv_ret (ev_var 2))))))
theorem c_law_right {P : Program} {w : World} {K : PySem.W.Frag} {mg : Str → Option Value} {base : Heap} (T : Tx P w K mg) : Cal P w K mg base 22 "_law_right" s_law_right ["_law_tape_here"] g_law_right :=
  cal_of (k := 21) (N := ["_law_tape_here", "_law_n", "_law_names_here", "_law_circle", "_law_turn", "_law_some", "_law_who", "_law_handed", "_law_kept", "_law_due"]) T.d_law_right sc_law_right (fun _ _ _ _ _ _ us hl => match us, hl with | [_], _ => rfl) (fun f cdv A outer s H E hr =>
      (ss_cons (sv_parC (is := [1, 2]) (by decide) (av_cons (ev_call (bs := [true]) (c_law_kinds T) hr (by decide) rfl (av_cons (ev_var 0) av_nil)) (av_cons (ev_call (bs := [true, false]) (c_law_names T) hr (by decide) rfl (av_cons (ev_var 0) (av_cons ev_int av_nil))) av_nil)) (pg_tup rfl (pgs_cons (pg_name (i := 1) sc_law_right.nd rfl (by first | exact Or.inl rfl | exact Or.inr rfl)) (pgs_cons (pg_name (i := 2) sc_law_right.nd rfl (by first | exact Or.inl rfl | exact Or.inr rfl)) pgs_nil))))
      (ss_cons (sv_set (i := 3) sc_law_right.nd (ev_lst av_nil))
      (ss_cons (sv_for (is := [4]) PassesOwn.never rfl tgN_ok (iv_range1 T.n_range (av_cons (ev_call (bs := [true, false]) (c_law_draw T) hr (by decide) rfl (av_cons (ev_var 0) (av_cons ev_int av_nil))) av_nil)) (pg_name (i := 4) sc_law_right.nd rfl (by first | exact Or.inl rfl | exact Or.inr rfl))
      (ss_cons (sv_set (i := 5) sc_law_right.nd (ev_callB (cr_sortA rfl) ok_sort T.n_sorted bb_sorted (av_cons (ev_call (bs := [true, false, false]) (c_law_part T) hr (by decide) rfl (av_cons (ev_var 0) (av_cons (ev_slice (ev_var 2) ov_none (ov_some ev_int)) (av_cons (ev_call (bs := [true, false]) (c_law_draw T) hr (by decide) rfl (av_cons (ev_var 0) (av_cons ev_int av_nil))) av_nil)))) av_nil)))
      (ss_one (sv_expr (ev_append 3 (av_cons (ev_callTy call_tuple_of ok_tuple T.n_tuple bb_tuple (av_cons (ev_lc (own := [("_law_who", 6)]) (is := [6]) rfl sc_law_right.nd tgN_ok (by decide) (iv_sh (ev_var 5)) (blkOk_by (own := [("_law_who", 6)]) (N := ["_law_tape_here", "_law_n", "_law_names_here", "_law_circle", "_law_turn", "_law_some", "_law_who", "_law_handed", "_law_kept", "_law_due"]) (sc := defScope s_law_right) (by decide +kernel)) (fun _ _ _ _ _ => (pg_name (i := 6) sc_law_right.nd rfl (by first | exact Or.inl rfl | exact Or.inr rfl))) (fun _ _ _ _ _ => tvs_nil) (fun _ _ _ _ _ => (ev_tup (av_cons (ev_var 6) (av_cons (ev_call (bs := [true, false, false]) (c_law_work_of T) hr (by decide) rfl (av_cons (ev_var 0) (av_cons (ev_var 1) (av_cons (ev_sub_ix hr (ev_var 1) ev_str) av_nil)))) av_nil))))) av_nil)) av_nil))))))
      (ss_cons (sv_if (wv_tv (wv_and (tv_cmp (op_neA hr) ok_ne (ev_var 3) (ev_lst av_nil) (nomark _)) (wv_and1 (tv_cmp (op_eqA hr) ok_eq (ev_call (bs := [true, false]) (c_law_draw T) hr (by decide) rfl (av_cons (ev_var 0) (av_cons ev_int av_nil))) ev_int (nomark _)))))
      (ss_one (sv_sto 3 (ev_sub_ix hr (ev_var 3) ev_int) (ev_neg ev_int)))
      ss_nil)
      (ss_cons (sv_set (i := 7) sc_law_right.nd (ev_sub_ix hr (ev_lst (av_cons (ev_var 3) (av_cons (ev_callTy call_tuple_of ok_tuple T.n_tuple bb_tuple (av_cons (ev_var 3) av_nil)) av_nil))) (ev_call (bs := [true, false]) (c_law_draw T) hr (by decide) rfl (av_cons (ev_var 0) (av_cons ev_int av_nil)))))
      (ss_cons (sv_set (i := 8) sc_law_right.nd (ev_callB (cr_reprG hr T.sys) ok_reprG T.n_repr bb_repr (av_cons (ev_var 7) av_nil)))
      (ss_cons (sv_for (is := [6]) PassesOwn.never rfl tgN_ok (iv_sh (ev_var 2)) (pg_name (i := 6) sc_law_right.nd rfl (by first | exact Or.inl rfl | exact Or.inr rfl))
      (ss_cons (sv_set (i := 9) sc_law_right.nd (ev_call (bs := [false, false]) (c_law_found T) hr (by decide) rfl (av_cons (ev_var 3) (av_cons (ev_var 6) av_nil))))
      (ss_one (sv_if (tv_not (tv_truth (ev_bor (ev_call (bs := [false, false]) (c_law_same T 20) hr (by decide) rfl (av_cons (ev_lst (av_cons (ev_call (bs := [false, false]) (c_find T) hr (by decide) rfl (av_cons (ev_var 7) (av_cons (ev_var 6) av_nil))) (av_cons (ev_callK0 (bs := [false, false]) (ks := ["name", "ring"]) (is := [1, 0]) (c_find T) hr (by decide) rfl (kv_cons (ev_var 6) (kv_cons (ev_var 7) kv_nil)) (fun _ _ _ _ _ _ ws h2 => match ws, h2 with | [_, _], _ => rfl) (by decide) (by decide)) av_nil))) (av_cons (ev_lst (av_cons (ev_var 9) (av_cons (ev_var 9) av_nil))) av_nil))))))
      (ss_one (sv_ret ev_bl))
      ss_nil))))
      (ss_one (sv_ret (ev_cmp (op_eqA hr) ok_eq (ev_callB (cr_reprG hr T.sys) ok_reprG T.n_repr bb_repr (av_cons (ev_var 7) av_nil)) (ev_var 8) (nomark _))))))))))))
theorem c_law {P : Program} {w : World} {K : PySem.W.Frag} {mg : Str → Option Value} {base : Heap} (T : Tx P w K mg) : Cal P w K mg base 23 "law" s_law ["_law_script"] g_law :=
  cal_of (k := 22) (N := ["_law_script", "_law_cells", "_law_k", "_law_tape_here", "_law_turn"]) T.d_law sc_law (fun _ _ _ _ _ _ us hl => match us, hl with | [_], _ => rfl) (fun f cdv A outer s H E hr =>
      (ss_cons (sv_set (i := 1) sc_law.nd (ev_call (bs := [false, false]) (c_law_folded T) hr (by decide) rfl (av_cons (ev_var 0) (av_cons ev_int av_nil))))
      (ss_cons (sv_for (is := [2]) PassesOwn.never rfl tgN_ok (iv_range1 T.n_range (av_cons (ev_callB (call_max2 rfl) ok_max T.n_max bb_max (av_cons ev_int (av_cons (ev_callB cr_len ok_len T.n_len bb_len (av_cons (ev_var 1) av_nil)) av_nil))) av_nil)) (pg_name (i := 2) sc_law.nd rfl (by first | exact Or.inl rfl | exact Or.inr rfl))
      (ss_cons (sv_set (i := 3) sc_law.nd (ev_call (bs := [false, false]) (c_law_tape T) hr (by decide) rfl (av_cons (ev_var 1) (av_cons (ev_var 2) av_nil))))
      (ss_one (sv_if (tv_not (tv_truth (ev_callB (cr_all rfl) ok_all T.n_all bb_all (av_cons (ev_lc (own := [("_law_turn", 4)]) (is := [4]) rfl sc_law.nd tgN_ok (by decide) (iv_range1 T.n_range (av_cons ev_int av_nil)) (blkOk_by (own := [("_law_turn", 4)]) (N := ["_law_script", "_law_cells", "_law_k", "_law_tape_here", "_law_turn"]) (sc := defScope s_law) (by decide +kernel)) (fun _ _ _ _ _ => (pg_name (i := 4) sc_law.nd rfl (by first | exact Or.inl rfl | exact Or.inr rfl))) (fun _ _ _ _ _ => tvs_nil) (fun _ _ _ _ _ => (ev_call (bs := [true]) (c_law_right T) hr (by decide) rfl (av_cons (ev_var 3) av_nil)))) av_nil))))
      (ss_one (sv_ret ev_bl))
      ss_nil))))
      (ss_one (sv_ret ev_bl)))))
end
end K12
set_option Elab.async false
set_option linter.all false
set_option maxRecDepth 100000
set_option maxHeartbeats 4000000
set_option autoImplicit false
namespace K12
noncomputable section
open PySem PySem.Spec PyProof.Rows L2 Mi
/-! the head: facts by names -/
def dd_find : He.DefD := ⟨("find", none), "find", "find", defArgs s_find, defBody s_find, defScope s_find, [], []⟩
def dd_law_tape : He.DefD := ⟨("_law_tape", none), "_law_tape", "_law_tape", defArgs s_law_tape, defBody s_law_tape, defScope s_law_tape, [], []⟩
def dd_law_draw : He.DefD := ⟨("_law_draw", none), "_law_draw", "_law_draw", defArgs s_law_draw, defBody s_law_draw, defScope s_law_draw, [], []⟩
def dd_law_folded : He.DefD := ⟨("_law_folded", none), "_law_folded", "_law_folded", defArgs s_law_folded, defBody s_law_folded, defScope s_law_folded, [], []⟩
def dd_law_names : He.DefD := ⟨("_law_names", none), "_law_names", "_law_names", defArgs s_law_names, defBody s_law_names, defScope s_law_names, [], []⟩
def dd_law_part : He.DefD := ⟨("_law_part", none), "_law_part", "_law_part", defArgs s_law_part, defBody s_law_part, defScope s_law_part, [], []⟩
def dd_law_same : He.DefD := ⟨("_law_same", none), "_law_same", "_law_same", defArgs s_law_same, defBody s_law_same, defScope s_law_same, [], []⟩
def dd_law_kinds : He.DefD := ⟨("_law_kinds", none), "_law_kinds", "_law_kinds", defArgs s_law_kinds, defBody s_law_kinds, defScope s_law_kinds, [], []⟩
def dd_law_act : He.DefD := ⟨("_law_act", none), "_law_act", "_law_act", defArgs s_law_act, defBody s_law_act, defScope s_law_act, [], []⟩
def dd_law_work_of : He.DefD := ⟨("_law_work_of", none), "_law_work_of", "_law_work_of", defArgs s_law_work_of, defBody s_law_work_of, defScope s_law_work_of, [], []⟩
def dd_law_found : He.DefD := ⟨("_law_found", none), "_law_found", "_law_found", defArgs s_law_found, defBody s_law_found, defScope s_law_found, [], []⟩
def dd_law_right : He.DefD := ⟨("_law_right", none), "_law_right", "_law_right", defArgs s_law_right, defBody s_law_right, defScope s_law_right, [], []⟩
def dd_law : He.DefD := ⟨("law", none), "law", "law", defArgs s_law, defBody s_law, defScope s_law, [], []⟩
def fn : List He.DefD := [dd_find, dd_law_tape, dd_law_draw, dd_law_folded, dd_law_names, dd_law_part, dd_law_same, dd_law_kinds, dd_law_act, dd_law_work_of, dd_law_found, dd_law_right, dd_law]
def cs : List (Str × D) := []
def ks : List (Str × List (Key × D)) := []
def fa : List He.Fa := [.glo "find", .glo "_law_tape", .glo "_law_draw", .glo "_law_folded", .glo "_law_names", .glo "_law_part", .glo "_law_same", .glo "_law_kinds", .glo "_law_act", .glo "_law_work_of", .glo "_law_found", .glo "_law_right", .glo "law", .free "abs", .free "all", .free "bool", .free "enumerate", .free "int", .free "isinstance", .free "len", .free "list", .free "max", .free "range", .free "repr", .free "sorted", .free "str", .free "tuple", .free "zip"]
abbrev R : PySem.W.OpenRow := PySem.W.OpenLaw.row PySem.Challenge.rw_errandchests_k12_works_found_in_rings
abbrev hk : PySem.W.Hook := Mi.hookM 4 fa fn cs ks
def ob (s : PySem.W.SharedT) : Mi.AlM := Mi.obsMG 4 fa fn cs ks (HandSHeadRun.getT s)
theorem ob_eq (s : PySem.W.SharedT) : ob s = hk.obs s.abs := Mi.obsMG_eq (HandSHeadRun.getT_eq s)
def loose : List Str := (["find", "_law_tape", "_law_draw", "_law_folded", "_law_names", "_law_part", "_law_same", "_law_kinds", "_law_act", "_law_work_of", "_law_found", "_law_right"] : List Str)
theorem run (w : World) : HandSHeadRun.RunEq R (PySem.W.view R.prog [14]) hk ob 4000 loose w := by
  intro os
  kernel_rfl
theorem tx_of {P : Program} {w : World} {K : PySem.W.Frag} {h : Heap} {mg : Str → Option Value} (X : K.In h) (G : h.Ns mainGlobals mg) (c : SaysM fa fn cs ks w K) : Tx P w K mg where
  d_find := (c.d.def_ 0 (d := dd_find) rfl).elim fun fd F => ⟨_, fd, F, He.glo_ok X G (c.d.fact 0 (f := .glo "find") rfl)⟩
  d_law_tape := (c.d.def_ 1 (d := dd_law_tape) rfl).elim fun fd F => ⟨_, fd, F, He.glo_ok X G (c.d.fact 1 (f := .glo "_law_tape") rfl)⟩
  d_law_draw := (c.d.def_ 2 (d := dd_law_draw) rfl).elim fun fd F => ⟨_, fd, F, He.glo_ok X G (c.d.fact 2 (f := .glo "_law_draw") rfl)⟩
  d_law_folded := (c.d.def_ 3 (d := dd_law_folded) rfl).elim fun fd F => ⟨_, fd, F, He.glo_ok X G (c.d.fact 3 (f := .glo "_law_folded") rfl)⟩
  d_law_names := (c.d.def_ 4 (d := dd_law_names) rfl).elim fun fd F => ⟨_, fd, F, He.glo_ok X G (c.d.fact 4 (f := .glo "_law_names") rfl)⟩
  d_law_part := (c.d.def_ 5 (d := dd_law_part) rfl).elim fun fd F => ⟨_, fd, F, He.glo_ok X G (c.d.fact 5 (f := .glo "_law_part") rfl)⟩
  d_law_same := (c.d.def_ 6 (d := dd_law_same) rfl).elim fun fd F => ⟨_, fd, F, He.glo_ok X G (c.d.fact 6 (f := .glo "_law_same") rfl)⟩
  d_law_kinds := (c.d.def_ 7 (d := dd_law_kinds) rfl).elim fun fd F => ⟨_, fd, F, He.glo_ok X G (c.d.fact 7 (f := .glo "_law_kinds") rfl)⟩
  d_law_act := (c.d.def_ 8 (d := dd_law_act) rfl).elim fun fd F => ⟨_, fd, F, He.glo_ok X G (c.d.fact 8 (f := .glo "_law_act") rfl)⟩
  d_law_work_of := (c.d.def_ 9 (d := dd_law_work_of) rfl).elim fun fd F => ⟨_, fd, F, He.glo_ok X G (c.d.fact 9 (f := .glo "_law_work_of") rfl)⟩
  d_law_found := (c.d.def_ 10 (d := dd_law_found) rfl).elim fun fd F => ⟨_, fd, F, He.glo_ok X G (c.d.fact 10 (f := .glo "_law_found") rfl)⟩
  d_law_right := (c.d.def_ 11 (d := dd_law_right) rfl).elim fun fd F => ⟨_, fd, F, He.glo_ok X G (c.d.fact 11 (f := .glo "_law_right") rfl)⟩
  d_law := (c.d.def_ 12 (d := dd_law) rfl).elim fun fd F => ⟨_, fd, F, He.glo_ok X G (c.d.fact 12 (f := .glo "law") rfl)⟩
  n_abs := He.free_ok X G (c.d.fact 13 (f := .free "abs") rfl)
  n_all := He.free_ok X G (c.d.fact 14 (f := .free "all") rfl)
  n_bool := He.free_ok X G (c.d.fact 15 (f := .free "bool") rfl)
  n_enumerate := He.free_ok X G (c.d.fact 16 (f := .free "enumerate") rfl)
  n_int := He.free_ok X G (c.d.fact 17 (f := .free "int") rfl)
  n_isinstance := He.free_ok X G (c.d.fact 18 (f := .free "isinstance") rfl)
  n_len := He.free_ok X G (c.d.fact 19 (f := .free "len") rfl)
  n_list := He.free_ok X G (c.d.fact 20 (f := .free "list") rfl)
  n_max := He.free_ok X G (c.d.fact 21 (f := .free "max") rfl)
  n_range := He.free_ok X G (c.d.fact 22 (f := .free "range") rfl)
  n_repr := He.free_ok X G (c.d.fact 23 (f := .free "repr") rfl)
  n_sorted := He.free_ok X G (c.d.fact 24 (f := .free "sorted") rfl)
  n_str := He.free_ok X G (c.d.fact 25 (f := .free "str") rfl)
  n_tuple := He.free_ok X G (c.d.fact 26 (f := .free "tuple") rfl)
  n_zip := He.free_ok X G (c.d.fact 27 (f := .free "zip") rfl)
  sys := c.sys
end
end K12
set_option Elab.async false
set_option linter.all false
set_option maxRecDepth 100000
set_option maxHeartbeats 1000000
namespace K12
noncomputable section
open Mi PySem Cm
theorem dc_inv {tg : D → En → Option En} {tt : MT} {tk tv : ME} {vs : List Nat} {Q : List (L2.Key × D) → En → Prop} (I : List D → List (L2.Key × D) → En → Prop) {ds : List D} {acc : List (L2.Key × D)} {ρ : En} (h0 : I ds acc ρ)
    (step : ∀ d ds acc ρ, I (d :: ds) acc ρ → ok (tg d ρ) fun ρ1 => wp tt ρ1 fun c ρ2 => br c (wp tk ρ2 fun r ρ3 => ok (peek ρ3 r) fun kd => ok (keyD kd) fun kk => wp tv ρ3 fun q ρ4 => ok (shr ρ4 q) fun p => acc.length < sizeLine ∧ I ds (putD acc kk p.1) (wipeR p.2 vs)) (I ds acc (wipeR ρ2 vs)))
    (done : ∀ acc ρ, I [] acc ρ → Q acc ρ) : wp (dcL tg tt tk tv vs ds acc) ρ Q := by
  induction ds generalizing ρ acc with
  | nil => exact done acc ρ h0
  | cons d ds ih =>
    rw [dc_cons]
    refine ok_mono (step d ds acc ρ h0) fun ρ1 h => wp_mono h fun c ρ2 h => ⟨fun e => wp_mono (h.1 e) fun r ρ3 h => ok_mono h fun kd h => ok_mono h fun kk h => wp_mono h fun q ρ4 h => ok_mono h fun p h => ⟨h.1, ih h.2⟩, fun e => ih (h.2 e)⟩
/-! ### rings -/
abbrev Bk := List (List Nat × List Ac)
def encP (p : List Nat × List Ac) : D := .tup [.str (S p.1), .tup (p.2.map encAc)]
def encB (b : Bk) : D := .tup (b.map encP)
structure BkOk (b : Bk) : Prop where
  len : b.length ≤ 8
  nm : ∀ p ∈ b, NameL p.1
  wk : ∀ p ∈ b, p.2.length ≤ 8 ∧ ∀ a ∈ p.2, AcOk a
  nd : (b.map (·.1)).Nodup
def lookB (b : Bk) (nm : List Nat) : Option (List Ac) := (b.find? fun p => decide (p.1 = nm)).map (·.2)
def findFrom (nm : List Nat) : Nat → List Bk → Option (Nat × List Ac)
  | _, [] => none
  | i, b :: cs => match lookB b nm with
    | some w => some (i, w)
    | none => findFrom nm (i + 1) cs
def encFd : Option (Nat × List Ac) → D
  | none => .non
  | some (i, w) => .tup [.int i, .tup (w.map encAc)]
def kvW (b : Bk) : List (L2.Key × D) := b.map fun p => (.inr (S p.1), .tup (p.2.map encAc))
theorem val_kvW (b : Bk) (nm : List Nat) : valD (kvW b) (.inr (S nm)) = (lookB b nm).map fun w => .tup (w.map encAc) := by
  induction b with
  | nil => rfl
  | cons p b ih =>
    by_cases h : p.1 = nm
    · simp [valD, kvW, lookB, h]
    · have e1 : valD (kvW (p :: b)) (.inr (S nm)) = valD (kvW b) (.inr (S nm)) := by simp [valD, kvW, h]
      have e2 : lookB (p :: b) nm = lookB b nm := by simp [lookB, h]
      rw [e1, e2, ih]
theorem put_kvW {a : Bk} {p : List Nat × List Ac} (h : p.1 ∉ a.map (·.1)) : putD (kvW a) (.inr (S p.1)) (.tup (p.2.map encAc)) = kvW (a ++ [p]) := by
  have h1 : ((kvW a).any fun kv => decide (kv.1 = (.inr (S p.1) : L2.Key))) = false := by
    rw [List.any_eq_false]
    intro x hx
    obtain ⟨q, hq, rfl⟩ := List.mem_map.mp hx
    have : q.1 ≠ p.1 := fun e => h (e ▸ List.mem_map_of_mem hq)
    simp [this]
  unfold putD
  rw [h1]
  simp [kvW]
theorem dict_w {b : Bk} (hb : BkOk b) {w0 w1 w2 w3 w4 : Option W} {Q : List (L2.Key × D) → En → Prop} (k : Q (kvW b) [w0, w1, w2, w3, w4, none, none]) :
    wp (dcL (tgT [5, 6]) mYes (mVar 5) (mVar 6) [5, 6] (b.map encP) []) [w0, w1, w2, w3, w4, none, none] Q := by
  let I : List D → List (L2.Key × D) → En → Prop := fun ds acc ρ => ∃ a c : Bk, b = a ++ c ∧ ds = c.map encP ∧ acc = kvW a ∧ ρ = [w0, w1, w2, w3, w4, none, none]
  refine dc_inv I ⟨[], b, rfl, rfl, rfl, rfl⟩ ?_ ?_
  · rintro e es acc ρ ⟨a, c, hac, hd, rfl, rfl⟩
    rcases c with _ | ⟨p, c⟩
    · cases hd
    simp at hd
    obtain ⟨rfl, rfl⟩ := hd
    have hl := hb.len
    have hnd := hb.nd
    rw [hac] at hl hnd
    simp at hl
    have np : p.1 ∉ a.map (·.1) := fun hm => by
      rw [List.map_append, List.map_cons] at hnd
      exact (List.nodup_append.mp hnd).2.2 _ hm _ (by simp) rfl
    have ky : keyD (.str (S p.1)) = some (.inr (S p.1)) := rfl
    simp [encP, tgT, ky]
    refine ⟨by simp [kvW]; omega, a ++ [p], c, by simpa using hac, rfl, put_kvW np, rfl⟩
  · rintro acc ρ ⟨a, c, hac, hd, rfl, rfl⟩
    have : c = [] := by cases c with | nil => rfl | cons a b => cases hd
    subst this
    simp at hac
    subst hac
    exact k
end
end K12
set_option Elab.async false
set_option linter.all false
set_option maxRecDepth 100000
set_option maxHeartbeats 1000000
namespace K12
noncomputable section
open Mi PySem Cm
theorem in_kvW (b : Bk) (nm : List Nat) : inD (.str (S nm)) (.dic (kvW b)) = some (.sh (.bl (lookB b nm).isSome)) := by
  have e : inB (.str (S nm)) (.dic (kvW b)) = some (lookB b nm).isSome := by
    show (match keyD (.str (S nm)) with | some k => some (valD (kvW b) k).isSome | none => none) = _
    show some (valD (kvW b) (.inr (S nm))).isSome = _
    rw [val_kvW]
    cases lookB b nm <;> rfl
  unfold inD inA
  rw [e]; rfl
@[simp] theorem w_iEnW {l : MA} {ρ : En} {QI : List D → En → Prop} : wp (iEnW l) ρ QI = wp l ρ fun rs ρ1 => ok (shrs ρ1 rs) fun p => ok (oneD p.1) fun d => ok (enW d) fun zs => QI zs p.2 := by
  unfold wp iEnW
  rcases l ρ with _ | ⟨rs, ρ1⟩ <;> try rfl
  show okP (match shrs ρ1 rs with | some ([d], ρ2) => _ | _ => none) _ = ok (shrs ρ1 rs) _
  rcases shrs ρ1 rs with _ | ⟨_ | ⟨d, _ | ⟨_, _⟩⟩, ρ2⟩ <;> try rfl
  show okP (match enW d with | some zs => _ | none => none) _ = ok (enW d) _
  rcases enW d with _ | z <;> rfl
/-- a ring as a list or a tuple -/
def IsR (cs : List Bk) (r : D) : Prop := r = .lst (cs.map encB) ∨ r = .tup (cs.map encB)
theorem IsR.en {cs : List Bk} {r : D} (h : IsR cs r) : enW r = some (dEnum 0 (cs.map encB)) := by rcases h with rfl | rfl <;> rfl
theorem find_w {cs : List Bk} (hcs : ∀ b ∈ cs, BkOk b) {r : D} (hr : IsR cs r) (nm : List Nat) {Q : Rs × List W → Prop} (k : Q (.sh (encFd (findFrom nm 0 cs)), [⟨false,false,r⟩, ⟨false,false,.str (S nm)⟩])) : ok (g_find [⟨false,false,r⟩, ⟨false,false,.str (S nm)⟩]) Q := by
  rw [g_find, w_gOf, b_find]
  simp [hr.en]
  let I : List D → En → Prop := fun ds ρ => ∃ (i : Nat) (c : List Bk) (x2 x3 x4 : Option W), ds = dEnum i (c.map encB) ∧ (∀ b ∈ c, BkOk b) ∧ findFrom nm 0 cs = findFrom nm i c ∧ pinned (some x2) = false ∧ pinned (some x3) = false ∧ pinned (some x4) = false ∧
    ρ = [some ⟨false,false,r⟩, some ⟨false,false,.str (S nm)⟩, x2, x3, x4, none, none]
  refine fo_inv I ⟨0, cs, none, none, none, rfl, hcs, rfl, rfl, rfl, rfl, rfl⟩ ?_ ?_
  · rintro e es ρ ⟨i, c, x2, x3, x4, hd, hc, hf, h2, h3, h4, rfl⟩
    rcases c with _ | ⟨b, c⟩
    · cases hd
    simp [dEnum] at hd
    obtain ⟨rfl, rfl⟩ := hd
    have hb := hc b (by simp)
    simp [tgT, h2, h3, encB]
    refine dict_w hb ?_
    simp [h4, in_kvW]
    refine ⟨fun q => ?_, fun q => ?_⟩
    · obtain ⟨w, hw⟩ := Option.isSome_iff_exists.mp q
      have hv := val_kvW b nm
      rw [hw] at hv
      simp at hv
      simp [hv]
      have : findFrom nm i (b :: c) = some (i, w) := by simp [findFrom, hw]
      rw [hf, this] at k
      exact k
    · have hn : lookB b nm = none := by
        cases z : lookB b nm
        · rfl
        · rw [z] at q; cases q
      simp
      exact ⟨i + 1, c, _, _, _, rfl, fun b' hb' => hc b' (by simp [hb']), by rw [hf]; simp [findFrom, hn], rfl, rfl, rfl, rfl⟩
  · rintro ρ ⟨i, c, x2, x3, x4, hd, hc, hf, h2, h3, h4, rfl⟩
    have : c = [] := by
      cases c with
      | nil => rfl
      | cons a b => simp [dEnum] at hd
    subst this
    simp
    rw [hf] at k
    exact k
end
end K12
set_option Elab.async false
set_option linter.all false
set_option maxRecDepth 100000
set_option maxHeartbeats 1000000
namespace K12
noncomputable section
open Mi PySem Cm
theorem ne_nilL {ds : List D} (h : plBs ds = true) (hd : dpts ds ≤ 60) : neD (.lst ds) (.lst []) = some (.sh (.bl (!decide (ds = [])))) := by
  obtain ⟨ps, e1, e2, e3⟩ := pl_lays ds h
  have a : toP (.lst ds) = some (.list ps) := by show (toPs ds).map PyData.list = _; rw [e1]; rfl
  have b : toP (.lst []) = some (.list []) := rfl
  have c : SeqAt.shaped (.list ps) = true := by
    simp [SeqAt.shaped, PyData.canLay0, e2, PyData.depth]; omega
  have f : SeqAt.shaped (.list []) = true := by decide
  show (eqB (.lst ds) (.lst [])).map _ = _
  have g : eqB (.lst ds) (.lst []) = some (decide (ds = [])) := by
    show eqP _ _ = _
    unfold eqP
    rw [a, b]
    simp only [c, f]
    rcases ds with _ | ⟨d, ds⟩
    · have : ps = [] := by simpa [toPs] using e1.symm
      subst this; rfl
    · have : ∃ p r, ps = p :: r := by
        rcases ps with _ | ⟨p, r⟩
        · exfalso
          have e1' : (match toP d, toPs ds with | some p, some ps => some (p :: ps) | _, _ => none) = some [] := e1
          split at e1' <;> cases e1'
        · exact ⟨p, r, rfl⟩
      obtain ⟨p, r, rfl⟩ := this
      rfl
  rw [g]; rfl
theorem wk_gp {w : List Ac} (h : w.length ≤ 8 ∧ ∀ a ∈ w, AcOk a) : Gp 1000 4100 2 (.tup (w.map encAc)) := by
  refine (gp_tups (m := 500) (n := 1) (L := 8) (fun y hy => ?_) (by simpa using h.1)).mono (Int.le_refl _) (by omega) (by omega)
  obtain ⟨z, hz, rfl⟩ := List.mem_map.mp hy
  exact ac_gp (h.2 z hz)
def wsB (b : Bk) (nm : List Nat) : List (List Ac) := (b.filter fun p => decide (p.1 = nm)).map (·.2)
theorem look_ws (b : Bk) (nm : List Nat) : lookB b nm = (wsB b nm).head? := by
  induction b with
  | nil => rfl
  | cons p b ih =>
    by_cases h : p.1 = nm
    · simp [lookB, wsB, h]
    · have e1 : lookB (p :: b) nm = lookB b nm := by simp [lookB, h]
      have e2 : wsB (p :: b) nm = wsB b nm := by simp [wsB, h]
      rw [e1, e2, ih]
def encWk (w : List Ac) : D := .tup (w.map encAc)
theorem enL_app (A : List Bk) (b : Bk) : enL 0 ((A ++ [b]).map encB) = enL 0 (A.map encB) ++ [.tup [.int A.length, encB b]] := by
  simp [enL, List.zipIdx_append]
theorem lfound_w {cs : List Bk} (hcs : ∀ b ∈ cs, BkOk b) (hl : cs.length ≤ 100) (nm : List Nat) {Q : Rs × List W → Prop} (k : Q (.sh (encFd (findFrom nm 0 cs)), [⟨false,false,.lst (cs.map encB)⟩, ⟨false,false,.str (S nm)⟩])) : ok (g_law_found [⟨false,false,.lst (cs.map encB)⟩, ⟨false,false,.str (S nm)⟩]) Q := by
  rw [g_law_found, w_gOf, b_law_found]
  simp
  let I : List D → En → Prop := fun ds ρ => ∃ (A B : List Bk) (x3 x4 x5 : Option W), cs = A ++ B ∧ ds = (enL 0 (A.map encB)).reverse ∧ pinned (some x3) = false ∧ pinned (some x4) = false ∧ pinned (some x5) = false ∧
    ρ = [some ⟨false,false,.lst (cs.map encB)⟩, some ⟨false,false,.str (S nm)⟩, some ⟨false,false,encFd (findFrom nm A.length B)⟩, x3, x4, x5, none, none]
  refine fo_inv I ⟨cs, [], none, none, none, by simp, rfl, rfl, rfl, rfl, rfl⟩ ?_ ?_
  · rintro e es ρ ⟨A, B, x3, x4, x5, hAB, hd, h3, h4, h5, rfl⟩
    rcases List.eq_nil_or_concat A with rfl | ⟨A, b, rfl⟩
    · simp [enL] at hd
    rw [List.concat_eq_append] at hAB hd ⊢
    rw [enL_app, List.reverse_append] at hd
    simp at hd
    obtain ⟨rfl, rfl⟩ := hd
    have hb := hcs b (by rw [hAB]; simp)
    have hbl := hb.len
    simp [tgT, h3, h4, encB]
    let J : List D → List D → En → Prop := fun ds acc ρ => ∃ a c : Bk, b = a ++ c ∧ ds = c.map encP ∧ acc = (wsB a nm).map encWk ∧
      ρ = [some ⟨false,false,.lst (cs.map encB)⟩, some ⟨false,false,.str (S nm)⟩, some ⟨false,false,encFd (findFrom nm (A.length + 1) B)⟩, some ⟨false,false,.int A.length⟩, some ⟨false,false,encB b⟩, x5, none, none]
    refine lc_inv J ?_ ?_ ?_
    · exact ⟨[], b, rfl, rfl, rfl, by simp [encB]⟩
    · rintro e2 es2 acc ρ ⟨a, c, hac, hd2, rfl, rfl⟩
      rcases c with _ | ⟨p, c⟩
      · cases hd2
      simp at hd2
      obtain ⟨rfl, rfl⟩ := hd2
      have hla : (wsB a nm).length ≤ a.length := by simp [wsB]; exact List.length_filter_le _ _
      have hl2 := congrArg List.length hac
      simp at hl2
      simp [encP, tgT]
      refine ⟨fun q => ?_, fun q => ?_⟩
      · simp at q
        simp
        exact ⟨by omega, a ++ [p], c, by simpa using hac, rfl, by simp [wsB, List.filter_append, q, encWk], rfl⟩
      · simp at q
        exact ⟨a ++ [p], c, by simpa using hac, rfl, by simp [wsB, List.filter_append, q], rfl⟩
    · rintro acc ρ ⟨a, c, hac, hd2, rfl, rfl⟩
      have : c = [] := by cases c with | nil => rfl | cons a b => cases hd2
      subst this
      simp at hac
      subst hac
      have hg : ∀ x ∈ (wsB b nm).map encWk, Gp 1000 4100 2 x := fun x hx => by
        obtain ⟨w, hw, rfl⟩ := List.mem_map.mp hx
        obtain ⟨p, hp, rfl⟩ := List.mem_map.mp hw
        exact wk_gp (hb.wk p ((List.mem_filter.mp hp).1))
      have ne := ne_nilL (ds := (wsB b nm).map encWk) (plBs_of fun x hx => plI_B (by omega) _ (hg x hx).pl) (Nat.le_trans (dpts_of fun x hx => (hg x hx).dp) (by omega))
      have lk := look_ws b nm
      have hA : cs = A ++ b :: B := by simpa using hAB
      have fin : ∀ o, o = findFrom nm A.length (b :: B) → ∀ y3 y4 y5 : Option W, pinned (some y3) = false → pinned (some y4) = false → pinned (some y5) = false → I (enL 0 (A.map encB)).reverse [some ⟨false,false,.lst (cs.map encB)⟩, some ⟨false,false,.str (S nm)⟩, some ⟨false,false,encFd o⟩, y3, y4, y5, none, none] := fun o ho y3 y4 y5 g3 g4 g5 =>
        ⟨A, b :: B, y3, y4, y5, hA, rfl, g3, g4, g5, by rw [ho]⟩
      simp [h5, ne]
      refine ⟨fun q => ?_, fun q => ?_⟩
      · simp at q
        rcases hws : wsB b nm with _ | ⟨w, ws⟩
        · exact absurd hws q
        rw [hws] at lk
        simp
        refine fin (some (A.length, w)) ?_ _ _ _ rfl rfl rfl
        simp [findFrom, lk]
      · simp at q
        rw [q] at lk
        simp
        refine fin _ ?_ _ _ _ rfl rfl rfl
        simp [findFrom, lk]
  · rintro ρ ⟨A, B, x3, x4, x5, hAB, hd, h3, h4, h5, rfl⟩
    have : A = [] := by
      rcases List.eq_nil_or_concat A with rfl | ⟨A, b, rfl⟩
      · rfl
      · rw [List.concat_eq_append, enL_app, List.reverse_append] at hd
        simp at hd
    subst this
    simp at hAB
    subst hAB
    simp
    exact k
end
end K12
set_option Elab.async false
set_option linter.all false
set_option maxRecDepth 100000
set_option maxHeartbeats 1000000
namespace K12
noncomputable section
open Mi PySem Cm
theorem bk_gp {b : Bk} (h : BkOk b) : Gp 1000 70000 4 (encB b) := by
  refine (gp_tups (m := 8300) (n := 3) (L := 8) (fun y hy => ?_) (by simpa using h.len)).mono (Int.le_refl _) (by omega) (by omega)
  obtain ⟨p, hp, rfl⟩ := List.mem_map.mp hy
  refine (gp_tups (m := 4100) (n := 2) (L := 2) (fun z hz => ?_) (by simp)).mono (Int.le_refl _) (by omega) (by omega)
  simp at hz
  rcases hz with rfl | rfl
  · exact (gp_str (h.nm p hp).asc (Nat.le_refl _)).mono (Int.le_refl _) (by have := (h.nm p hp).2.1; omega) (by omega)
  · exact wk_gp (h.wk p hp)
theorem ring_gp {cs : List Bk} (h : ∀ b ∈ cs, BkOk b) (hl : cs.length ≤ 4) {r : D} (hr : IsR cs r) : Gp 1000 300000 5 r := by
  have hx : ∀ y ∈ cs.map encB, Gp 1000 70000 4 y := fun y hy => by
    obtain ⟨b, hb, rfl⟩ := List.mem_map.mp hy
    exact bk_gp (h b hb)
  rcases hr with rfl | rfl
  · exact (gp_lsts (m := 70000) (n := 4) (L := 4) hx (by simpa using hl)).mono (Int.le_refl _) (by omega) (by omega)
  · exact (gp_tups (m := 70000) (n := 4) (L := 4) hx (by simpa using hl)).mono (Int.le_refl _) (by omega) (by omega)
theorem look_ok {b : Bk} (h : BkOk b) {nm : List Nat} {w : List Ac} (e : lookB b nm = some w) : w.length ≤ 8 ∧ ∀ a ∈ w, AcOk a := by
  unfold lookB at e
  cases q : b.find? fun p => decide (p.1 = nm) with
  | none => rw [q] at e; cases e
  | some p => rw [q] at e; cases e; exact h.wk p (List.mem_of_find?_eq_some q)
theorem find_ok {nm : List Nat} : ∀ {cs : List Bk} {i : Nat}, (∀ b ∈ cs, BkOk b) → Gp 1000000 5000 3 (encFd (findFrom nm i cs)) ∨ 900000 < i + cs.length
  | [], i, _ => .inl ⟨rfl, by simp [encFd, findFrom, wt], by simp [encFd, findFrom, dpt]⟩
  | b :: cs, i, h => by
    by_cases hi : 900000 < i + (b :: cs).length
    · exact .inr hi
    unfold findFrom
    cases q : lookB b nm with
    | some w =>
      left
      have g := wk_gp (look_ok (h b (by simp)) q)
      simp at hi
      refine (Gp.tup (n := 2) (fun x hx => ?_) (Nat.le_refl _)).mono (Int.le_refl _) ?_ (by omega)
      · simp at hx
        rcases hx with rfl | rfl
        · exact ⟨decide_eq_true (by omega), by simp [dpt]⟩
        · exact ⟨plI_mono (by omega) _ g.pl, g.dp⟩
      · have := g.wt
        simp [wts, wt] at this ⊢
        omega
    | none =>
      rcases find_ok (nm := nm) (cs := cs) (i := i + 1) fun b' hb' => h b' (by simp [hb']) with g | g
      · exact .inl g
      · simp at hi; omega
theorem S_inj {a b : List Nat} (h : S a = S b) : a = b := by simpa using h
theorem nodup_S {ps : List (List Nat)} (h : ps.Nodup) : (ps.map S).Nodup := by
  rw [List.Nodup, List.pairwise_map]
  exact h.imp fun hne e => hne (S_inj e)
theorem sort_names {ps : List (List Nat)} (h : ps.Nodup) : ∃ qs : List (List Nat), sortS (ps.map S) = qs.map S ∧ (∀ q ∈ qs, q ∈ ps) ∧ qs.Nodup ∧ qs.length ≤ ps.length := by
  refine ⟨(sortS (ps.map S)).map (·.cps.toList), ?_, fun q hq => ?_, ?_, ?_⟩
  · rw [List.map_map]
    have : (S ∘ fun x : Str => x.cps.toList) = id := by funext x; cases x; simp [S]
    rw [this, List.map_id]
  · obtain ⟨y, hy, rfl⟩ := List.mem_map.mp hq
    obtain ⟨k, hk, rfl⟩ := sortS_S hy
    simpa [S] using hk
  · have nd : (sortS (ps.map S)).Nodup := by
      unfold sortS
      split
      · rename_i g; exact (g.choose_spec.1.nodup_iff).mpr (nodup_S h)
      · exact List.nodup_nil
    rw [List.Nodup, List.pairwise_map]
    have key : ∀ a b : Str, a.cps.toList = b.cps.toList → a = b := fun a b e => by cases a; cases b; simp at e; simp [e]
    exact nd.imp fun {a b} hne e => hne (key a b e)
  · have := sortS_len (ps.map S)
    simpa using this
theorem part_names {ns : List (List Nat)} (hn : ∀ l ∈ ns, NameL l) (nd : ns.Nodup) {es r : List D} (hp : (es ++ r).Perm (dstr ns)) : ∃ ps : List (List Nat), es = dstr ps ∧ (∀ l ∈ ps, NameL l) ∧ ps.Nodup := by
  have hm : ∀ x ∈ es, ∃ l, x = D.str (S l) ∧ NameL l := fun x hx => by
    have : x ∈ dstr ns := hp.mem_iff.mp (by simp [hx])
    obtain ⟨l, hl, rfl⟩ := List.mem_map.mp this
    exact ⟨l, rfl, hn l hl⟩
  obtain ⟨ps, rfl, hps⟩ := forms (f := fun l => D.str (S l)) (P := NameL) hm
  refine ⟨ps, rfl, hps, ?_⟩
  have nd2 : (dstr ns).Nodup := by
    unfold dstr
    rw [List.Nodup, List.pairwise_map]
    exact nd.imp fun hne e => hne (S_inj (by cases e; rfl))
  have nd3 : (ps.map fun l => D.str (S l)).Nodup := (List.nodup_append.mp ((hp.nodup_iff).mpr nd2)).1
  rw [List.Nodup, List.pairwise_map] at nd3
  exact nd3.imp fun hne e => hne (by rw [e])
end
end K12
set_option Elab.async false
set_option linter.all false
set_option maxRecDepth 100000
set_option maxHeartbeats 1000000
namespace K12
noncomputable section
open Mi PySem Cm
theorem sort_dstr {ps : List (List Nat)} (h : ps.Nodup) (hl : ps.length < 64) : ∃ qs : List (List Nat), sortD [.lst (dstr ps)] = some (.ow (.lst (dstr qs))) ∧ (∀ q ∈ qs, q ∈ ps) ∧ qs.Nodup ∧ qs.length ≤ ps.length := by
  obtain ⟨qs, e, h1, h2, h3⟩ := sort_names h
  refine ⟨qs, ?_, h1, h2, h3⟩
  show (match strsD (dstr ps) with | some ks => if ks.length < 64 then some (Rs.ow (.lst ((sortS ks).map .str))) else none | none => none) = _
  have : strsD (dstr ps) = some (ps.map S) := strsD_S ps
  rw [this]
  simp [hl, e, dstr]
theorem right_w {s : Nat} {d : D} {Q : Rs × List W → Prop} (h : Tp s d) (hs : 4000 ≤ s) (k : ∀ d', Tp (s - 4000) d' → Q (.sh (.bl true), [⟨true,true,d'⟩])) : ok (g_law_right [⟨true,true,d⟩]) Q := by
  rw [g_law_right, w_gOf, b_law_right]
  simp
  refine kinds_w h (by omega) fun n d1 t1 hn => ?_
  obtain ⟨sl1, sl2⟩ := hn.slots
  simp
  refine namesN_w t1 (by omega) (by omega) (by omega) fun ns d2 t2 nl nn nnd => ?_
  simp
  refine draw_w t2 (by omega) (by omega) (by omega) fun v d3 t3 v0 v1 => ?_
  simp
  refine ⟨by omega, ?_⟩
  have c8 : cutA (dstr ns) none (some 8) = dstr (ns.take 8) := by
    have := cutA_to (dstr ns) 8
    rw [dstr_take] at this
    exact this
  let I : Nat → En → Prop := fun i ρ => ∃ (d' : D) (b1 : Bool) (cs : List Bk) (x4 x5 : Option W), Tp (s - 3900 + 900 * i) d' ∧ (∀ b ∈ cs, BkOk b) ∧ cs.length + i ≤ 4 ∧ pinned (some x4) = false ∧ pinned (some x5) = false ∧
    ρ = [some ⟨true,true,d'⟩, some ⟨b1,false,.dic (kvN n)⟩, some ⟨true,false,.lst (dstr ns)⟩, some ⟨true,false,.lst (cs.map encB)⟩, x4, x5, none, none, none, none]
  refine fo_n I ⟨d3, true, [], none, none, t3.mono (by simp [dRange]; omega), by simp, by simp [dRange]; omega, rfl, rfl, rfl⟩ ?_ ?_
  · rintro e i ρ _ ⟨d4, b1, cs, x4, x5, t4, hcs, hcl, h4, h5, rfl⟩
    simp [h4]
    refine draw_w t4 (by omega) (by omega) (by omega) fun v d5 t5 v0 v1 => ?_
    simp
    rw [c8]
    refine part_w v0 (by simp; omega) (by simp; omega) t5 (by omega) fun es r d6 t6 el hp => ?_
    obtain ⟨ps, rfl, hps, pnd⟩ := part_names (fun l hl => nn l (List.mem_of_mem_take hl)) (nnd.sublist (List.take_sublist 8 ns)) hp
    simp at el
    obtain ⟨qs, eq, hqs, qnd, ql⟩ := sort_dstr pnd (by omega)
    simp [eq, h5]
    let J : List D → List D → En → Prop := fun ds acc ρ => ∃ (A B : List (List Nat)) (bk : Bk) (d7 : D) (b1 : Bool), qs = A ++ B ∧ ds = dstr B ∧ bk.map (·.1) = A ∧ (∀ p ∈ bk, p.2.length ≤ 8 ∧ ∀ a ∈ p.2, AcOk a) ∧ acc = bk.map encP ∧ Tp (s - 3900 + 900 * i + 10 + 90 * B.length) d7 ∧
      ρ = [some ⟨true,true,d7⟩, some ⟨b1,false,.dic (kvN n)⟩, some ⟨true,false,.lst (dstr ns)⟩, some ⟨true,false,.lst (cs.map encB)⟩, some ⟨false,false,e⟩, some ⟨false,false,.lst (dstr qs)⟩, none, none, none, none]
    refine lc_inv J ⟨[], qs, [], d6, b1, rfl, rfl, rfl, by simp, rfl, t6.mono (by omega), rfl⟩ ?_ ?_
    · rintro e2 es2 acc ρ ⟨A, B, bk, d7, b1, hAB, hd, hbm, hbw, rfl, t6, rfl⟩
      rcases B with _ | ⟨q, B⟩
      · cases hd
      simp [dstr] at hd
      obtain ⟨rfl, rfl⟩ := hd
      have hql := congrArg List.length hAB
      have hbl := congrArg List.length hbm
      simp at hql hbl t6
      cases b1
      · simp
        refine work_w hn sl2 (by omega) t6 (by omega) fun as d7 t7 al1 al2 has => ?_
        simp
        refine ⟨by omega, A ++ [q], B, bk ++ [(q, as)], d7, false, by simpa using hAB, rfl, by simp [hbm], ?_, by simp [encP], t7.mono (by omega), rfl⟩
        intro p hp
        simp at hp
        rcases hp with hp | rfl
        · exact hbw p hp
        · exact ⟨al2, has⟩
      · simp
        refine work_w hn sl2 (by omega) t6 (by omega) fun as d7 t7 al1 al2 has => ?_
        simp
        refine ⟨by omega, A ++ [q], B, bk ++ [(q, as)], d7, false, by simpa using hAB, rfl, by simp [hbm], ?_, by simp [encP], t7.mono (by omega), rfl⟩
        intro p hp
        simp at hp
        rcases hp with hp | rfl
        · exact hbw p hp
        · exact ⟨al2, has⟩
    · rintro acc ρ ⟨A, B, bk, d7, b1, hAB, hd, hbm, hbw, rfl, t7, rfl⟩
      have : B = [] := by cases B with | nil => rfl | cons a b => cases hd
      subst this
      simp at hAB t7
      have hbl := congrArg List.length hbm
      simp at hbl
      have hb : BkOk bk := ⟨by rw [hbl, ← hAB]; omega, fun p hp => hps _ (hqs _ (by rw [hAB, ← hbm]; exact List.mem_map_of_mem hp)), hbw, by rw [hbm, ← hAB]; exact qnd⟩
      simp
      refine ⟨by omega, d7, b1, cs ++ [bk], some ⟨false,false,e⟩, some ⟨false,false,.lst (dstr qs)⟩, t7.mono (by omega), fun b hb' => ?_, by simp; omega, rfl, rfl, by simp [encB]⟩
      simp at hb'
      rcases hb' with hb' | rfl
      · exact hcs b hb'
      · exact hb
  · rintro ρ ⟨d4, b1, cs, x4, x5, t4, hcs, hcl, h4, h5, rfl⟩
    simp at t4
    have hg : ∀ x ∈ cs.map encB, Gp 1000 70000 4 x := fun x hx => by
      obtain ⟨b, hb, rfl⟩ := List.mem_map.mp hx
      exact bk_gp (hcs b hb)
    have ne := ne_nilL (ds := cs.map encB) (plBs_of fun x hx => plI_B (by omega) _ (hg x hx).pl) (Nat.le_trans (dpts_of fun x hx => (hg x hx).dp) (by omega))
    simp [ne, -w_sIf]
    let C : Out → En → Prop := fun o ρ => o = .nx ∧ ∃ (d5 : D) (cs : List Bk), Tp (s - 3930) d5 ∧ (∀ b ∈ cs, BkOk b) ∧ cs.length ≤ 4 ∧ ρ = [some ⟨true,true,d5⟩, some ⟨b1,false,.dic (kvN n)⟩, some ⟨true,false,.lst (dstr ns)⟩, some ⟨true,false,.lst (cs.map encB)⟩, x4, x5, none, none, none, none]
    refine wp_cut C ?_ ?_
    · simp [ne]
      refine ⟨fun q => ?_, fun q => ?_⟩
      · simp at q
        rcases cs with _ | ⟨c0, cs⟩
        · exact absurd rfl q
        simp
        refine draw_w t4 (by omega) (by omega) (by omega) fun v d5 t5 v0 v1 => ?_
        simp
        refine ⟨fun q => ?_, fun q => ?_⟩
        · simp
          simp at hcl
          have ix : L2.ixN (cs.length + 1) (-1) = some cs.length := by
            unfold L2.ixN
            simp
            omega
          rw [ix]
          simp
          refine ⟨rfl, d5, (c0 :: cs).set cs.length c0, t5.mono (by omega), fun b hb => ?_, by simp; omega, by simp⟩
          rcases List.mem_or_eq_of_mem_set hb with h | rfl
          · exact hcs b h
          · exact hcs b (by simp)
        · simp
          exact ⟨rfl, d5, c0 :: cs, t5.mono (by omega), hcs, by omega, by simp⟩
      · simp
        exact ⟨rfl, d4, cs, t4.mono (by omega), hcs, by omega, rfl⟩
    rintro o ρ ⟨rfl, d5, cs, t5, hcs, hcl, rfl⟩
    simp
    refine draw_w t5 (by omega) (by omega) (by omega) fun v d6 t6 v0 v1 => ?_
    simp
    refine ok_at v0 (by simpa using v1) fun z hz => ?_
    have hr : IsR cs z := by simpa [IsR] using hz
    have g := ring_gp hcs hcl hr
    obtain ⟨zr, hzr⟩ := (pl_rp (plI_B (by omega) _ g.pl)).repr (by have := g.wt; omega) (by have := g.dp; omega)
    simp [hzr]
    let I : List D → En → Prop := fun ds ρ => ∃ (x6 x9 : Option W), (∀ x ∈ ds, ∃ nm, x = .str (S nm)) ∧ pinned (some x6) = false ∧ pinned (some x9) = false ∧
      ρ = [some ⟨true,true,d6⟩, some ⟨b1,false,.dic (kvN n)⟩, some ⟨false,false,.lst (dstr ns)⟩, some ⟨false,false,.lst (cs.map encB)⟩, x4, x5, x6, some ⟨false,false,z⟩, some ⟨false,false,.str zr⟩, x9]
    refine fo_inv I ⟨none, none, fun x hx => ?_, rfl, rfl, rfl⟩ ?_ ?_
    · obtain ⟨l, _, rfl⟩ := List.mem_map.mp hx
      exact ⟨l, rfl⟩
    · rintro e es ρ ⟨x6, x9, he, h6, h9, rfl⟩
      obtain ⟨nm, rfl⟩ := he e (by simp)
      simp [h6]
      refine lfound_w hcs (by omega) nm ?_
      simp [h9]
      refine find_w hcs hr nm ?_
      simp
      refine find_w hcs hr nm ?_
      simp
      rcases find_ok (nm := nm) (cs := cs) (i := 0) hcs with gf | gf
      · have sd : Sd 20 (.lst [encFd (findFrom nm 0 cs), encFd (findFrom nm 0 cs)]) := by
          have gg := gp_lsts (ds := [encFd (findFrom nm 0 cs), encFd (findFrom nm 0 cs)]) (L := 2) (fun y hy => by simp at hy; subst hy; exact gf) (by simp)
          exact pl_sd 20 (plI_B (by omega) _ gg.pl) (by have := gg.dp; omega) (by have := gg.wt; omega)
        generalize D.lst [encFd (findFrom nm 0 cs), encFd (findFrom nm 0 cs)] = dd at sd ⊢
        refine same_w 20 sd ?_
        simp
        exact ⟨_, _, fun x hx => he x (by simp [hx]), rfl, rfl, rfl⟩
      · omega
    · rintro ρ ⟨x6, x9, he, h6, h9, rfl⟩
      simp [hzr]
      exact k _ (t6.mono (by omega))
end
end K12
set_option Elab.async false
set_option linter.all false
set_option maxRecDepth 100000
set_option maxHeartbeats 1000000
namespace K12
noncomputable section
open Mi PySem Cm
theorem law_true (ns : List Int) (hl : ns.length ≤ 63) : ∃ ws, g_law [script ns] = some (.sh (.bl true), ws) := by
  suffices h : ok (g_law [script ns]) fun x => x.1 = .sh (.bl true) by
    obtain ⟨⟨r, ws⟩, e, hr⟩ := ok_ex h
    simp only at hr
    subst hr
    exact ⟨ws, e⟩
  rw [g_law, w_gOf, b_law]
  simp
  refine folded_w ns (by omega) (by omega) hl fun cs h1 h2 => ?_
  simp
  generalize hm : (if 1 < (cs.length : Int) then (cs.length : Int) else 1) = m
  have hm2 : m ≤ 63 ∧ 0 ≤ m := by split at hm <;> omega
  refine ⟨by omega, ?_⟩
  let I : List D → En → Prop := fun ds ρ => ∃ (b : Bool) (x2 x3 : Option W), (∀ x ∈ ds, ∃ k : Nat, x = .int k ∧ k < 64) ∧ pinned (some x2) = false ∧ pinned (some x3) = false ∧
    ρ = [some (script ns), some ⟨b, false, .lst (cs.map .int)⟩, x2, x3, none]
  refine fo_inv I ?_ ?_ ?_
  · exact ⟨true, none, none, fun x hx => by
      simp [dRange] at hx
      obtain ⟨k, hk, rfl⟩ := hx
      exact ⟨k, by simp, by omega⟩, rfl, rfl, rfl⟩
  · rintro e es ρ ⟨b, x2, x3, he, h2, h3, rfl⟩
    obtain ⟨kk, rfl, hk⟩ := he e (by simp)
    simp [h2]
    have : ∀ (d : D), Tp 1099511627776 d → True := fun _ _ => trivial
    cases b
    all_goals
      refine tapeX_w cs (by omega) (by omega) fun d1 t1 => ?_
      simp [h3]
      let J : Nat → En → Prop := fun n ρ => ∃ d2, Tp (4000 * n) d2 ∧ ρ = [some (script ns), some ⟨false, false, .lst (cs.map .int)⟩, some ⟨false, false, .int kk⟩, some ⟨true, false, d2⟩, none]
      refine lc_n J (fun x => x = .bl true) (by simp [dRange]) ⟨d1, t1.mono (by simp [dRange]), rfl⟩ ?_ ?_
      · rintro d n ρ _ ⟨d2, t2, rfl⟩
        simp
        refine right_w t2 (by omega) fun d3 t3 => ?_
        simp
        exact ⟨d3, t3.mono (by omega), rfl⟩
      · rintro acc ρ _ ha ⟨d2, t2, rfl⟩
        have ea := all_true ha
        simp [-allD_l, ea]
        exact ⟨_, _, _, fun x hx => he x (by simp [hx]), rfl, rfl, rfl⟩
  · rintro ρ ⟨b, x2, x3, he, h2, h3, rfl⟩
    simp
end
end K12
set_option Elab.async false
set_option linter.all false
set_option maxRecDepth 100000
set_option maxHeartbeats 0
open PySem PySem.W PySem.Calls PyProof.Rows
theorem PySem.Challenge.cw_errandchests_k12_works_found_in_rings_holds : PySem.Challenge.rw_errandchests_k12_works_found_in_rings.Holds := by
  w_on; o_law
  refine HandSHeadRun.head_any (r := OpenLaw.row PySem.Challenge.rw_errandchests_k12_works_found_in_rings) (q := view (OpenLaw.row PySem.Challenge.rw_errandchests_k12_works_found_in_rings).prog [14]) (H := K12.hk) (ob := K12.ob) (M := 4000) (loose := K12.loose) (d := HandSHeadRun.topDef (OpenLaw.row PySem.Challenge.rw_errandchests_k12_works_found_in_rings).prog 14) (kwd := []) K12.ob_eq
    (by kernel_rfl) (fun s => by kernel_rfl) K12.run (by kernel_rfl) (by kernel_rfl) (by kernel_rfl) (by rfl) (by first | assumption | decide +kernel) (by decide +kernel) ⟨rfl, rfl, rfl, rfl, rfl, by decide +kernel⟩ ?hw ?hc
  case hw => w_witness2
  case hc =>
    exact Mi.law_walk (l := PySem.Challenge.rw_errandchests_k12_works_found_in_rings) (n := 63) (k := 23) (x := "_law_script") (st := K12.s_law) (g := K12.g_law) rfl (by decide) (by kernel_rfl) ⟨⟨rfl, by decide, by decide⟩, rfl⟩ (by kernel_rfl)
      (fun w mg h Y G => Y.elim fun K c => ⟨K, c.1, fun base => K12.c_law (K12.tx_of c.1 G c.2)⟩) K12.law_true
