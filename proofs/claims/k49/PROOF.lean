import PyProof.Rows.All
import Wide.All
import OpenK.AllK
import Wide.FinOn
import HandS.ForMost
import HandS.Iter
import HandS.Flow
import HandS.Deep
import HandS.Dict
import HandS.WordsDict
import HandS.DictComp
import HandS.Style
import HandS.SortInts
import HandS.TupAny
import HandS.SortRule
import HandS.IsInst
import HandS.Conv
import HandS.SetFor
import HandS.Gcd
import HandS.SortKw
import KE.DataMinMax
import HandS.WideBits
import HandS.EndBits
import HandS.Codes
import PySem.Challenge.RW_havenwebs_k49_whole_rows_of_bags
set_option Elab.async false
set_option linter.all false
set_option maxRecDepth 100000
set_option maxHeartbeats 4000000
namespace VH
open PySem L2

abbrev Set' := Addr → Prop
abbrev noA : Set' := fun _ => False

inductive D where
  | non | bl (b : Bool) | int (i : Int) | str (x : Str)
  | lst (xs : List D) | tup (xs : List D)
  | dK (kvs : List (Key × D)) | dT (kvs : List (List Key × D))
  | scr (ns : List Int)

/-- the script: known to the object, or of the written part; read, never written -/
def ScrAt (K : PySem.W.Frag) (H : Hp) (a : Addr) (ns : List Int) : Prop :=
  (∃ o, H a = some (.frz o (.lst (ns.map V.int)))) ∨
    ∃ (o : Obj) (its : Array Value) (n : Nat), K.lookup a = some o ∧ o.cls = .type "list" ∧ o.dict = none ∧ o.data = .seq its n ∧ its.size ≤ sizeLine ∧ Vals (ns.map V.int) its.toList
theorem ScrAt.sqL {K : PySem.W.Frag} {H : Hp} {a : Addr} {ns : List Int} (h : ScrAt K H a ns) : SqL K H a (ns.map V.int) := by
  rcases h with h | h
  · exact .inl (.inr h)
  · exact .inr h

mutual
inductive Is (K : PySem.W.Frag) (A : Set') (H : Hp) : V → D → Prop where
  | non : Is K A H .non .non
  | bl {b : Bool} : Is K A H (.bl b) (.bl b)
  | int {i : Int} : Is K A H (.int i) (.int i)
  | str {x : Str} : Is K A H (.str x) (.str x)
  | lst {a : Addr} {vs : List V} {ds : List D} : ¬ A a → H a = some (.lst vs) → IsL K A H vs ds → Is K A H (.ref a) (.lst ds)
  | tup {a : Addr} {vs : List V} {ds : List D} : SqT K H a vs → IsL K A H vs ds → Is K A H (.ref a) (.tup ds)
  | dK {a : Addr} {vs : List (Key × V)} {ds : List (Key × D)} : ¬ A a → Rd H a (.dK vs) → IsK K A H vs ds → Is K A H (.ref a) (.dK ds)
  | dT {a : Addr} {vs : List (List Key × V)} {ds : List (List Key × D)} : ¬ A a → Rd H a (.dT vs) → IsT K A H vs ds → Is K A H (.ref a) (.dT ds)
  | scr {a : Addr} {ns : List Int} : ScrAt K H a ns → Is K A H (.ref a) (.scr ns)
inductive IsL (K : PySem.W.Frag) (A : Set') (H : Hp) : List V → List D → Prop where
  | nil : IsL K A H [] []
  | cons {v : V} {d : D} {vs : List V} {ds : List D} : Is K A H v d → IsL K A H vs ds → IsL K A H (v :: vs) (d :: ds)
inductive IsK (K : PySem.W.Frag) (A : Set') (H : Hp) : List (Key × V) → List (Key × D) → Prop where
  | nil : IsK K A H [] []
  | cons {k : Key} {v : V} {d : D} {vs : List (Key × V)} {ds : List (Key × D)} : Is K A H v d → IsK K A H vs ds → IsK K A H ((k, v) :: vs) ((k, d) :: ds)
inductive IsT (K : PySem.W.Frag) (A : Set') (H : Hp) : List (List Key × V) → List (List Key × D) → Prop where
  | nil : IsT K A H [] []
  | cons {k : List Key} {v : V} {d : D} {vs : List (List Key × V)} {ds : List (List Key × D)} : Is K A H v d → IsT K A H vs ds → IsT K A H ((k, v) :: vs) ((k, d) :: ds)
end

mutual
inductive Own (K : PySem.W.Frag) (H : Hp) : V → D → Set' → Prop where
  | non {S : Set'} : Own K H .non .non S
  | bl {b : Bool} {S : Set'} : Own K H (.bl b) (.bl b) S
  | int {i : Int} {S : Set'} : Own K H (.int i) (.int i) S
  | str {x : Str} {S : Set'} : Own K H (.str x) (.str x) S
  | lst {a : Addr} {vs : List V} {ds : List D} {S U : Set'} : H a = some (.lst vs) → S a → (∀ b, U b → S b) → ¬ U a → OwnL K H vs ds U → Own K H (.ref a) (.lst ds) S
  | tup {a : Addr} {vs : List V} {ds : List D} {S : Set'} : SqT K H a vs → OwnL K H vs ds S → Own K H (.ref a) (.tup ds) S
  | dK {a : Addr} {vs : List (Key × V)} {ds : List (Key × D)} {S U : Set'} : H a = some (.dK vs) → S a → (∀ b, U b → S b) → ¬ U a → OwnK K H vs ds U → Own K H (.ref a) (.dK ds) S
  | dT {a : Addr} {vs : List (List Key × V)} {ds : List (List Key × D)} {S U : Set'} : H a = some (.dT vs) → S a → (∀ b, U b → S b) → ¬ U a → OwnT K H vs ds U → Own K H (.ref a) (.dT ds) S
  | scr {a : Addr} {ns : List Int} {S : Set'} : ScrAt K H a ns → Own K H (.ref a) (.scr ns) S
inductive OwnL (K : PySem.W.Frag) (H : Hp) : List V → List D → Set' → Prop where
  | nil {S : Set'} : OwnL K H [] [] S
  | cons {v : V} {d : D} {vs : List V} {ds : List D} {T U S : Set'} : Own K H v d T → OwnL K H vs ds U → (∀ b, T b → ¬ U b) → (∀ b, T b → S b) → (∀ b, U b → S b) → OwnL K H (v :: vs) (d :: ds) S
inductive OwnK (K : PySem.W.Frag) (H : Hp) : List (Key × V) → List (Key × D) → Set' → Prop where
  | nil {S : Set'} : OwnK K H [] [] S
  | cons {k : Key} {v : V} {d : D} {vs : List (Key × V)} {ds : List (Key × D)} {T U S : Set'} : Own K H v d T → OwnK K H vs ds U → (∀ b, T b → ¬ U b) → (∀ b, T b → S b) → (∀ b, U b → S b) → OwnK K H ((k, v) :: vs) ((k, d) :: ds) S
inductive OwnT (K : PySem.W.Frag) (H : Hp) : List (List Key × V) → List (List Key × D) → Set' → Prop where
  | nil {S : Set'} : OwnT K H [] [] S
  | cons {k : List Key} {v : V} {d : D} {vs : List (List Key × V)} {ds : List (List Key × D)} {T U S : Set'} : Own K H v d T → OwnT K H vs ds U → (∀ b, T b → ¬ U b) → (∀ b, T b → S b) → (∀ b, U b → S b) → OwnT K H ((k, v) :: vs) ((k, d) :: ds) S
end

def isMut : HO → Bool
  | .lst _ | .dK _ | .dT _ => true
  | _ => false
/-- what is tracked and not in F stays -/
def Keep (F : Set') (H H' : Hp) : Prop := ∀ a o, H a = some o → ¬ F a → H' a = some o
/-- all of F may be written -/
def MutS (F : Set') (H : Hp) : Prop := ∀ a, F a → ∃ o, H a = some o ∧ isMut o = true

theorem Keep.same {F : Set'} {H H' : Hp} (k : Keep F H H') (m : MutS F H) {a : Addr} {o : HO} (h : H a = some o) (n : isMut o = false) : H' a = some o :=
  k a o h fun f => by
    obtain ⟨o', h', n'⟩ := m a f
    rw [h] at h'; cases h'; rw [n] at n'; cases n'
theorem Keep.rd {F : Set'} {H H' : Hp} (k : Keep F H H') (m : MutS F H) {a : Addr} {o : HO} (h : Rd H a o) (n : ¬ F a) : Rd H' a o := by
  rcases h with h | ⟨ob, h⟩
  · exact .inl (k a o h n)
  · exact .inr ⟨ob, k.same m h rfl⟩
theorem Keep.sqT {K : PySem.W.Frag} {F : Set'} {H H' : Hp} (k : Keep F H H') (m : MutS F H) {a : Addr} {vs : List V} (h : SqT K H a vs) : SqT K H' a vs := by
  rcases h with (h | ⟨ob, h⟩) | h
  · exact .inl (.inl (k.same m h rfl))
  · exact .inl (.inr ⟨ob, k.same m h rfl⟩)
  · exact .inr h

theorem Keep.scr {K : PySem.W.Frag} {F : Set'} {H H' : Hp} (k : Keep F H H') (m : MutS F H) {a : Addr} {ns : List Int} (h : ScrAt K H a ns) : ScrAt K H' a ns := by
  rcases h with ⟨ob, h⟩ | h
  · exact .inl ⟨ob, k.same m h rfl⟩
  · exact .inr h
theorem Keep.refl {F : Set'} {H : Hp} : Keep F H H := fun _ _ h _ => h

section
variable {K : PySem.W.Frag} {F A A' : Set'} {H H' : Hp}
/-- how a set of avoided addresses may change -/
def Grow (A A' : Set') (H : Hp) : Prop := ∀ a, A' a → A a ∨ H a = none
theorem Grow.refl : Grow A A H := fun _ h => .inl h
theorem Grow.not (g : Grow A A' H) {a : Addr} {o : HO} (h : H a = some o) (n : ¬ A a) : ¬ A' a := fun q => by
  rcases g a q with z | z
  · exact n z
  · rw [h] at z; cases z
theorem Grow.notRd (g : Grow A A' H) {a : Addr} {o : HO} (h : Rd H a o) (n : ¬ A a) : ¬ A' a := by
  rcases h with h | ⟨_, h⟩
  · exact g.not h n
  · exact g.not h n

mutual
theorem Is.step (k : Keep F H H') (m : MutS F H) (hF : ∀ a, F a → A a) (g : Grow A A' H) : ∀ {v : V} {d : D}, Is K A H v d → Is K A' H' v d
  | _, _, .non => .non
  | _, _, .bl => .bl
  | _, _, .int => .int
  | _, _, .str => .str
  | _, _, .lst n h l => .lst (g.not h n) (k _ _ h fun q => n (hF _ q)) (IsL.step k m hF g l)
  | _, _, .tup h l => .tup (k.sqT m h) (IsL.step k m hF g l)
  | _, _, .dK n h l => .dK (g.notRd h n) (k.rd m h fun q => n (hF _ q)) (IsK.step k m hF g l)
  | _, _, .dT n h l => .dT (g.notRd h n) (k.rd m h fun q => n (hF _ q)) (IsT.step k m hF g l)
  | _, _, .scr h => .scr (k.scr m h)
theorem IsL.step (k : Keep F H H') (m : MutS F H) (hF : ∀ a, F a → A a) (g : Grow A A' H) : ∀ {vs : List V} {ds : List D}, IsL K A H vs ds → IsL K A' H' vs ds
  | _, _, .nil => .nil
  | _, _, .cons h l => .cons (Is.step k m hF g h) (IsL.step k m hF g l)
theorem IsK.step (k : Keep F H H') (m : MutS F H) (hF : ∀ a, F a → A a) (g : Grow A A' H) : ∀ {vs : List (Key × V)} {ds : List (Key × D)}, IsK K A H vs ds → IsK K A' H' vs ds
  | _, _, .nil => .nil
  | _, _, .cons h l => .cons (Is.step k m hF g h) (IsK.step k m hF g l)
theorem IsT.step (k : Keep F H H') (m : MutS F H) (hF : ∀ a, F a → A a) (g : Grow A A' H) : ∀ {vs : List (List Key × V)} {ds : List (List Key × D)}, IsT K A H vs ds → IsT K A' H' vs ds
  | _, _, .nil => .nil
  | _, _, .cons h l => .cons (Is.step k m hF g h) (IsT.step k m hF g l)
end
end

section
variable {K : PySem.W.Frag} {F A A' S S' : Set'} {H H' : Hp}
mutual
theorem Own.step (k : Keep F H H') (m : MutS F H) : ∀ {v : V} {d : D} {S : Set'}, Own K H v d S → (∀ a, S a → ¬ F a) → Own K H' v d S
  | _, _, _, .non, _ => .non
  | _, _, _, .bl, _ => .bl
  | _, _, _, .int, _ => .int
  | _, _, _, .str, _ => .str
  | _, _, _, .lst h sa u nu l, q => .lst (k _ _ h (q _ sa)) sa u nu (OwnL.step k m l fun a z => q a (u a z))
  | _, _, _, .tup h l, q => .tup (k.sqT m h) (OwnL.step k m l q)
  | _, _, _, .dK h sa u nu l, q => .dK (k _ _ h (q _ sa)) sa u nu (OwnK.step k m l fun a z => q a (u a z))
  | _, _, _, .dT h sa u nu l, q => .dT (k _ _ h (q _ sa)) sa u nu (OwnT.step k m l fun a z => q a (u a z))
  | _, _, _, .scr h, _ => .scr (k.scr m h)
theorem OwnL.step (k : Keep F H H') (m : MutS F H) : ∀ {vs : List V} {ds : List D} {S : Set'}, OwnL K H vs ds S → (∀ a, S a → ¬ F a) → OwnL K H' vs ds S
  | _, _, _, .nil, _ => .nil
  | _, _, _, .cons h l dj t u, q => .cons (Own.step k m h fun a z => q a (t a z)) (OwnL.step k m l fun a z => q a (u a z)) dj t u
theorem OwnK.step (k : Keep F H H') (m : MutS F H) : ∀ {vs : List (Key × V)} {ds : List (Key × D)} {S : Set'}, OwnK K H vs ds S → (∀ a, S a → ¬ F a) → OwnK K H' vs ds S
  | _, _, _, .nil, _ => .nil
  | _, _, _, .cons h l dj t u, q => .cons (Own.step k m h fun a z => q a (t a z)) (OwnK.step k m l fun a z => q a (u a z)) dj t u
theorem OwnT.step (k : Keep F H H') (m : MutS F H) : ∀ {vs : List (List Key × V)} {ds : List (List Key × D)} {S : Set'}, OwnT K H vs ds S → (∀ a, S a → ¬ F a) → OwnT K H' vs ds S
  | _, _, _, .nil, _ => .nil
  | _, _, _, .cons h l dj t u, q => .cons (Own.step k m h fun a z => q a (t a z)) (OwnT.step k m l fun a z => q a (u a z)) dj t u
end
/-- a greater footprint -/
theorem Own.mono (s : ∀ a, S a → S' a) {v : V} {d : D} (h : Own K H v d S) : Own K H v d S' := by
  cases h with
  | non => exact .non
  | bl => exact .bl
  | int => exact .int
  | str => exact .str
  | lst h sa u nu l => exact .lst h (s _ sa) (fun a z => s a (u a z)) nu l
  | tup h l =>
    refine .tup h ?_
    cases l with
    | nil => exact .nil
    | cons x l dj t u => exact .cons x l dj (fun a z => s a (t a z)) fun a z => s a (u a z)
  | dK h sa u nu l => exact .dK h (s _ sa) (fun a z => s a (u a z)) nu l
  | dT h sa u nu l => exact .dT h (s _ sa) (fun a z => s a (u a z)) nu l
  | scr h => exact .scr h
theorem OwnL.mono (s : ∀ a, S a → S' a) {vs : List V} {ds : List D} (h : OwnL K H vs ds S) : OwnL K H vs ds S' := by
  cases h with
  | nil => exact .nil
  | cons h l dj t u => exact .cons h l dj (fun a z => s a (t a z)) fun a z => s a (u a z)
theorem OwnK.mono (s : ∀ a, S a → S' a) {vs : List (Key × V)} {ds : List (Key × D)} (h : OwnK K H vs ds S) : OwnK K H vs ds S' := by
  cases h with
  | nil => exact .nil
  | cons h l dj t u => exact .cons h l dj (fun a z => s a (t a z)) fun a z => s a (u a z)
theorem OwnT.mono (s : ∀ a, S a → S' a) {vs : List (List Key × V)} {ds : List (List Key × D)} (h : OwnT K H vs ds S) : OwnT K H vs ds S' := by
  cases h with
  | nil => exact .nil
  | cons h l dj t u => exact .cons h l dj (fun a z => s a (t a z)) fun a z => s a (u a z)
/- what is owned is read, by whoever avoids other things -/
mutual
theorem Own.is : ∀ {v : V} {d : D} {S : Set'}, Own K H v d S → (∀ a, S a → ¬ A a) → Is K A H v d
  | _, _, _, .non, _ => .non
  | _, _, _, .bl, _ => .bl
  | _, _, _, .int, _ => .int
  | _, _, _, .str, _ => .str
  | _, _, _, .lst h sa u nu l, q => .lst (q _ sa) h (OwnL.is l fun a z => q a (u a z))
  | _, _, _, .tup h l, q => .tup h (OwnL.is l q)
  | _, _, _, .dK h sa u nu l, q => .dK (q _ sa) (.inl h) (OwnK.is l fun a z => q a (u a z))
  | _, _, _, .dT h sa u nu l, q => .dT (q _ sa) (.inl h) (OwnT.is l fun a z => q a (u a z))
  | _, _, _, .scr h, _ => .scr h
theorem OwnL.is : ∀ {vs : List V} {ds : List D} {S : Set'}, OwnL K H vs ds S → (∀ a, S a → ¬ A a) → IsL K A H vs ds
  | _, _, _, .nil, _ => .nil
  | _, _, _, .cons h l dj t u, q => .cons (Own.is h fun a z => q a (t a z)) (OwnL.is l fun a z => q a (u a z))
theorem OwnK.is : ∀ {vs : List (Key × V)} {ds : List (Key × D)} {S : Set'}, OwnK K H vs ds S → (∀ a, S a → ¬ A a) → IsK K A H vs ds
  | _, _, _, .nil, _ => .nil
  | _, _, _, .cons h l dj t u, q => .cons (Own.is h fun a z => q a (t a z)) (OwnK.is l fun a z => q a (u a z))
theorem OwnT.is : ∀ {vs : List (List Key × V)} {ds : List (List Key × D)} {S : Set'}, OwnT K H vs ds S → (∀ a, S a → ¬ A a) → IsT K A H vs ds
  | _, _, _, .nil, _ => .nil
  | _, _, _, .cons h l dj t u, q => .cons (Own.is h fun a z => q a (t a z)) (OwnT.is l fun a z => q a (u a z))
end
end

mutual
def solid : D → Bool
  | .non | .bl _ | .int _ | .str _ | .scr _ => true
  | .tup ds => solidL ds
  | .lst _ | .dK _ | .dT _ => false
def solidL : List D → Bool
  | [] => true
  | d :: ds => solid d && solidL ds
end
section
variable {K : PySem.W.Frag} {F A A' S S' : Set'} {H H' : Hp}
mutual
theorem Is.own : ∀ {v : V} {d : D}, solid d = true → Is K A H v d → Own K H v d noA
  | _, _, _, .non => .non
  | _, _, _, .bl => .bl
  | _, _, _, .int => .int
  | _, _, _, .str => .str
  | _, _, s, .lst _ _ _ => by simp [solid] at s
  | _, _, s, .tup h l => .tup h (IsL.own (by simpa [solid] using s) l)
  | _, _, s, .dK _ _ _ => by simp [solid] at s
  | _, _, s, .dT _ _ _ => by simp [solid] at s
  | _, _, _, .scr h => .scr h
theorem IsL.own : ∀ {vs : List V} {ds : List D}, solidL ds = true → IsL K A H vs ds → OwnL K H vs ds noA
  | _, _, _, .nil => .nil
  | _, _, s, .cons h l => by
    simp only [solidL, Bool.and_eq_true] at s
    exact .cons (Is.own s.1 h) (IsL.own s.2 l) (fun _ z => z.elim) (fun _ z => z) fun _ z => z
end
theorem Is.solid {v : V} {d : D} (s : VH.solid d = true) (h : Is K A H v d) : Is K A' H v d := (h.own s).is fun _ z => z.elim
theorem IsL.solid {vs : List V} {ds : List D} (s : VH.solidL ds = true) (h : IsL K A H vs ds) : IsL K A' H vs ds := (h.own s).is fun _ z => z.elim
/-- fewer things avoided -/
theorem Is.less {v : V} {d : D} (h : Is K A H v d) (g : ∀ a, A' a → A a) : Is K A' H v d := h.step (F := noA) Keep.refl (fun _ z => z.elim) (fun _ z => z.elim) fun a z => .inl (g a z)
theorem IsL.less {vs : List V} {ds : List D} (h : IsL K A H vs ds) (g : ∀ a, A' a → A a) : IsL K A' H vs ds := h.step (F := noA) Keep.refl (fun _ z => z.elim) (fun _ z => z.elim) fun a z => .inl (g a z)
theorem IsK.less {vs : List (Key × V)} {ds : List (Key × D)} (h : IsK K A H vs ds) (g : ∀ a, A' a → A a) : IsK K A' H vs ds := h.step (F := noA) Keep.refl (fun _ z => z.elim) (fun _ z => z.elim) fun a z => .inl (g a z)
theorem IsT.less {vs : List (List Key × V)} {ds : List (List Key × D)} (h : IsT K A H vs ds) (g : ∀ a, A' a → A a) : IsT K A' H vs ds := h.step (F := noA) Keep.refl (fun _ z => z.elim) (fun _ z => z.elim) fun a z => .inl (g a z)
theorem IsL.length : ∀ {vs : List V} {ds : List D}, IsL K A H vs ds → vs.length = ds.length
  | _, _, .nil => rfl
  | _, _, .cons _ l => by simp [IsL.length l]
theorem IsL.get : ∀ {vs : List V} {ds : List D} {i : Nat} {d : D}, IsL K A H vs ds → ds[i]? = some d → ∃ v, vs[i]? = some v ∧ Is K A H v d
  | _, _, _, _, .nil, e => by simp at e
  | _, _, 0, _, .cons h _, e => by simp at e; subst e; exact ⟨_, rfl, h⟩
  | _, _, i + 1, d, .cons _ l, e => by
    obtain ⟨v, e1, h1⟩ := IsL.get (i := i) (d := d) l (by simpa using e)
    exact ⟨v, by simpa using e1, h1⟩
theorem IsL.getV : ∀ {vs : List V} {ds : List D} {i : Nat} {v : V}, IsL K A H vs ds → vs[i]? = some v → ∃ d, ds[i]? = some d ∧ Is K A H v d
  | _, _, _, _, .nil, e => by simp at e
  | _, _, 0, _, .cons h _, e => by simp at e; subst e; exact ⟨_, rfl, h⟩
  | _, _, i + 1, d, .cons _ l, e => by
    obtain ⟨v, e1, h1⟩ := IsL.getV (i := i) (v := d) l (by simpa using e)
    exact ⟨v, by simpa using e1, h1⟩
theorem IsL.append : ∀ {vs ws : List V} {ds es : List D}, IsL K A H vs ds → IsL K A H ws es → IsL K A H (vs ++ ws) (ds ++ es)
  | _, _, _, _, .nil, s => s
  | _, _, _, _, .cons h l, s => .cons h (IsL.append l s)
theorem IsL.set {v : V} {d : D} (h : Is K A H v d) : ∀ {vs : List V} {ds : List D} (i : Nat), IsL K A H vs ds → IsL K A H (vs.set i v) (ds.set i d)
  | _, _, _, .nil => .nil
  | _, _, 0, .cons _ l => .cons h l
  | _, _, i + 1, .cons x l => .cons x (IsL.set h i l)
theorem IsL.eraseIdx : ∀ {vs : List V} {ds : List D} (i : Nat), IsL K A H vs ds → IsL K A H (vs.eraseIdx i) (ds.eraseIdx i)
  | _, _, _, .nil => .nil
  | _, _, 0, .cons _ l => l
  | _, _, i + 1, .cons x l => .cons x (IsL.eraseIdx i l)
theorem IsL.take : ∀ {vs : List V} {ds : List D} (n : Nat), IsL K A H vs ds → IsL K A H (vs.take n) (ds.take n)
  | _, _, 0, _ => .nil
  | _, _, _ + 1, .nil => .nil
  | _, _, n + 1, .cons x l => .cons x (IsL.take n l)
theorem IsL.drop : ∀ {vs : List V} {ds : List D} (n : Nat), IsL K A H vs ds → IsL K A H (vs.drop n) (ds.drop n)
  | _, _, 0, l => l
  | _, _, _ + 1, .nil => .nil
  | _, _, n + 1, .cons _ l => IsL.drop n l
theorem IsL.reverse : ∀ {vs : List V} {ds : List D}, IsL K A H vs ds → IsL K A H vs.reverse ds.reverse
  | _, _, .nil => .nil
  | _, _, .cons x l => by
    rw [List.reverse_cons, List.reverse_cons]
    exact IsL.append (IsL.reverse l) (.cons x .nil)
end
end VH
namespace VH
open PySem L2

/-- how a value is held: tra: read now; tra1: read now, its items are frozen; bor: read as long as the frame runs; bor1: .. its items are frozen; sh: frozen for ever;
    one: its root is ours, its items are frozen; all: all of it is ours -/
inductive Ow where
  | tra | tra1 | bor | bor1 | sh | one | all
  deriving DecidableEq

def Is1 (K : PySem.W.Frag) (B A : Set') (H : Hp) (v : V) : D → Prop
  | .lst ds => ∃ a vs, v = .ref a ∧ ¬ B a ∧ H a = some (.lst vs) ∧ IsL K A H vs ds
  | .dK ds => ∃ a vs, v = .ref a ∧ ¬ B a ∧ Rd H a (.dK vs) ∧ IsK K A H vs ds
  | .dT ds => ∃ a vs, v = .ref a ∧ ¬ B a ∧ Rd H a (.dT vs) ∧ IsT K A H vs ds
  | d => Is K A H v d
def One (K : PySem.W.Frag) (A : Set') (H : Hp) (v : V) (S : Set') : D → Prop
  | .lst ds => ∃ a vs, v = .ref a ∧ S a ∧ H a = some (.lst vs) ∧ IsL K A H vs ds
  | .dK ds => ∃ a vs, v = .ref a ∧ S a ∧ H a = some (.dK vs) ∧ IsK K A H vs ds
  | .dT ds => ∃ a vs, v = .ref a ∧ S a ∧ H a = some (.dT vs) ∧ IsT K A H vs ds
  | d => Is K A H v d
def RepV (K : PySem.W.Frag) (H : Hp) (o : Ow) (v : V) (d : D) (S B A : Set') : Prop :=
  match o with
  | .tra => Is K noA H v d
  | .tra1 => Is1 K noA A H v d
  | .bor => Is K B H v d
  | .bor1 => Is1 K B A H v d
  | .sh => Is K A H v d
  | .one => One K A H v S d
  | .all => Own K H v d S

section
variable {K : PySem.W.Frag} {F A A' B B' S S' : Set'} {H H' : Hp} {v : V} {d : D} {o : Ow}
theorem Is1.step (k : Keep F H H') (m : MutS F H) (hF : ∀ a, F a → B a) (hA : ∀ a, F a → A a) (gB : Grow B B' H) (gA : Grow A A' H) (h : Is1 K B A H v d) : Is1 K B' A' H' v d := by
  cases d with
  | lst ds => obtain ⟨a, vs, e, n, h, l⟩ := h; exact ⟨a, vs, e, gB.not h n, k _ _ h fun q => n (hF _ q), l.step k m hA gA⟩
  | dK ds => obtain ⟨a, vs, e, n, h, l⟩ := h; exact ⟨a, vs, e, gB.notRd h n, k.rd m h fun q => n (hF _ q), l.step k m hA gA⟩
  | dT ds => obtain ⟨a, vs, e, n, h, l⟩ := h; exact ⟨a, vs, e, gB.notRd h n, k.rd m h fun q => n (hF _ q), l.step k m hA gA⟩
  | non => exact Is.step k m hA gA h
  | bl b => exact Is.step k m hA gA h
  | int i => exact Is.step k m hA gA h
  | str x => exact Is.step k m hA gA h
  | tup ds => exact Is.step k m hA gA h
  | scr ns => exact Is.step k m hA gA h
theorem One.step (k : Keep F H H') (m : MutS F H) (hS : ∀ a, S a → ¬ F a) (hA : ∀ a, F a → A a) (gA : Grow A A' H) (h : One K A H v S d) : One K A' H' v S d := by
  cases d with
  | lst ds => obtain ⟨a, vs, e, n, h, l⟩ := h; exact ⟨a, vs, e, n, k _ _ h (hS _ n), l.step k m hA gA⟩
  | dK ds => obtain ⟨a, vs, e, n, h, l⟩ := h; exact ⟨a, vs, e, n, k _ _ h (hS _ n), l.step k m hA gA⟩
  | dT ds => obtain ⟨a, vs, e, n, h, l⟩ := h; exact ⟨a, vs, e, n, k _ _ h (hS _ n), l.step k m hA gA⟩
  | non => exact Is.step k m hA gA h
  | bl b => exact Is.step k m hA gA h
  | int i => exact Is.step k m hA gA h
  | str x => exact Is.step k m hA gA h
  | tup ds => exact Is.step k m hA gA h
  | scr ns => exact Is.step k m hA gA h
/-- the state goes on: what a value says stays -/
theorem RepV.step (k : Keep F H H') (m : MutS F H) (nt : o ≠ .tra ∧ o ≠ .tra1) (hS : ∀ a, S a → ¬ F a) (hB : ∀ a, F a → B a) (hA : ∀ a, F a → A a) (gB : Grow B B' H) (gA : Grow A A' H)
    (h : RepV K H o v d S B A) : RepV K H' o v d S B' A' := by
  cases o with
  | tra => exact (nt.1 rfl).elim
  | tra1 => exact (nt.2 rfl).elim
  | bor => exact Is.step k m hB gB h
  | bor1 => exact Is1.step k m hB hA gB gA h
  | sh => exact Is.step k m hA gA h
  | one => exact One.step k m hS hA gA h
  | all => exact Own.step k m h hS
/-- .. where nothing that is tracked is changed -/
theorem RepV.still (k : Keep noA H H') (gB : Grow B B' H) (gA : Grow A A' H) (h : RepV K H o v d S B A) : RepV K H' o v d S B' A' := by
  have m : MutS noA H := fun _ z => z.elim
  have e : ∀ {X : Set'} a, noA a → X a := fun _ z => z.elim
  cases o with
  | tra => exact Is.step k m e Grow.refl h
  | tra1 => exact Is1.step k m e e Grow.refl gA h
  | bor => exact Is.step k m e gB h
  | bor1 => exact Is1.step k m e e gB gA h
  | sh => exact Is.step k m e gA h
  | one => exact One.step k m (fun _ _ z => z) e gA h
  | all => exact Own.step k m h fun _ _ z => z
theorem Is1.is (h : Is1 K B A H v d) : Is K noA H v d := by
  cases d with
  | lst ds => obtain ⟨a, vs, rfl, n, h, l⟩ := h; exact .lst (fun z => z) h (l.less fun _ z => z.elim)
  | dK ds => obtain ⟨a, vs, rfl, n, h, l⟩ := h; exact .dK (fun z => z) h (l.less fun _ z => z.elim)
  | dT ds => obtain ⟨a, vs, rfl, n, h, l⟩ := h; exact .dT (fun z => z) h (l.less fun _ z => z.elim)
  | non => exact Is.less h fun _ z => z.elim
  | bl b => exact Is.less h fun _ z => z.elim
  | int i => exact Is.less h fun _ z => z.elim
  | str x => exact Is.less h fun _ z => z.elim
  | tup ds => exact Is.less h fun _ z => z.elim
  | scr ns => exact Is.less h fun _ z => z.elim
theorem One.is (q : ∀ a, S a → ¬ A' a) (g : ∀ a, A' a → A a) (h : One K A H v S d) : Is K A' H v d := by
  cases d with
  | lst ds => obtain ⟨a, vs, rfl, n, h, l⟩ := h; exact .lst (q _ n) h (l.less g)
  | dK ds => obtain ⟨a, vs, rfl, n, h, l⟩ := h; exact .dK (q _ n) (.inl h) (l.less g)
  | dT ds => obtain ⟨a, vs, rfl, n, h, l⟩ := h; exact .dT (q _ n) (.inl h) (l.less g)
  | non => exact Is.less h g
  | bl b => exact Is.less h g
  | int i => exact Is.less h g
  | str x => exact Is.less h g
  | tup ds => exact Is.less h g
  | scr ns => exact Is.less h g
/-- whatever is held is read now -/
theorem RepV.now (h : RepV K H o v d S B A) : Is K noA H v d := by
  cases o with
  | tra => exact h
  | tra1 => exact Is1.is h
  | bor => exact Is.less h fun _ z => z.elim
  | bor1 => exact Is1.is h
  | sh => exact Is.less h fun _ z => z.elim
  | one => exact One.is (A' := noA) (fun _ _ z => z) (fun _ z => z.elim) h
  | all => exact Own.is h fun _ _ z => z
/-- solid data is held in any way -/
theorem RepV.solid (s : VH.solid d = true) (h : Is K A' H v d) : RepV K H o v d S B A := by
  have e := Is.own s h
  have i : ∀ {X : Set'}, Is K X H v d := e.is fun _ z => z.elim
  cases o with
  | tra => exact i
  | bor => exact i
  | sh => exact i
  | all => exact e.mono fun _ z => z.elim
  | tra1 => cases d <;> first | exact i | (simp [VH.solid] at s)
  | bor1 => cases d <;> first | exact i | (simp [VH.solid] at s)
  | one => cases d <;> first | exact i | (simp [VH.solid] at s)
end

abbrev Env := List (Option (Ow × D))
abbrev Fp := Nat → Set'
def un (fp : Fp) : Set' := fun a => ∃ i, fp i a
def cup (S T : Set') : Set' := fun a => S a ∨ T a

structure RepS (K : PySem.W.Frag) (ρ : Env) (σ : St) (H : Hp) (fp : Fp) (T G : Set') : Prop where
  len : σ.length = ρ.length
  slot : ∀ i o d, ρ[i]? = some (some (o, d)) → ∃ v, σ[i]? = some (some v) ∧ (o ≠ .tra ∧ o ≠ .tra1) ∧ RepV K H o v d (fp i) (cup (un fp) T) (cup (cup (un fp) T) G)
  dis : ∀ i j a, fp i a → fp j a → i = j
  disT : ∀ a, un fp a → ¬ T a
  disG : ∀ a, cup (un fp) T a → ¬ G a
  wr : MutS (cup (cup (un fp) T) G) H

/-- what an expression's evaluation may do -/
structure StepE (H : Hp) (fp : Fp) (T : Set') (H' : Hp) (fp' : Fp) (S : Set') : Prop where
  keep : Keep (un fp) H H'
  new : ∀ a, cup (un fp') S a → un fp a ∨ H a = none
  disS : ∀ a, S a → ¬ T a

section
variable {K : PySem.W.Frag} {ρ ρ' : Env} {σ σ' : St} {H H' H1 H2 : Hp} {fp fp' fp1 fp2 : Fp} {T T' G S S1 S2 : Set'} {v : V} {d : D} {o : Ow}
theorem StepE.refl : StepE H fp T H fp noA := ⟨Keep.refl, fun a z => z.elim .inl fun z => z.elim, fun _ z => z.elim⟩
theorem RepS.wrF (R : RepS K ρ σ H fp T G) : MutS (un fp) H := fun a z => R.wr a (.inl (.inl z))
theorem RepS.track (R : RepS K ρ σ H fp T G) {a : Addr} (h : cup (cup (un fp) T) G a) : H a ≠ none := fun e => by
  obtain ⟨o, h1, _⟩ := R.wr a h
  rw [h1] at e; cases e
/-- fewer temporaries -/
theorem RepS.lessT (R : RepS K ρ σ H fp T G) (g : ∀ a, T' a → T a) : RepS K ρ σ H fp T' G where
  len := R.len
  slot := fun i o d e => by
    obtain ⟨v, e1, nt, r⟩ := R.slot i o d e
    exact ⟨v, e1, nt, r.still Keep.refl (fun a z => .inl (z.elim .inl fun z => .inr (g a z))) fun a z => .inl (z.elim (fun z => .inl (z.elim .inl fun z => .inr (g a z))) .inr)⟩
  dis := R.dis
  disT := fun a h z => R.disT a h (g a z)
  disG := fun a h => R.disG a (h.elim .inl fun z => .inr (g a z))
  wr := fun a h => R.wr a (h.elim (fun z => .inl (z.elim .inl fun z => .inr (g a z))) .inr)
/-- one step behind another -/
theorem StepE.trans (a : StepE H fp T H1 fp1 S1) (b : StepE H1 fp1 (cup T S1) H2 fp2 S2) (hT : ∀ a, T a → H a ≠ none) (hd : ∀ a, un fp a → ¬ T a) : StepE H fp T H2 fp2 (cup S1 S2) where
  keep := fun x o h n => b.keep x o (a.keep x o h n) fun z => by
    rcases a.new x (.inl z) with q | q
    · exact n q
    · rw [h] at q; cases q
  new := fun x h => by
    have back : (un fp1 x ∨ H1 x = none) → un fp x ∨ H x = none := fun h => by
      rcases h with h | h
      · exact a.new x (.inl h)
      · by_cases hx : un fp x
        · exact .inl hx
        · cases e : H x with
          | none => exact .inr rfl
          | some o => have := a.keep x o e hx; rw [h] at this; cases this
    rcases h with h | h | h
    · exact back (b.new x (.inl h))
    · exact a.new x (.inr h)
    · exact back (b.new x (.inr h))
  disS := fun x h z => h.elim (fun q => a.disS x q z) fun q => b.disS x q (.inl z)
/-- a value of ours, while another expression is evaluated -/
theorem RepV.over (R1 : RepS K ρ σ H1 fp1 (cup T S1) G) (b : StepE H1 fp1 (cup T S1) H2 fp2 S2) (nt : o ≠ .tra ∧ o ≠ .tra1)
    (h : RepV K H1 o v d S1 (cup (un fp1) (cup T S1)) (cup (cup (un fp1) (cup T S1)) G)) :
    RepV K H2 o v d S1 (cup (un fp2) (cup T (cup S1 S2))) (cup (cup (un fp2) (cup T (cup S1 S2))) G) := by
  have gB : Grow (cup (un fp1) (cup T S1)) (cup (un fp2) (cup T (cup S1 S2))) H1 := fun a z => by
    rcases z with z | z | z | z
    · exact (b.new a (.inl z)).elim (fun q => .inl (.inl q)) .inr
    · exact .inl (.inr (.inl z))
    · exact .inl (.inr (.inr z))
    · exact (b.new a (.inr z)).elim (fun q => .inl (.inl q)) .inr
  refine h.step b.keep R1.wrF nt (fun a z q => R1.disT a q (.inr z)) (fun a z => .inl z) (fun a z => .inl (.inl z)) gB fun a z => ?_
  rcases z with z | z
  · exact (gB a z).elim (fun q => .inl (.inl q)) .inr
  · exact .inl (.inr z)
end

/-- what is wanted behind an expression, over the heap -/
def PostE (K : PySem.W.Frag) (σ : St) (H : Hp) (fp : Fp) (T G : Set') (Q : VK) (o : Ow) (d : D) (ρ' : Env) : Prop :=
  ∀ v H' fp' S, StepE H fp T H' fp' S → RepS K ρ' σ H' fp' (cup T S) G → RepV K H' o v d S (cup (un fp') (cup T S)) (cup (cup (un fp') (cup T S)) G) → Q v H'
end VH
namespace VH
open PySem L2

def nrm (o : Ow) (d : D) : Ow := if solid d = true then .all else o
def peekO : Ow → Ow
  | .all => .tra | .one => .tra1 | o => o
def pkO (o : Ow) (d : D) : Ow := nrm (peekO o) d
/-- a child's hold -/
def kidO (o : Ow) (d : D) : Ow := nrm (match o with | .tra => .tra | .bor => .bor | .all => .all | _ => .sh) d
/-- held as an item of something new: all of it ours, or frozen -/
def chO (o : Ow) (d : D) : Option Ow := if solid d = true then some .all else match o with | .all => some .all | .sh | .one => some .sh | _ => none
/-- held in a slot -/
def asgO (o : Ow) (d : D) : Option Ow := if solid d = true then some .all else match o with | .tra | .tra1 => none | o => some o
/-- handed back by a def -/
def resO (o : Ow) (d : D) : Option Ow := if solid d = true then some .all else match o with | .all => some .all | .one => some .one | .sh => some .sh | _ => none
/-- the items of a thing, put into a new one -/
def kidsO (o : Ow) (ds : List D) : Option Ow := if solidL ds = true then some .all else match o with | .tra | .bor => none | .all => some .all | _ => some .sh
def minO : Ow → Ow → Ow
  | .all, .all => .all
  | _, _ => .sh
def rootO : Ow → Ow
  | .all => .all
  | _ => .one
def lockO : Ow → Ow
  | .all => .bor | .one => .bor1 | o => o
def unlO (o : Ow) (d : D) : Ow := nrm (match o with | .bor => .tra | .bor1 => .tra1 | o => o) d
def lock (ρ : Env) : Env := ρ.map (Option.map fun p => (nrm (lockO p.1) p.2, p.2))
def isTra (o : Ow) (d : D) : Bool := !solid d && (o == .tra || o == .tra1)
/-- the hold of what a loop gives, one by one, from a thing held so -/
def itmO : Ow → Ow
  | .bor | .tra => .bor
  | _ => .sh
/-- held for the time of a loop: what is ours is frozen -/
def frzO : Ow → Ow
  | .one | .all => .sh
  | o => o

def toInts : List D → Option (List Int)
  | [] => some []
  | .int i :: r => (toInts r).map (i :: ·)
  | _ => none
def toBls : List D → Option (List Bool)
  | [] => some []
  | .bl b :: r => (toBls r).map (b :: ·)
  | _ => none
inductive ITy where
  | int_ | bool_ | list_ | str_ | tuple_ | dict_
  deriving DecidableEq
def toPairs : List D → Option (List (Int × Int))
  | [] => some []
  | .tup [.int i, .int j] :: r => (toPairs r).map ((i, j) :: ·)
  | _ => none
def lexLe (p q : Int × Int) : Prop := p.1 < q.1 ∨ (p.1 = q.1 ∧ p.2 ≤ q.2)
def encP (p : Int × Int) : D := .tup [.int p.1, .int p.2]
/-- isinstance -/
def isiD : ITy → D → Option Bool
  | _, .dK _ => none
  | _, .dT _ => none
  | _, .scr _ => none
  | .int_, .int _ => some true
  | .int_, .bl _ => some true
  | .bool_, .bl _ => some true
  | .list_, .lst _ => some true
  | .str_, .str _ => some true
  | .tuple_, .tup _ => some true
  | _, _ => some false
mutual
def toP : D → PyData
  | .non => .none
  | .bl b => .bool b
  | .int i => .int i
  | .str x => .str x
  | .lst ds => .list (toPs ds)
  | .tup ds => .tuple (toPs ds)
  | .dK _ | .dT _ | .scr _ => .dict []
def toPs : List D → List PyData
  | [] => []
  | d :: ds => toP d :: toPs ds
end
def plainD (d : D) : Bool := SeqAt.shaped (toP d)
def deq (a b : D) : Bool := PyData.eqv (toP a) (toP b)
def truth : D → Option Bool
  | .non => some false
  | .bl b => some b
  | .int i => some (i != 0)
  | .str x => if x.length ≤ sizeLine then some ((x.length : Int) != 0) else none
  | .lst ds => some (!ds.isEmpty)
  | .tup ds => some (!ds.isEmpty)
  | .dK kvs => some (!kvs.isEmpty)
  | _ => none
def isNon : D → Bool
  | .non => true
  | _ => false
def keyOf : D → Option Key
  | .int i => some (.inl i)
  | .str x => some (.inr x)
  | _ => none
section
variable {κ : Type} [DecidableEq κ]
def getK (kvs : List (κ × D)) (k : κ) : Option D := (kvs.find? fun kv => decide (kv.1 = k)).map (·.2)
def putD (kvs : List (κ × D)) (k : κ) (d : D) : List (κ × D) :=
  if (kvs.any fun kv => decide (kv.1 = k)) = true then kvs.map (fun kv => if kv.1 = k then (kv.1, d) else kv) else kvs ++ [(k, d)]
def dropD (kvs : List (κ × D)) (k : κ) : List (κ × D) := kvs.filter fun kv => decide (kv.1 ≠ k)
/-- the first entry changed in its place -/
def setD (k : κ) (d : D) : List (κ × D) → List (κ × D)
  | [] => []
  | p :: r => if p.1 = k then (k, d) :: r else p :: setD k d r
end
def getI : D → D → Option D
  | .lst ds, .int i => atI ds i
  | .tup ds, .int i => atI ds i
  | .str x, .int i => if x.length ≤ sizeLine then (atI x.cps.toList i).map fun c => .str ⟨#[c]⟩ else none
  | .dK kvs, .int i => getK kvs (.inl i)
  | .dK kvs, .str x => getK kvs (.inr x)
  | _, _ => none
/-- a wide bound -/
def small (i : Int) : Prop := -(2 ^ 64) < i ∧ i < 2 ^ 64

inductive Md where
  | pk | sh | sc | mv
  deriving DecidableEq
inductive B1 where
  | len | abs | int_ | sum | all_ | any_ | list_ | tuple_ | sorted_ | max_ | min_
  deriving DecidableEq
inductive MF where
  | comb
  deriving DecidableEq
inductive B2 where
  | max_ | min_
  deriving DecidableEq
mutual
inductive Tg where
  | nm (i : Nat) | tp (ts : Tgs)
inductive Tgs where
  | nil | cons (t : Tg) (ts : Tgs)
end
mutual
inductive E where
  | non | bl (b : Bool) | int (i : Int) | str (x : Str)
  | glb (x : Str) (d : D)
  | var (m : Md) (i : Nat)
  | bin (op : Operator) (a b : E)
  | un (op : UnaryOp) (a : E)
  | nt (a : E) | and (a b : E) | or (a b : E)
  | cmp (op : CmpOp) (a b : E)
  | chain (op op' : CmpOp) (a b c : E)
  | isN (a : E) | notN (a : E)
  | ife (c a b : E)
  | lst (es : Es) | tup (es : Es)
  | idx (a b : E) | sidx (i : Nat) (b : E)
  | slc (a : E) (lo hi : Eo) | rev (a : E)
  | callP (f : Nat) (es : Es) | callX (f : Nat) (as : As)
  | b1 (b : B1) (a : E) | b2 (b : B2) (a c : E)
  | app (i : Nat) (e : E) | ext (i : Nat) (e : E) | pop (i : Nat) | popAt (i : Nat) (e : E)
  | lc (p : Bool) (t : Tg) (it : It) (c : Eo) (e : E)
  | isi (ty : ITy) (a : E)
  | lc2 (t : Tg) (it : It) (c : Eo) (t1 : Tg) (it1 : It) (c1 : Eo) (e : E)
  | callF (f : Nat) (es : Es)
  | idxOf (i : Nat) (e : E) | rem (i : Nat) (e : E) | lrng (a : E) | mxd (mx : Bool) (a : E) (d : E)
  | wk (t : Ow) (e : E) | mf2 (f : MF) (a b : E)
  | dnew | dc (t : Tg) (it : It) (c : Eo) (ke e : E) | dmut (ext : Bool) (i : Nat) (ke e : E) | dpop (i : Nat) (ke : E) | dget (two : Bool) (i : Nat) (ke o : E) | tapp (i j : Nat) (e : E) | tupM (i : Nat) (e : E) | bitl (e : E)
inductive Es where
  | nil | cons (e : E) (es : Es)
inductive Eo where
  | nil | some (e : E)
inductive As where
  | nil | lend (i : Nat) (r : As) | val (e : E) (r : As)
inductive It where
  | seq (e : E) | rng1 (a : E) | rng2 (a b : E) | enum (e : E) | zip (a b : E) | rng3 (a b : E) (c : Int)
end

def sem2 (op : Operator) (o1 : Ow) (d1 : D) (o2 : Ow) (d2 : D) (Q : Ow → D → Prop) : Prop :=
  match op with
  | .Add => match d1, d2 with
    | .int i, .int j => Q .all (.int (i + j))
    | .lst xs, .lst ys => xs.length + ys.length ≤ sizeLine ∧ ∃ k1 k2, kidsO o1 xs = some k1 ∧ kidsO o2 ys = some k2 ∧ Q (rootO (minO k1 k2)) (.lst (xs ++ ys))
    | .tup xs, .tup ys => xs.length + ys.length ≤ sizeLine ∧ xs ≠ [] ∧ ys ≠ [] ∧ ∃ k1 k2, kidsO o1 xs = some k1 ∧ kidsO o2 ys = some k2 ∧ Q (nrm (minO k1 k2) (.tup (xs ++ ys))) (.tup (xs ++ ys))
    | .str x, .str y => x.length + y.length ≤ sizeLine ∧ Q .all (.str (x ++ y))
    | _, _ => False
  | .Sub => match d1, d2 with
    | .int i, .int j => Q .all (.int (i - j))
    | _, _ => False
  | .Mult => match d1, d2 with
    | .int i, .int j => (small i ∨ small j) ∧ Q .all (.int (i * j))
    | .lst xs, .int k => -(2 ^ 63) ≤ k ∧ k < 2 ^ 63 ∧ xs.length * k.toNat ≤ sizeLine ∧ solidL xs = true ∧ Q .all (.lst (List.replicate k.toNat xs).flatten)
    | _, _ => False
  | .FloorDiv => match d1, d2 with
    | .int i, .int j => 0 < j ∧ j < 1073741824 ∧ Q .all (.int (i / j))
    | _, _ => False
  | .Mod => match d1, d2 with
    | .int i, .int j => 0 < j ∧ Q .all (.int (i % j))
    | _, _ => False
  | .Pow => match d1, d2 with
    | .int i, .int j => 0 ≤ j ∧ j ≤ 1000000 ∧ i.natAbs < 2 ^ 64 ∧ Q .all (.int (i ^ j.toNat))
    | _, _ => False
  | .LShift => match d1, d2 with
    | .int i, .int j => 0 ≤ j ∧ j ≤ 1000000 ∧ i.natAbs < 2 ^ 64 ∧ Q .all (.int (i * 2 ^ j.toNat))
    | _, _ => False
  | .RShift => match d1, d2 with
    | .int i, .int j => 0 ≤ j ∧ Q .all (.int (i / 2 ^ j.toNat))
    | _, _ => False
  | .BitAnd => match d1, d2 with
    | .int i, .int j => Q .all (.int (Builtin.bitAnd i j))
    | _, _ => False
  | .BitOr => match d1, d2 with
    | .int i, .int j => Q .all (.int (Builtin.bitOr i j))
    | _, _ => False
  | .BitXor => match d1, d2 with
    | .int i, .int j => Q .all (.int (Builtin.bitXor i j))
    | _, _ => False
  | _ => False
def semU (op : UnaryOp) (d : D) (Q : D → Prop) : Prop :=
  match op, d with
  | .USub, .int i => Q (.int (-i))
  | .Invert, .int i => Q (.int (Builtin.bitNot i))
  | _, _ => False
def semC (op : CmpOp) (d1 d2 : D) (Q : Bool → Prop) : Prop :=
  match op with
  | .Lt => match d1, d2 with
    | .int i, .int j => Q (decide (i < j))
    | _, _ => False
  | .LtE => match d1, d2 with
    | .int i, .int j => Q (decide (i ≤ j))
    | _, _ => False
  | .Gt => match d1, d2 with
    | .int i, .int j => Q (decide (j < i))
    | _, _ => False
  | .GtE => match d1, d2 with
    | .int i, .int j => Q (decide (j ≤ i))
    | _, _ => False
  | .Eq => plainD d1 = true ∧ plainD d2 = true ∧ Q (deq d1 d2)
  | .NotEq => plainD d1 = true ∧ plainD d2 = true ∧ Q (!deq d1 d2)
  | .In => match d2 with
    | .lst ds => plainD d1 = true ∧ plainD d2 = true ∧ Q (ds.any fun z => deq z d1)
    | .tup ds => plainD d1 = true ∧ plainD d2 = true ∧ Q (ds.any fun z => deq z d1)
    | .dK kvs => ∃ k, keyOf d1 = some k ∧ Q (getK kvs k).isSome
    | _ => False
  | .NotIn => match d2 with
    | .lst ds => plainD d1 = true ∧ plainD d2 = true ∧ Q (!ds.any fun z => deq z d1)
    | .tup ds => plainD d1 = true ∧ plainD d2 = true ∧ Q (!ds.any fun z => deq z d1)
    | .dK kvs => ∃ k, keyOf d1 = some k ∧ Q (!(getK kvs k).isSome)
    | _ => False
  | .Is => match d1, d2 with
    | .bl a, .bl b => Q (decide (a = b))
    | _, _ => False
  | .IsNot => match d1, d2 with
    | .bl a, .bl b => Q (!decide (a = b))
    | _, _ => False
def sem1 (b : B1) (o : Ow) (d : D) (Q : Ow → D → Prop) : Prop :=
  match b with
  | .len => match d with
    | .lst ds => Q .all (.int ds.length)
    | .tup ds => Q .all (.int ds.length)
    | .str x => x.length ≤ sizeLine ∧ Q .all (.int x.length)
    | _ => False
  | .abs => match d with
    | .int i => Q .all (.int (if i < 0 then -i else i))
    | _ => False
  | .int_ => match d with
    | .int i => Q .all (.int i)
    | .bl k => Q .all (.int (if k then 1 else 0))
    | _ => False
  | .sum => match d with
    | .lst ds => ∃ ns, toInts ds = some ns ∧ Q .all (.int ns.sum)
    | _ => False
  | .all_ => match d with
    | .lst ds => ∃ bs, toBls ds = some bs ∧ Q .all (.bl (bs.all id))
    | _ => False
  | .any_ => match d with
    | .lst ds => ∃ bs, toBls ds = some bs ∧ Q .all (.bl (bs.any id))
    | _ => False
  | .list_ => match d with
    | .lst ds => ∃ k, kidsO o ds = some k ∧ Q (rootO k) (.lst ds)
    | .tup ds => ∃ k, kidsO o ds = some k ∧ Q (rootO k) (.lst ds)
    | .scr ns => Q .all (.lst (ns.map D.int))
    | _ => False
  | .tuple_ => match d with
    | .lst ds => ∃ k, kidsO o ds = some k ∧ Q (nrm k (.tup ds)) (.tup ds)
    | .tup ds => Q (nrm o (.tup ds)) (.tup ds)
    | _ => False
  | .sorted_ => match d with
    | .lst ds => (∃ ns, toInts ds = some ns ∧ ∀ ns' : List Int, ns'.Perm ns → ns'.Pairwise (· ≤ ·) → Q .all (.lst (ns'.map D.int))) ∨ (∃ ps, toPairs ds = some ps ∧ ∀ ps' : List (Int × Int), ps'.Perm ps → ps'.Pairwise lexLe → Q .all (.lst (ps'.map encP)))
    | _ => False
  | .max_ => match d with
    | .lst ds => ∃ ns, toInts ds = some ns ∧ 0 < ns.length ∧ ∀ m, m ∈ ns → (∀ y, y ∈ ns → y ≤ m) → Q .all (.int m)
    | _ => False
  | .min_ => match d with
    | .lst ds => ∃ ns, toInts ds = some ns ∧ 0 < ns.length ∧ ∀ m, m ∈ ns → (∀ y, y ∈ ns → m ≤ y) → Q .all (.int m)
    | _ => False
def semB2 (b : B2) (d1 d2 : D) (Q : D → Prop) : Prop :=
  match b, d1, d2 with
  | .max_, .int i, .int j => Q (.int (if j > i then j else i))
  | .min_, .int i, .int j => Q (.int (if j < i then j else i))
  | _, _, _ => False
/-- n over k -/
def combI (a b : Int) : Int := Builtin.Math.fallingProduct a (min b (a - b)).toNat / Builtin.Math.fallingProduct (min b (a - b)) (min b (a - b)).toNat
/-- a module's function of two -/
def semM (f : MF) (d1 d2 : D) (Q : D → Prop) : Prop :=
  match f, d1, d2 with
  | .comb, .int i, .int j => 0 ≤ j ∧ j ≤ i ∧ i ≤ 9000 ∧ (combI i j).natAbs.log2 < bitsLine ∧ Q (.int (combI i j))
  | _, _, _ => False
/-- a slice -/
def semSl (o : Ow) (d : D) (lo hi : Option Int) (Q : Ow → D → Prop) : Prop :=
  match d with
  | .lst ds => ∃ k, kidsO o ds = some k ∧ Q (rootO k) (.lst ((ds.drop (HT.sIx ds.length 0 lo)).take (HT.sIx ds.length ds.length hi - HT.sIx ds.length 0 lo)))
  | _ => False

/-- the parts of a tuple held so -/
def tupO : Ow → Ow
  | .all => .all | .bor => .bor | _ => .sh
mutual
def bindT : Tg → Ow → D → Env → Option Env
  | .nm i, o, d, ρ => some (ρ.set i (some (nrm o d, d)))
  | .tp ts, o, d, ρ => match d with
    | .tup ds => bindTs ts (tupO o) ds ρ
    | _ => none
def bindTs : Tgs → Ow → List D → Env → Option Env
  | .nil, _, ds, ρ => match ds with
    | [] => some ρ
    | _ => none
  | .cons t ts, o, ds, ρ => match ds with
    | d :: ds => (bindT t o d ρ).bind fun ρ1 => bindTs ts o ds ρ1
    | [] => none
end
mutual
def tgs : Tg → List Nat
  | .nm i => [i]
  | .tp ts => tgss ts
def tgss : Tgs → List Nat
  | .nil => []
  | .cons t ts => tgs t ++ tgss ts
end
/-- a comprehension's own names: forgotten ahead of a turn, as they were behind it -/
def wipeE (ρ : Env) : List Nat → Env
  | [] => ρ
  | v :: vs => (wipeE ρ vs).set v none
def solOf : Option (Ow × D) → Option (Ow × D)
  | some (_, d) => if solid d = true then some (.all, d) else none
  | none => none
def backE (ρ ρ' : Env) : List Nat → Env
  | [] => ρ'
  | v :: vs => (backE ρ ρ' vs).set v (solOf (ρ[v]?.getD none))

abbrev CallS := Nat → List (Ow × D) → (Ow → D → List (Option (Ow × D)) → Prop) → Prop
abbrev KE := Ow → D → Env → Prop

/-- a second part behind a first one that is only read now: it may change nothing -/
def wp2 (o : Ow) (d : D) (W : Env → KE → Prop) (ρ : Env) (Q : KE) : Prop :=
  if isTra o d = true then W (lock ρ) (fun o' d' _ => Q (unlO o' d') d' ρ) else W ρ Q
/-- a list's items, one by one -/
def wpLcL (body : D → Env → (Option (Ow × D) → Env → Prop) → Prop) : List D → Env → (Ow → List D → Env → Prop) → Prop
  | [], ρ, Q => Q .all [] ρ
  | d :: ds, ρ, Q => body d ρ fun r ρ1 => wpLcL body ds ρ1 fun k l ρ2 => match r with
    | none => Q k l ρ2
    | some (k', d') => Q (minO k' k) (d' :: l) ρ2
/-- .. each giving a list -/
def wpLcM (body : D → Env → (Ow → List D → Env → Prop) → Prop) : List D → Env → (Ow → List D → Env → Prop) → Prop
  | [], ρ, Q => Q .all [] ρ
  | d :: ds, ρ, Q => body d ρ fun k1 l1 ρ1 => wpLcM body ds ρ1 fun k l ρ2 => Q (minO k1 k) (l1 ++ l) ρ2
/-- a dict's entries, one by one -/
def wpDcL (body : D → Env → (Option (Ow × Key × D) → Env → Prop) → Prop) : List D → Ow → List (Key × D) → Env → (Ow → List (Key × D) → Env → Prop) → Prop
  | [], ka, da, ρ, Q => Q ka da ρ
  | d :: ds, ka, da, ρ, Q => body d ρ fun r ρ1 => match r with
    | none => wpDcL body ds ka da ρ1 Q
    | some (k', k, d') => wpDcL body ds (minO ka k') (putD da k d') ρ1 Q
/-- read as long as the frame runs, whatever it was -/
def lockF (ρ : Env) : Env := ρ.map (Option.map fun p => (nrm .bor p.2, p.2))
/-- what a call gives whose arguments are read: a flat list that is frozen is ours -/
def fshO (o : Ow) (d : D) : Ow := match o, d with
  | .sh, .lst ds => if solidL ds = true then .all else .sh
  | o, _ => o
/-- held less: all items frozen, or all of it -/
def wkO (t o : Ow) (d : D) : Option Ow := if solid d = true then some .all else match t, o with
  | .all, .all => some .all
  | .one, .all => some .one
  | .one, .one => some .one
  | .sh, .all => some .sh
  | .sh, .one => some .sh
  | .sh, .sh => some .sh
  | .bor, .all => some .bor
  | .bor, .one => some .bor
  | .bor, .sh => some .bor
  | .bor, .bor => some .bor
  | .bor, .bor1 => some .bor
  | _, _ => none
/-- what may be lent -/
def oursO : Ow → Bool
  | .sh | .one | .all => true
  | _ => false
/-- lent slots: given back -/
def giveBack : List (Nat ⊕ (Ow × D)) → List (Option (Ow × D)) → Env → Option Env
  | [], _, ρ => some ρ
  | .inl i :: r, some p :: outs, ρ => if oursO p.1 = true then (giveBack r outs ρ).map fun ρ' => ρ'.set i (some p) else none
  | .inr _ :: r, _ :: outs, ρ => giveBack r outs ρ
  | _, _, _ => none
def lends : List (Nat ⊕ (Ow × D)) → List Nat
  | [] => []
  | .inl i :: r => i :: lends r
  | .inr _ :: r => lends r
def resolve (ρ : Env) : List (Nat ⊕ (Ow × D)) → Option (List (Ow × D))
  | [] => some []
  | .inl i :: r => match ρ[i]? with
    | some (some p) => if oursO p.1 = true then (resolve ρ r).map (p :: ·) else none
    | _ => none
  | .inr p :: r => (resolve ρ r).map (p :: ·)

mutual
def wpE (C : CallS) : E → Env → KE → Prop
  | .non, ρ, Q => Q .all .non ρ
  | .bl b, ρ, Q => Q .all (.bl b) ρ
  | .int i, ρ, Q => Q .all (.int i) ρ
  | .str x, ρ, Q => Q .all (.str x) ρ
  | .glb _ d, ρ, Q => Q .all d ρ
  | .var m i, ρ, Q => ∃ o d, ρ[i]? = some (some (o, d)) ∧ match m with
    | .pk => Q (pkO o d) d ρ
    | .sh => if solid d = true then Q .all d ρ else match o with
      | .sh | .one | .all => Q .sh d (ρ.set i (some (.sh, d)))
      | _ => False
    | .sc => if solid d = true then Q .all d ρ else match o with
      | .one | .all => Q .tra1 d (ρ.set i (some (.one, d)))
      | .bor1 => Q .bor1 d ρ
      | .sh => Q .sh d ρ
      | _ => False
    | .mv => Q o d (ρ.set i none)
  | .bin op a b, ρ, Q => wpE C a ρ fun o1 d1 ρ1 => wp2 o1 d1 (wpE C b) ρ1 fun o2 d2 ρ2 => sem2 op o1 d1 o2 d2 fun o d => Q o d ρ2
  | .un op a, ρ, Q => wpE C a ρ fun _ d ρ1 => semU op d fun d' => Q .all d' ρ1
  | .nt a, ρ, Q => wpE C a ρ fun _ d ρ1 => ∃ t, truth d = some t ∧ Q .all (.bl (!t)) ρ1
  | .and a b, ρ, Q => wpE C a ρ fun o d ρ1 => ∃ t, truth d = some t ∧ if t = true then wpE C b ρ1 Q else Q o d ρ1
  | .or a b, ρ, Q => wpE C a ρ fun o d ρ1 => ∃ t, truth d = some t ∧ if t = true then Q o d ρ1 else wpE C b ρ1 Q
  | .cmp op a b, ρ, Q => wpE C a ρ fun o1 d1 ρ1 => wp2 o1 d1 (wpE C b) ρ1 fun _ d2 ρ2 => semC op d1 d2 fun t => Q .all (.bl t) ρ2
  | .chain op op' a b c, ρ, Q => wpE C a ρ fun o1 d1 ρ1 => wp2 o1 d1 (wpE C b) ρ1 fun o2 d2 ρ2 => solid d2 = true ∧ semC op d1 d2 fun t =>
      if t = true then wpE C c ρ2 fun _ d3 ρ3 => semC op' d2 d3 fun t' => Q .all (.bl t') ρ3 else Q .all (.bl false) ρ2
  | .isN a, ρ, Q => wpE C a ρ fun _ d ρ1 => Q .all (.bl (isNon d)) ρ1
  | .notN a, ρ, Q => wpE C a ρ fun _ d ρ1 => Q .all (.bl (!isNon d)) ρ1
  | .ife c a b, ρ, Q => wpE C c ρ fun _ d ρ1 => ∃ t, truth d = some t ∧ if t = true then wpE C a ρ1 Q else wpE C b ρ1 Q
  | .lst es, ρ, Q => wpEs C es ρ fun k ds ρ1 => ds.length ≤ sizeLine ∧ Q (rootO k) (.lst ds) ρ1
  | .tup es, ρ, Q => wpEs C es ρ fun k ds ρ1 => ds.length ≤ sizeLine ∧ Q (nrm k (.tup ds)) (.tup ds) ρ1
  | .idx a b, ρ, Q => wpE C a ρ fun o1 d1 ρ1 => wp2 o1 d1 (wpE C b) ρ1 fun _ d2 ρ2 => ∃ d, getI d1 d2 = some d ∧ Q (kidO o1 d) d ρ2
  | .sidx i b, ρ, Q => (∃ p, ρ[i]? = some (some p)) ∧ wpE C b ρ fun _ d2 ρ1 => ∃ o d1, ρ1[i]? = some (some (o, d1)) ∧ ∃ d, getI d1 d2 = some d ∧ Q (kidO (pkO o d1) d) d ρ1
  | .slc a lo hi, ρ, Q => wpE C a ρ fun o1 d1 ρ1 => wpEo C lo (lock ρ1) fun l => wpEo C hi (lock ρ1) fun u => semSl o1 d1 l u fun o d => Q o d ρ1
  | .rev a, ρ, Q => wpE C a ρ fun o1 d1 ρ1 => match d1 with
    | .lst ds => ∃ k, kidsO o1 ds = some k ∧ Q (rootO k) (.lst ds.reverse) ρ1
    | _ => False
  | .callP f es, ρ, Q => wpArgs C es (lock ρ) fun l => C f l fun o d _ => Q o d ρ
  | .callX f as, ρ, Q => wpAs C as ρ fun l ρ1 => (lends l).Nodup ∧ ∃ args, resolve ρ1 l = some args ∧ C f args fun o d outs => ∃ ρ2, giveBack l outs ρ1 = some ρ2 ∧ Q o d ρ2
  | .b1 b a, ρ, Q => wpE C a ρ fun o d ρ1 => sem1 b o d fun o' d' => Q o' d' ρ1
  | .b2 b a c, ρ, Q => wpE C a ρ fun _ d1 ρ1 => solid d1 = true ∧ wpE C c ρ1 fun _ d2 ρ2 => semB2 b d1 d2 fun d => Q .all d ρ2
  | .app i e, ρ, Q => (∃ o xs, ρ[i]? = some (some (o, .lst xs))) ∧ wpE C e ρ fun o d ρ1 => ∃ k ds oi, chO o d = some k ∧ ρ1[i]? = some (some (oi, .lst ds)) ∧ (oi = .one ∨ oi = .all) ∧ ds.length < sizeLine ∧
      Q .all .non (ρ1.set i (some (if oi = .all ∧ k = .all then .all else .one, .lst (ds ++ [d]))))
  | .ext i e, ρ, Q => (∃ o xs, ρ[i]? = some (some (o, .lst xs))) ∧ wpE C e ρ fun o d ρ1 => ∃ es k ds oi, d = .lst es ∧ kidsO o es = some k ∧ ρ1[i]? = some (some (oi, .lst ds)) ∧ (oi = .one ∨ oi = .all) ∧ ds.length + es.length ≤ sizeLine ∧
      Q .all .non (ρ1.set i (some (if oi = .all ∧ k = .all then .all else .one, .lst (ds ++ es))))
  | .pop i, ρ, Q => ∃ ds d oi, ρ[i]? = some (some (oi, .lst (ds ++ [d]))) ∧ (oi = .one ∨ oi = .all) ∧ Q (kidO oi d) d (ρ.set i (some (oi, .lst ds)))
  | .popAt i e, ρ, Q => (∃ o xs, ρ[i]? = some (some (o, .lst xs))) ∧ wpE C e ρ fun _ de ρ1 => ∃ j k ds d oi, de = .int j ∧ ρ1[i]? = some (some (oi, .lst ds)) ∧ (oi = .one ∨ oi = .all) ∧ -(2 ^ 63) ≤ j ∧ j < 2 ^ 63 ∧ seqIndex? j ds.length = some k ∧ ds[k]? = some d ∧
      Q (kidO oi d) d (ρ1.set i (some (oi, .lst (ds.eraseIdx k))))
  | .lc p t it c e, ρ, Q => wpIt C it ρ fun o ds ρ1 => ds.length < sizeLine ∧
      (if p = true then
        wpLcL (fun d ρ' K => ∃ ρ2, bindT t (itmO o) d (wipeE (lock ρ') (tgs t)) = some ρ2 ∧ wpC C c ρ2 fun b ρ3 =>
          if b = true then wpE C e ρ3 fun o' d' _ => ∃ k, chO o' d' = some k ∧ K (some (k, d')) ρ' else K none ρ') ds ρ1 fun k l ρ2 => Q (rootO k) (.lst l) ρ2
      else (o ≠ .tra ∧ o ≠ .tra1) ∧
        wpLcL (fun d ρ' K => ∃ ρ2, bindT t (itmO o) d (wipeE ρ' (tgs t)) = some ρ2 ∧ wpC C c ρ2 fun b ρ3 =>
          if b = true then wpE C e ρ3 fun o' d' ρ4 => ∃ k, chO o' d' = some k ∧ K (some (k, d')) (backE ρ' ρ4 (tgs t)) else K none (backE ρ' ρ3 (tgs t))) ds ρ1 fun k l ρ2 => Q (rootO k) (.lst l) ρ2)
  | .isi ty a, ρ, Q => wpE C a ρ fun _ d ρ1 => ∃ b, isiD ty d = some b ∧ Q .all (.bl b) ρ1
  | .lc2 t it c t1 it1 c1 e, ρ, Q => wpIt C it ρ fun o ds ρ1 => o ≠ .tra ∧ ∃ B, ds.length * B < sizeLine ∧
      wpLcM (fun d ρ' K => ∃ ρ2, bindT t (itmO o) d (wipeE (lock ρ') (tgs t ++ tgs t1)) = some ρ2 ∧ wpC C c ρ2 fun b _ =>
        if b = true then wpIt C it1 ρ2 fun o1 ds1 _ => (o1 ≠ .tra ∧ o1 ≠ .tra1) ∧ ds1.length ≤ B ∧
          wpLcL (fun d1 _ K1 => ∃ ρ3, bindT t1 (itmO o1) d1 (wipeE (lock ρ2) (tgs t1)) = some ρ3 ∧ wpC C c1 ρ3 fun b1 ρ4 =>
            if b1 = true then wpE C e ρ4 fun o' d' _ => ∃ k, chO o' d' = some k ∧ K1 (some (k, d')) ρ' else K1 none ρ') ds1 ρ' K
        else K .all [] ρ') ds ρ1 fun k l ρ2 => Q (rootO k) (.lst l) ρ2
  | .callF f es, ρ, Q => wpArgs C es (lockF ρ) fun l => C f l fun o d _ => Q (fshO o d) d ρ
  | .idxOf i e, ρ, Q => (∃ o xs, ρ[i]? = some (some (o, .lst xs))) ∧ wpE C e ρ fun _ d ρ1 => ∃ o xs j z, ρ1[i]? = some (some (o, .lst xs)) ∧ plainD (.lst xs) = true ∧ plainD d = true ∧ xs[j]? = some z ∧ deq z d = true ∧
      (∀ (m : Nat) (z' : D), m < j → xs[m]? = some z' → deq z' d = false) ∧ Q .all (.int (j : Nat)) ρ1
  | .rem i e, ρ, Q => (∃ o xs, ρ[i]? = some (some (o, .lst xs))) ∧ wpE C e ρ fun _ d ρ1 => ∃ (oi : Ow) (ns : List Int) (k : Int) (j : Nat), d = .int k ∧ ρ1[i]? = some (some (oi, .lst (ns.map D.int))) ∧ (oi = .one ∨ oi = .all) ∧ ns[j]? = some k ∧ (∀ m : Nat, m < j → ns[m]? ≠ some k) ∧
      Q .all .non (ρ1.set i (some (.all, .lst ((ns.eraseIdx j).map D.int))))
  | .lrng a, ρ, Q => wpE C a ρ fun _ d ρ1 => ∃ j, d = .int j ∧ -(2 ^ 62) ≤ j ∧ j < sizeLine ∧ Q .all (.lst ((List.range j.toNat).map fun i => .int (Int.ofNat i))) ρ1
  | .mxd mx a d, ρ, Q => wpE C a ρ fun o v ρ1 => ∃ ns, v = .lst (ns.map D.int) ∧ wp2 o v (wpE C d) ρ1 fun _ dd ρ2 => solid dd = true ∧
      if ns = [] then Q .all dd ρ2 else ∀ m, m ∈ ns → (if mx = true then ∀ y, y ∈ ns → y ≤ m else ∀ y, y ∈ ns → m ≤ y) → Q .all (.int m) ρ2
  | .wk t e, ρ, Q => wpE C e ρ fun o d ρ1 => ∃ o2, wkO t o d = some o2 ∧ Q o2 d ρ1
  | .mf2 f a c, ρ, Q => wpE C a ρ fun _ d1 ρ1 => solid d1 = true ∧ wpE C c ρ1 fun _ d2 ρ2 => semM f d1 d2 fun d => Q .all d ρ2
  | .dnew, ρ, Q => Q .all (.dK []) ρ
  | .dc t it c ke e, ρ, Q => wpIt C it ρ fun o ds ρ1 => ds.length < sizeLine ∧
      wpDcL (fun d ρ' K => ∃ ρ2, bindT t (itmO o) d (wipeE (lock ρ') (tgs t)) = some ρ2 ∧ wpC C c ρ2 fun b ρ3 =>
        if b = true then wpE C ke ρ3 fun _ dk ρ4 => ∃ k, keyOf dk = some k ∧ wpE C e ρ4 fun o' d' _ => ∃ kk, chO o' d' = some kk ∧ K (some (kk, k, d')) ρ' else K none ρ') ds .all [] ρ1 fun k l ρ2 => Q (rootO k) (.dK l) ρ2
  | .dmut x i ke e, ρ, Q => ∃ kvs k ds, ρ[i]? = some (some (.all, .dK kvs)) ∧ (wpE C ke (lock ρ) fun _ dk _ => keyOf dk = some k) ∧ getK kvs k = some (.lst ds) ∧
      wpE C e (lock ρ) fun _ d _ => ∃ es, (if x = true then d = .lst es else es = [d]) ∧ solidL es = true ∧ ds.length + es.length ≤ sizeLine ∧
      Q .all .non (ρ.set i (some (.all, .dK (setD k (.lst (ds ++ es)) kvs))))
  | .dpop i ke, ρ, Q => ∃ kvs k d, ρ[i]? = some (some (.all, .dK kvs)) ∧ (wpE C ke (lock ρ) fun _ dk _ => keyOf dk = some k) ∧ getK kvs k = some d ∧
      Q (nrm .all d) d (ρ.set i (some (.all, .dK (dropD kvs k))))
  | .dget _ i ke o, ρ, Q => ∃ w kvs k, ρ[i]? = some (some (w, .dK kvs)) ∧ (wpE C ke (lock ρ) fun _ dk _ => keyOf dk = some k) ∧
      wpE C o (lock ρ) fun _ d _ => solid d = true ∧ solid ((getK kvs k).getD d) = true ∧ Q .all ((getK kvs k).getD d) ρ
  | .tapp i j e, ρ, Q => ∃ ds es, ρ[i]? = some (some (.all, .tup ds)) ∧ ds[j]? = some (.lst es) ∧ es.length < sizeLine ∧ wpE C e (lock ρ) fun o d _ => chO o d = some .all ∧
      Q .all .non (ρ.set i (some (.all, .tup (ds.set j (.lst (es ++ [d]))))))
  | .tupM i e, ρ, Q => (∃ p, ρ[i]? = some (some p)) ∧ wpE C e ρ fun o d ρ1 => ∃ oi di, ρ1[i]? = some (some (oi, di)) ∧ chO oi di = some .all ∧ chO o d = some .all ∧ Q .all (.tup [di, d]) (ρ1.set i none)
  | .bitl e, ρ, Q => wpE C e ρ fun _ d ρ1 => ∃ j, d = .int j ∧ Q .all (.int (Builtin.Int.intBits j : Nat)) ρ1
/-- a display's items -/
def wpEs (C : CallS) : Es → Env → (Ow → List D → Env → Prop) → Prop
  | .nil, ρ, Q => Q .all [] ρ
  | .cons e es, ρ, Q => wpE C e ρ fun o d ρ1 => ∃ k, chO o d = some k ∧ wpEs C es ρ1 fun k2 ds ρ2 => Q (minO k k2) (d :: ds) ρ2
/-- a slice's end (nothing may change) -/
def wpEo (C : CallS) : Eo → Env → (Option Int → Prop) → Prop
  | .nil, _, Q => Q none
  | .some e, ρ, Q => wpE C e ρ fun _ d _ => ∃ i, d = .int i ∧ Q (some i)
/-- a comprehension's test -/
def wpC (C : CallS) : Eo → Env → (Bool → Env → Prop) → Prop
  | .nil, ρ, Q => Q true ρ
  | .some e, ρ, Q => wpE C e ρ fun _ d ρ1 => ∃ t, truth d = some t ∧ Q t ρ1
/-- the arguments of a call that changes nothing -/
def wpArgs (C : CallS) : Es → Env → (List (Ow × D) → Prop) → Prop
  | .nil, _, Q => Q []
  | .cons e es, ρ, Q => wpE C e ρ fun o d _ => ∃ o', asgO o d = some o' ∧ wpArgs C es ρ fun l => Q ((o', d) :: l)
def wpAs (C : CallS) : As → Env → (List (Nat ⊕ (Ow × D)) → Env → Prop) → Prop
  | .nil, ρ, Q => Q [] ρ
  | .lend i r, ρ, Q => (∃ p, ρ[i]? = some (some p)) ∧ wpAs C r ρ fun l ρ1 => Q (.inl i :: l) ρ1
  | .val e r, ρ, Q => wpE C e ρ fun o d ρ1 => ∃ o', asgO o d = some o' ∧ wpAs C r ρ1 fun l ρ2 => Q (.inr (o', d) :: l) ρ2
def wpIt (C : CallS) : It → Env → (Ow → List D → Env → Prop) → Prop
  | .seq e, ρ, Q => wpE C e ρ fun o d ρ1 => match d with
    | .lst ds => Q o ds ρ1
    | .tup ds => Q o ds ρ1
    | _ => False
  | .rng1 a, ρ, Q => wpE C a ρ fun _ d ρ1 => ∃ j, d = .int j ∧ -(2 ^ 62) ≤ j ∧ j < 2 ^ 62 ∧ Q .sh ((List.range j.toNat).map fun i => .int (Int.ofNat i)) ρ1
  | .rng2 a b, ρ, Q => wpE C a ρ fun _ d ρ1 => ∃ i, d = .int i ∧ wpE C b ρ1 fun _ d2 ρ2 => ∃ j, d2 = .int j ∧ (-(2 ^ 62) ≤ i ∧ i < 2 ^ 62 ∧ -(2 ^ 62) ≤ j ∧ j < 2 ^ 62) ∧ Q .sh ((List.range (j - i).toNat).map fun k => .int (i + Int.ofNat k)) ρ2
  | .enum e, ρ, Q => wpE C e ρ fun o d ρ1 => match d with
    | .lst ds => Q o (ds.mapIdx fun i d => .tup [.int i, d]) ρ1
    | _ => False
  | .zip a b, ρ, Q => wpE C a ρ fun o1 d1 ρ1 => wp2 o1 d1 (wpE C b) ρ1 fun o2 d2 ρ2 => ∃ xs ys, d1 = .lst xs ∧ d2 = .lst ys ∧ xs.length = ys.length ∧ solidL xs = true ∧
      Q (if o1 = .tra ∨ o1 = .tra1 then .tra else o2) (List.zipWith (fun x y => .tup [x, y]) xs ys) ρ2
  | .rng3 a b c, ρ, Q => wpE C a ρ fun _ d ρ1 => ∃ i, d = .int i ∧ wpE C b ρ1 fun _ d2 ρ2 => ∃ j n, d2 = .int j ∧ L2.RgC i j c n ∧ Q .sh ((List.range n).map fun k => .int (i + Int.ofNat k * c)) ρ2
end
end VH
namespace VH
open PySem L2

theorem sem2_mono {op : Operator} {o1 o2 : Ow} {d1 d2 : D} {Q Q' : Ow → D → Prop} (h : ∀ o d, Q o d → Q' o d) : sem2 op o1 d1 o2 d2 Q → sem2 op o1 d1 o2 d2 Q' := by
  unfold sem2
  split <;> first
    | (split <;> first
        | exact h _ _
        | exact fun x => x
        | (rintro ⟨a, k1, k2, e1, e2, q⟩; exact ⟨a, k1, k2, e1, e2, h _ _ q⟩)
        | (rintro ⟨a, b, c, k1, k2, e1, e2, q⟩; exact ⟨a, b, c, k1, k2, e1, e2, h _ _ q⟩)
        | (rintro ⟨a, b, c, e, q⟩; exact ⟨a, b, c, e, h _ _ q⟩)
        | (rintro ⟨a, b, c, q⟩; exact ⟨a, b, c, h _ _ q⟩)
        | (rintro ⟨a, b, q⟩; exact ⟨a, b, h _ _ q⟩)
        | (rintro ⟨a, q⟩; exact ⟨a, h _ _ q⟩))
    | exact fun x => x
theorem semU_mono {op : UnaryOp} {d : D} {Q Q' : D → Prop} (h : ∀ d, Q d → Q' d) : semU op d Q → semU op d Q' := by
  unfold semU
  split <;> first | exact h _ | exact fun x => x
theorem semC_mono {op : CmpOp} {d1 d2 : D} {Q Q' : Bool → Prop} (h : ∀ d, Q d → Q' d) : semC op d1 d2 Q → semC op d1 d2 Q' := by
  unfold semC
  split <;> first
    | (split <;> first | exact h _ | exact fun x => x | exact fun ⟨a, b, q⟩ => ⟨a, b, h _ q⟩)
    | exact fun ⟨a, b, q⟩ => ⟨a, b, h _ q⟩
    | exact fun x => x
theorem sem1_mono {b : B1} {o : Ow} {d : D} {Q Q' : Ow → D → Prop} (h : ∀ o d, Q o d → Q' o d) : sem1 b o d Q → sem1 b o d Q' := by
  unfold sem1
  split <;> (split <;> first
    | exact h _ _
    | exact fun x => x
    | exact fun x => x.elim (fun ⟨ns, e, q⟩ => .inl ⟨ns, e, fun m a b => h _ _ (q m a b)⟩) (fun ⟨ns, e, q⟩ => .inr ⟨ns, e, fun m a b => h _ _ (q m a b)⟩)
    | exact fun ⟨ns, e, z, q⟩ => ⟨ns, e, z, fun m a b => h _ _ (q m a b)⟩
    | exact fun ⟨ns, e, q⟩ => ⟨ns, e, fun m a b => h _ _ (q m a b)⟩
    | exact fun ⟨ns, e, q⟩ => ⟨ns, e, h _ _ q⟩
    | exact fun ⟨ns, q⟩ => ⟨ns, h _ _ q⟩)
theorem semB2_mono {b : B2} {d1 d2 : D} {Q Q' : D → Prop} (h : ∀ d, Q d → Q' d) : semB2 b d1 d2 Q → semB2 b d1 d2 Q' := by
  unfold semB2
  split <;> first | exact h _ | exact fun x => x
theorem semM_mono {f : MF} {d1 d2 : D} {Q Q' : D → Prop} (h : ∀ d, Q d → Q' d) : semM f d1 d2 Q → semM f d1 d2 Q' := by
  unfold semM
  split <;> first | exact fun ⟨a, b, c, d, q⟩ => ⟨a, b, c, d, h _ q⟩ | exact fun x => x
theorem semSl_mono {o : Ow} {d : D} {lo hi : Option Int} {Q Q' : Ow → D → Prop} (h : ∀ o d, Q o d → Q' o d) : semSl o d lo hi Q → semSl o d lo hi Q' := by
  unfold semSl
  split <;> first | exact fun ⟨k, e, q⟩ => ⟨k, e, h _ _ q⟩ | exact fun x => x

def MonoC (C : CallS) : Prop := ∀ f l (Q Q' : Ow → D → List (Option (Ow × D)) → Prop), (∀ o d outs, Q o d outs → Q' o d outs) → C f l Q → C f l Q'

theorem wp2_mono {o : Ow} {d : D} {W : Env → KE → Prop} {ρ : Env} {Q Q' : KE} (hW : ∀ ρ (Q Q' : KE), (∀ o d ρ, Q o d ρ → Q' o d ρ) → W ρ Q → W ρ Q') (h : ∀ o d ρ, Q o d ρ → Q' o d ρ) : wp2 o d W ρ Q → wp2 o d W ρ Q' := by
  unfold wp2
  split
  · exact hW _ _ _ fun _ _ _ q => h _ _ _ q
  · exact hW _ _ _ h
theorem wpLcL_mono {body body' : D → Env → (Option (Ow × D) → Env → Prop) → Prop} (hb : ∀ d ρ (Q Q' : Option (Ow × D) → Env → Prop), (∀ r ρ, Q r ρ → Q' r ρ) → body d ρ Q → body' d ρ Q') :
    ∀ {ds : List D} {ρ : Env} {Q Q' : Ow → List D → Env → Prop}, (∀ k l ρ, Q k l ρ → Q' k l ρ) → wpLcL body ds ρ Q → wpLcL body' ds ρ Q'
  | [], _, _, _, h, w => h _ _ _ w
  | d :: ds, ρ, Q, Q', h, w => by
    refine hb d ρ _ _ (fun r ρ1 q => ?_) w
    refine wpLcL_mono hb (fun k l ρ2 q => ?_) q
    cases r with
    | none => exact h _ _ _ q
    | some p => exact h _ _ _ q

theorem wpLcM_mono {body body' : D → Env → (Ow → List D → Env → Prop) → Prop} (hb : ∀ d ρ (Q Q' : Ow → List D → Env → Prop), (∀ k l ρ, Q k l ρ → Q' k l ρ) → body d ρ Q → body' d ρ Q') :
    ∀ {ds : List D} {ρ : Env} {Q Q' : Ow → List D → Env → Prop}, (∀ k l ρ, Q k l ρ → Q' k l ρ) → wpLcM body ds ρ Q → wpLcM body' ds ρ Q'
  | [], _, _, _, h, w => h _ _ _ w
  | d :: ds, ρ, Q, Q', h, w => hb d ρ _ _ (fun k l ρ1 q => wpLcM_mono hb (fun k l ρ2 q => h _ _ _ q) q) w
theorem wpDcL_mono {body body' : D → Env → (Option (Ow × Key × D) → Env → Prop) → Prop} (hb : ∀ d ρ (Q Q' : Option (Ow × Key × D) → Env → Prop), (∀ r ρ, Q r ρ → Q' r ρ) → body d ρ Q → body' d ρ Q') :
    ∀ (ds : List D) (ka : Ow) (da : List (Key × D)) (ρ : Env) {Q Q' : Ow → List (Key × D) → Env → Prop}, (∀ k l ρ, Q k l ρ → Q' k l ρ) → wpDcL body ds ka da ρ Q → wpDcL body' ds ka da ρ Q'
  | [], ka, da, ρ, Q, Q', h, w => h _ _ _ w
  | d :: ds, ka, da, ρ, Q, Q', h, w => hb d ρ _ _ (fun r ρ1 q => by
      match r with
      | none => exact wpDcL_mono hb ds _ _ _ h q
      | some (k', k, d') => exact wpDcL_mono hb ds _ _ _ h q) w
set_option hygiene false in
mutual
theorem wpE_mono {C : CallS} (hC : MonoC C) : ∀ (e : E) (ρ : Env) (Q Q' : KE), (∀ o d ρ, Q o d ρ → Q' o d ρ) → wpE C e ρ Q → wpE C e ρ Q'
  | .non, ρ, Q, Q', h, w => h _ _ _ w
  | .bl b, ρ, Q, Q', h, w => h _ _ _ w
  | .int i, ρ, Q, Q', h, w => h _ _ _ w
  | .str x, ρ, Q, Q', h, w => h _ _ _ w
  | .glb _ d, ρ, Q, Q', h, w => h _ _ _ w
  | .var m i, ρ, Q, Q', h, w => by
    unfold wpE at w ⊢
    obtain ⟨o, d, e, w⟩ := w
    refine ⟨o, d, e, ?_⟩
    cases m with
    | pk => exact h _ _ _ w
    | mv => exact h _ _ _ w
    | sh =>
      dsimp only at w ⊢
      split at w
      · rename_i hs; rw [if_pos hs]; exact h _ _ _ w
      · rename_i hs
        rw [if_neg hs]
        cases o <;> first | exact h _ _ _ w | exact w
    | sc =>
      dsimp only at w ⊢
      split at w
      · rename_i hs; rw [if_pos hs]; exact h _ _ _ w
      · rename_i hs
        rw [if_neg hs]
        cases o <;> first | exact h _ _ _ w | exact w
  | .bin op a b, ρ, Q, Q', h, w => wpE_mono hC a ρ _ _ (fun _ _ _ q => wp2_mono (fun ρ Q Q' => wpE_mono hC b ρ Q Q') (fun _ _ _ q => sem2_mono (fun _ _ => h _ _ _) q) q) w
  | .un op a, ρ, Q, Q', h, w => wpE_mono hC a ρ _ _ (fun _ _ _ q => semU_mono (fun _ => h _ _ _) q) w
  | .nt a, ρ, Q, Q', h, w => wpE_mono hC a ρ _ _ (fun _ _ _ ⟨t, e, q⟩ => ⟨t, e, h _ _ _ q⟩) w
  | .and a b, ρ, Q, Q', h, w => wpE_mono hC a ρ _ _ (fun _ _ _ ⟨t, e, q⟩ => ⟨t, e, by
      cases t with
      | true => exact wpE_mono hC b _ _ _ h q
      | false => exact h _ _ _ q⟩) w
  | .or a b, ρ, Q, Q', h, w => wpE_mono hC a ρ _ _ (fun _ _ _ ⟨t, e, q⟩ => ⟨t, e, by
      cases t with
      | true => exact h _ _ _ q
      | false => exact wpE_mono hC b _ _ _ h q⟩) w
  | .cmp op a b, ρ, Q, Q', h, w => wpE_mono hC a ρ _ _ (fun _ _ _ q => wp2_mono (fun ρ Q Q' => wpE_mono hC b ρ Q Q') (fun _ _ _ q => semC_mono (fun _ => h _ _ _) q) q) w
  | .chain op op' a b c, ρ, Q, Q', h, w => wpE_mono hC a ρ _ _ (fun _ _ _ q => wp2_mono (fun ρ Q Q' => wpE_mono hC b ρ Q Q') (fun _ _ _ ⟨s, q⟩ => ⟨s, semC_mono (fun t q => by
      cases t with
      | true => exact wpE_mono hC c _ _ _ (fun _ _ _ q => semC_mono (fun _ => h _ _ _) q) q
      | false => exact h _ _ _ q) q⟩) q) w
  | .isN a, ρ, Q, Q', h, w => wpE_mono hC a ρ _ _ (fun _ _ _ q => h _ _ _ q) w
  | .notN a, ρ, Q, Q', h, w => wpE_mono hC a ρ _ _ (fun _ _ _ q => h _ _ _ q) w
  | .ife c a b, ρ, Q, Q', h, w => wpE_mono hC c ρ _ _ (fun _ _ _ ⟨t, e, q⟩ => ⟨t, e, by
      cases t with
      | true => exact wpE_mono hC a _ _ _ h q
      | false => exact wpE_mono hC b _ _ _ h q⟩) w
  | .lst es, ρ, Q, Q', h, w => wpEs_mono hC es ρ _ _ (fun _ _ _ ⟨z, q⟩ => ⟨z, h _ _ _ q⟩) w
  | .tup es, ρ, Q, Q', h, w => wpEs_mono hC es ρ _ _ (fun _ _ _ ⟨z, q⟩ => ⟨z, h _ _ _ q⟩) w
  | .idx a b, ρ, Q, Q', h, w => wpE_mono hC a ρ _ _ (fun _ _ _ q => wp2_mono (fun ρ Q Q' => wpE_mono hC b ρ Q Q') (fun _ _ _ ⟨d, e, q⟩ => ⟨d, e, h _ _ _ q⟩) q) w
  | .sidx i b, ρ, Q, Q', h, w => ⟨w.1, wpE_mono hC b ρ _ _ (fun _ _ _ ⟨o, d, e, d', e', q⟩ => ⟨o, d, e, d', e', h _ _ _ q⟩) w.2⟩
  | .slc a lo hi, ρ, Q, Q', h, w => wpE_mono hC a ρ _ _ (fun _ _ _ q => wpEo_mono hC lo _ _ _ (fun _ q => wpEo_mono hC hi _ _ _ (fun _ q => semSl_mono (fun _ _ => h _ _ _) q) q) q) w
  | .rev a, ρ, Q, Q', h, w => wpE_mono hC a ρ _ _ (fun _ d _ q => by
      cases d <;> first | exact q | (obtain ⟨k, e, q⟩ := q; exact ⟨k, e, h _ _ _ q⟩)) w
  | .callP f es, ρ, Q, Q', h, w => wpArgs_mono hC es _ _ _ (fun l q => hC f l _ _ (fun _ _ _ => h _ _ _) q) w
  | .callX f as, ρ, Q, Q', h, w => wpAs_mono hC as _ _ _ (fun l ρ1 ⟨n, args, e, q⟩ => ⟨n, args, e, hC f args _ _ (fun _ _ _ ⟨ρ2, e, q⟩ => ⟨ρ2, e, h _ _ _ q⟩) q⟩) w
  | .b1 b a, ρ, Q, Q', h, w => wpE_mono hC a ρ _ _ (fun _ _ _ q => sem1_mono (fun _ _ => h _ _ _) q) w
  | .b2 b a c, ρ, Q, Q', h, w => wpE_mono hC a ρ _ _ (fun _ _ _ ⟨s, q⟩ => ⟨s, wpE_mono hC c _ _ _ (fun _ _ _ q => semB2_mono (fun _ => h _ _ _) q) q⟩) w
  | .app i e, ρ, Q, Q', h, w => ⟨w.1, wpE_mono hC e ρ _ _ (fun _ _ _ ⟨k, ds, oi, a, b, c, z, q⟩ => ⟨k, ds, oi, a, b, c, z, h _ _ _ q⟩) w.2⟩
  | .ext i e, ρ, Q, Q', h, w => ⟨w.1, wpE_mono hC e ρ _ _ (fun _ _ _ ⟨es, k, ds, oi, a, b, c, z, y, q⟩ => ⟨es, k, ds, oi, a, b, c, z, y, h _ _ _ q⟩) w.2⟩
  | .pop i, ρ, Q, Q', h, w => by
    unfold wpE at w ⊢
    obtain ⟨ds, d, oi, e, c, q⟩ := w
    exact ⟨ds, d, oi, e, c, h _ _ _ q⟩
  | .popAt i e, ρ, Q, Q', h, w => ⟨w.1, wpE_mono hC e ρ _ _ (fun _ _ _ ⟨j, k, ds, d, oi, a, b, c, z, y, x, u, q⟩ => ⟨j, k, ds, d, oi, a, b, c, z, y, x, u, h _ _ _ q⟩) w.2⟩
  | .lc p t it c e, ρ, Q, Q', h, w => wpIt_mono hC it ρ _ _ (fun o ds ρ1 ⟨z, q⟩ => ⟨z, by
      cases p with
      | true =>
        rw [if_pos rfl] at q ⊢
        refine wpLcL_mono (fun d ρ' Q Q' h ⟨ρ2, e1, w⟩ => ⟨ρ2, e1, wpC_mono hC c _ _ _ (fun b ρ3 q => ?_) w⟩) (fun _ _ _ q => h _ _ _ q) q
        cases b with
        | true => exact wpE_mono hC e _ _ _ (fun _ _ _ ⟨k, e, q⟩ => ⟨k, e, h _ _ q⟩) q
        | false => exact h _ _ q
      | false =>
        rw [if_neg (by decide)] at q ⊢
        refine ⟨q.1, wpLcL_mono (fun d ρ' Q Q' h ⟨ρ2, e1, w⟩ => ⟨ρ2, e1, wpC_mono hC c _ _ _ (fun b ρ3 q => ?_) w⟩) (fun _ _ _ q => h _ _ _ q) q.2⟩
        cases b with
        | true => exact wpE_mono hC e _ _ _ (fun _ _ _ ⟨k, e, q⟩ => ⟨k, e, h _ _ q⟩) q
        | false => exact h _ _ q⟩) w
  | .isi ty a, ρ, Q, Q', h, w => wpE_mono hC a ρ _ _ (fun _ _ _ ⟨b, e, q⟩ => ⟨b, e, h _ _ _ q⟩) w
  | .lc2 t it c t1 it1 c1 e, ρ, Q, Q', h, w => wpIt_mono hC it ρ _ _ (fun o ds ρ1 ⟨nt, B, z, q⟩ => ⟨nt, B, z, wpLcM_mono (fun d ρ' K K' hk ⟨ρ2, e1, w⟩ => ⟨ρ2, e1, wpC_mono hC c _ _ _ (fun b ρ3 q => by
      cases b with
      | false => exact hk _ _ _ q
      | true => exact wpIt_mono hC it1 _ _ _ (fun o1 ds1 _ ⟨nt, n, q⟩ => ⟨nt, n, wpLcL_mono (fun d1 ρ'' K1 K1' hk1 ⟨ρ3, e3, w⟩ => ⟨ρ3, e3, wpC_mono hC c1 _ _ _ (fun b1 ρ4 q => by
        cases b1 with
        | false => exact hk1 _ _ q
        | true => exact wpE_mono hC e _ _ _ (fun _ _ _ ⟨k, e, q⟩ => ⟨k, e, hk1 _ _ q⟩) q) w⟩) (fun _ _ _ q => hk _ _ _ q) q⟩) q) w⟩) (fun _ _ _ q => h _ _ _ q) q⟩) w
  | .callF f es, ρ, Q, Q', h, w => wpArgs_mono hC es _ _ _ (fun l q => hC f l _ _ (fun _ _ _ => h _ _ _) q) w
  | .idxOf i e, ρ, Q, Q', h, w => ⟨w.1, wpE_mono hC e ρ _ _ (fun _ _ _ ⟨o, xs, j, z, a1, a2, a3, a4, a5, a6, q⟩ => ⟨o, xs, j, z, a1, a2, a3, a4, a5, a6, h _ _ _ q⟩) w.2⟩
  | .rem i e, ρ, Q, Q', h, w => ⟨w.1, wpE_mono hC e ρ _ _ (fun _ _ _ ⟨oi, ns, k, j, a1, a2, a3, a4, a5, q⟩ => ⟨oi, ns, k, j, a1, a2, a3, a4, a5, h _ _ _ q⟩) w.2⟩
  | .lrng a, ρ, Q, Q', h, w => wpE_mono hC a ρ _ _ (fun _ _ _ ⟨j, e, x, y, q⟩ => ⟨j, e, x, y, h _ _ _ q⟩) w
  | .mxd mx a d, ρ, Q, Q', h, w => wpE_mono hC a ρ _ _ (fun _ _ _ ⟨ns, e, q⟩ => ⟨ns, e, wp2_mono (fun ρ Q Q' => wpE_mono hC d ρ Q Q') (fun _ _ _ ⟨sd, q⟩ => ⟨sd, by
      split at q
      · rename_i he; rw [if_pos he]; exact h _ _ _ q
      · rename_i he; rw [if_neg he]; exact fun m hm hx => h _ _ _ (q m hm hx)⟩) q⟩) w
  | .wk t e, ρ, Q, Q', h, w => wpE_mono hC e ρ _ _ (fun _ _ _ ⟨o2, e, q⟩ => ⟨o2, e, h _ _ _ q⟩) w
  | .mf2 f a c, ρ, Q, Q', h, w => wpE_mono hC a ρ _ _ (fun _ _ _ ⟨s, q⟩ => ⟨s, wpE_mono hC c _ _ _ (fun _ _ _ q => semM_mono (fun _ => h _ _ _) q) q⟩) w
  | .dnew, ρ, Q, Q', h, w => h _ _ _ w
  | .dc t it c ke e, ρ, Q, Q', h, w => wpIt_mono hC it ρ _ _ (fun o ds ρ1 ⟨z, q⟩ => ⟨z, wpDcL_mono (fun d ρ' Q Q' h ⟨ρ2, e1, w⟩ => ⟨ρ2, e1, wpC_mono hC c _ _ _ (fun b ρ3 q => by
      cases b with
      | true => exact wpE_mono hC ke _ _ _ (fun _ _ _ ⟨k, e1, q⟩ => ⟨k, e1, wpE_mono hC e _ _ _ (fun _ _ _ ⟨kk, e2, q⟩ => ⟨kk, e2, h _ _ q⟩) q⟩) q
      | false => exact h _ _ q) w⟩) _ _ _ _ (fun _ _ _ q => h _ _ _ q) q⟩) w
  | .dmut x i ke e, ρ, Q, Q', h, w => by
    unfold wpE at w ⊢
    obtain ⟨kvs, k, ds, e1, e2, e3, w⟩ := w
    exact ⟨kvs, k, ds, e1, e2, e3, wpE_mono hC e _ _ _ (fun _ _ _ ⟨es, a, b, c, q⟩ => ⟨es, a, b, c, h _ _ _ q⟩) w⟩
  | .dpop i ke, ρ, Q, Q', h, w => by
    unfold wpE at w ⊢
    obtain ⟨kvs, k, d, e1, e2, e3, q⟩ := w
    exact ⟨kvs, k, d, e1, e2, e3, h _ _ _ q⟩
  | .dget two i ke o, ρ, Q, Q', h, w => by
    unfold wpE at w ⊢
    obtain ⟨o1, kvs, k, e1, e2, w⟩ := w
    exact ⟨o1, kvs, k, e1, e2, wpE_mono hC o _ _ _ (fun _ _ _ ⟨a, b, q⟩ => ⟨a, b, h _ _ _ q⟩) w⟩
  | .tapp i j e, ρ, Q, Q', h, w => by
    unfold wpE at w ⊢
    obtain ⟨ds, es, e1, e2, e3, w⟩ := w
    exact ⟨ds, es, e1, e2, e3, wpE_mono hC e _ _ _ (fun _ _ _ ⟨a, q⟩ => ⟨a, h _ _ _ q⟩) w⟩
  | .tupM i e, ρ, Q, Q', h, w => ⟨w.1, wpE_mono hC e ρ _ _ (fun _ _ _ ⟨oi, di, a, b, c, q⟩ => ⟨oi, di, a, b, c, h _ _ _ q⟩) w.2⟩
  | .bitl e, ρ, Q, Q', h, w => wpE_mono hC e ρ _ _ (fun _ _ _ ⟨j, a, q⟩ => ⟨j, a, h _ _ _ q⟩) w
theorem wpEs_mono {C : CallS} (hC : MonoC C) : ∀ (es : Es) (ρ : Env) (Q Q' : Ow → List D → Env → Prop), (∀ o d ρ, Q o d ρ → Q' o d ρ) → wpEs C es ρ Q → wpEs C es ρ Q'
  | .nil, ρ, Q, Q', h, w => h _ _ _ w
  | .cons e es, ρ, Q, Q', h, w => wpE_mono hC e ρ _ _ (fun _ _ _ ⟨k, z, q⟩ => ⟨k, z, wpEs_mono hC es _ _ _ (fun _ _ _ q => h _ _ _ q) q⟩) w
theorem wpEo_mono {C : CallS} (hC : MonoC C) : ∀ (e : Eo) (ρ : Env) (Q Q' : Option Int → Prop), (∀ i, Q i → Q' i) → wpEo C e ρ Q → wpEo C e ρ Q'
  | .nil, ρ, Q, Q', h, w => h _ w
  | .some e, ρ, Q, Q', h, w => wpE_mono hC e ρ _ _ (fun _ _ _ ⟨i, z, q⟩ => ⟨i, z, h _ q⟩) w
theorem wpC_mono {C : CallS} (hC : MonoC C) : ∀ (e : Eo) (ρ : Env) (Q Q' : Bool → Env → Prop), (∀ b ρ, Q b ρ → Q' b ρ) → wpC C e ρ Q → wpC C e ρ Q'
  | .nil, ρ, Q, Q', h, w => h _ _ w
  | .some e, ρ, Q, Q', h, w => wpE_mono hC e ρ _ _ (fun _ _ _ ⟨i, z, q⟩ => ⟨i, z, h _ _ q⟩) w
theorem wpArgs_mono {C : CallS} (hC : MonoC C) : ∀ (es : Es) (ρ : Env) (Q Q' : List (Ow × D) → Prop), (∀ l, Q l → Q' l) → wpArgs C es ρ Q → wpArgs C es ρ Q'
  | .nil, ρ, Q, Q', h, w => h _ w
  | .cons e es, ρ, Q, Q', h, w => wpE_mono hC e ρ _ _ (fun _ _ _ ⟨k, z, q⟩ => ⟨k, z, wpArgs_mono hC es _ _ _ (fun _ q => h _ q) q⟩) w
theorem wpAs_mono {C : CallS} (hC : MonoC C) : ∀ (as : As) (ρ : Env) (Q Q' : List (Nat ⊕ (Ow × D)) → Env → Prop), (∀ l ρ, Q l ρ → Q' l ρ) → wpAs C as ρ Q → wpAs C as ρ Q'
  | .nil, ρ, Q, Q', h, w => h _ _ w
  | .lend i r, ρ, Q, Q', h, w => ⟨w.1, wpAs_mono hC r ρ _ _ (fun _ _ q => h _ _ q) w.2⟩
  | .val e r, ρ, Q, Q', h, w => wpE_mono hC e ρ _ _ (fun _ _ _ ⟨k, z, q⟩ => ⟨k, z, wpAs_mono hC r _ _ _ (fun _ _ q => h _ _ q) q⟩) w
theorem wpIt_mono {C : CallS} (hC : MonoC C) : ∀ (it : It) (ρ : Env) (Q Q' : Ow → List D → Env → Prop), (∀ o l ρ, Q o l ρ → Q' o l ρ) → wpIt C it ρ Q → wpIt C it ρ Q'
  | .seq e, ρ, Q, Q', h, w => wpE_mono hC e ρ _ _ (fun _ d _ q => by cases d <;> first | exact q | exact h _ _ _ q) w
  | .rng1 a, ρ, Q, Q', h, w => wpE_mono hC a ρ _ _ (fun _ d _ ⟨j, e, x, y, q⟩ => ⟨j, e, x, y, h _ _ _ q⟩) w
  | .rng2 a b, ρ, Q, Q', h, w => wpE_mono hC a ρ _ _ (fun _ d _ ⟨i, e, q⟩ => ⟨i, e, wpE_mono hC b _ _ _ (fun _ _ _ ⟨j, e, x, q⟩ => ⟨j, e, x, h _ _ _ q⟩) q⟩) w
  | .enum e, ρ, Q, Q', h, w => wpE_mono hC e ρ _ _ (fun _ d _ q => by cases d <;> first | exact q | exact h _ _ _ q) w
  | .zip a b, ρ, Q, Q', h, w => wpE_mono hC a ρ _ _ (fun _ d1 _ q => wp2_mono (fun ρ Q Q' => wpE_mono hC b ρ Q Q') (fun _ d2 _ ⟨xs, ys, e1, e2, e3, e4, q⟩ => ⟨xs, ys, e1, e2, e3, e4, h _ _ _ q⟩) q) w
  | .rng3 a b c, ρ, Q, Q', h, w => wpE_mono hC a ρ _ _ (fun _ d _ ⟨i, e, q⟩ => ⟨i, e, wpE_mono hC b _ _ _ (fun _ _ _ ⟨j, n, e, x, q⟩ => ⟨j, n, e, x, h _ _ _ q⟩) q⟩) w
end
end VH
namespace VH
open PySem L2

theorem cup_assoc (S T U : Set') : cup (cup S T) U = cup S (cup T U) := by
  funext a; simp only [cup, or_assoc]
theorem cup_noA (S : Set') : cup S noA = S := by
  funext a; simp [cup]
abbrev nofp : Fp := fun _ => noA
theorem un_nofp : un nofp = noA := by
  funext a; simp [un]
abbrev sgl (p : Addr) : Set' := fun a => a = p

section
variable {K : PySem.W.Frag} {ρ ρ' ρ1 ρ2 : Env} {σ : St} {H H' H1 H2 : Hp} {fp fp' fp1 fp2 : Fp} {T T' G S S' S1 S2 A B : Set'} {v : V} {d : D} {o : Ow} {p : Addr} {ho : HO}
/-- nothing tracked is changed, new things may come -/
theorem RepS.grow (R : RepS K ρ σ H fp T G) (k : Keep noA H H') (hn : ∀ a, S a → H a = none) (hm : MutS S H') : RepS K ρ σ H' fp (cup T S) G where
  len := R.len
  slot := fun i o d e => by
    obtain ⟨v, e1, nt, r⟩ := R.slot i o d e
    refine ⟨v, e1, nt, r.still k (fun a z => ?_) fun a z => ?_⟩
    · rcases z with z | z | z
      · exact .inl (.inl z)
      · exact .inl (.inr z)
      · exact .inr (hn a z)
    · rcases z with (z | z | z) | z
      · exact .inl (.inl (.inl z))
      · exact .inl (.inl (.inr z))
      · exact .inr (hn a z)
      · exact .inl (.inr z)
  dis := R.dis
  disT := fun a h z => z.elim (R.disT a h) fun z => R.track (.inl (.inl h)) (hn a z)
  disG := fun a h z => by
    rcases h with h | h | h
    · exact R.disG a (.inl h) z
    · exact R.disG a (.inr h) z
    · exact R.track (.inr z) (hn a h)
  wr := fun a h => by
    have old : cup (cup (un fp) T) G a → ∃ o, H' a = some o ∧ isMut o = true := fun h => by
      obtain ⟨o, e, m⟩ := R.wr a h
      exact ⟨o, k a o e fun z => z, m⟩
    rcases h with (h | h | h) | h
    · exact old (.inl (.inl h))
    · exact old (.inl (.inr h))
    · exact hm a h
    · exact old (.inr h)
theorem Keep.upd (hp : H p = none) : Keep noA H (upd H p ho) := fun a o h _ => by rw [upd_ne (ne_of_none h hp)]; exact h
theorem StepE.grow (st : StepE H fp T H1 fp1 S1) (R1 : RepS K ρ1 σ H1 fp1 (cup T S1) G) (k : Keep noA H1 H2) (hn : ∀ a, S2 a → H1 a = none) : StepE H fp T H2 fp1 (cup S1 S2) where
  keep := fun a o h n => k a o (st.keep a o h n) fun z => z
  new := fun a z => by
    rcases z with z | z | z
    · exact st.new a (.inl z)
    · exact st.new a (.inr z)
    · by_cases hx : un fp a
      · exact .inl hx
      · cases e : H a with
        | none => exact .inr rfl
        | some o => have := st.keep a o e hx; rw [hn a z] at this; cases this
  disS := fun a z t => z.elim (fun z => st.disS a z t) fun z => R1.track (.inl (.inr (.inl t))) (hn a z)
theorem StepE.less (st : StepE H fp T H1 fp1 S1) (g : ∀ a, S a → S1 a) : StepE H fp T H1 fp1 S :=
  ⟨st.keep, fun a z => st.new a (z.elim .inl fun z => .inr (g a z)), fun a z => st.disS a (g a z)⟩
/-- an answer that is solid -/
theorem PostE.solid {Q : VK} (q : PostE K σ H fp T G Q o d ρ1) (hd : VH.solid d = true) (st : StepE H fp T H1 fp1 S1) (R1 : RepS K ρ1 σ H1 fp1 (cup T S1) G) (h : Is K A H1 v d) : Q v H1 :=
  q v H1 fp1 noA (st.less fun _ z => z.elim) (R1.lessT fun a z => z.elim .inl fun z => z.elim) (RepV.solid hd h)

theorem lock_get {i : Nat} {o : Ow} {d : D} (h : (lock ρ)[i]? = some (some (o, d))) : ∃ o', ρ[i]? = some (some (o', d)) ∧ o = nrm (lockO o') d := by
  unfold lock at h
  rw [List.getElem?_map] at h
  cases e : ρ[i]? with
  | none => rw [e] at h; cases h
  | some x =>
    rw [e] at h
    cases x with
    | none => cases h
    | some p =>
      obtain ⟨o', d'⟩ := p
      simp only [Option.map_some, Option.some.injEq, Prod.mk.injEq] at h
      obtain ⟨h1, rfl⟩ := h
      exact ⟨o', rfl, h1.symm⟩
theorem nrm_solid (h : solid d = true) : nrm o d = .all := by unfold nrm; rw [if_pos h]
theorem nrm_not (h : ¬ solid d = true) : nrm o d = o := by unfold nrm; rw [if_neg h]
theorem RepS.lock (R : RepS K ρ σ H fp T G) : RepS K (lock ρ) σ H nofp noA (cup (cup (un fp) T) G) where
  len := by unfold VH.lock; rw [List.length_map]; exact R.len
  slot := fun i o d e => by
    obtain ⟨o', e', rfl⟩ := lock_get e
    obtain ⟨v, e1, nt, r⟩ := R.slot i o' d e'
    refine ⟨v, e1, ?_, ?_⟩
    · by_cases hs : VH.solid d = true
      · rw [nrm_solid hs]; exact ⟨by decide, by decide⟩
      · rw [nrm_not hs]
        cases o' <;> first | exact ⟨by decide, by decide⟩ | exact nt
    · have sub : ∀ a, cup (cup (un nofp) noA) (cup (cup (un fp) T) G) a → cup (cup (un fp) T) G a := fun a z => by
        rcases z with (⟨_, z⟩ | z) | z
        · exact z.elim
        · exact z.elim
        · exact z
      have non : ∀ {X : Set'} a, cup (un nofp) noA a → X a := fun a z => by
        rcases z with ⟨_, z⟩ | z
        · exact z.elim
        · exact z.elim
      by_cases hs : VH.solid d = true
      · rw [nrm_solid hs]; exact RepV.solid hs r.now
      · rw [nrm_not hs]
        cases o' with
        | tra => exact (nt.1 rfl).elim
        | tra1 => exact (nt.2 rfl).elim
        | bor => exact Is.less r non
        | bor1 => exact Is1.step (F := noA) Keep.refl (fun _ z => z.elim) (fun _ z => z.elim) (fun _ z => z.elim) (fun a z => .inl (non a z)) (fun a z => .inl (sub a z)) r
        | sh => exact Is.less r sub
        | one =>
          show Is1 _ _ _ _ _ _
          cases d <;> first
            | (obtain ⟨a, vs, e, s, h, l⟩ := r; exact ⟨a, vs, e, fun z => non (X := noA) a z, h, l.less sub⟩)
            | (obtain ⟨a, vs, e, s, h, l⟩ := r; exact ⟨a, vs, e, fun z => non (X := noA) a z, .inl h, l.less sub⟩)
            | exact Is.less r sub
        | all => exact Is.less (A := noA) (Own.is (A := noA) r fun _ _ z => z) fun a z => non (X := noA) a z
  dis := fun i j a z => z.elim
  disT := fun a z => by obtain ⟨_, z⟩ := z; exact z.elim
  disG := fun a z => by
    rcases z with ⟨_, z⟩ | z
    · exact z.elim
    · exact z.elim
  wr := fun a z => by
    rcases z with (⟨_, z⟩ | z) | z
    · exact z.elim
    · exact z.elim
    · exact R.wr a z
end

def tE (K : PySem.W.Frag) (C : CallS) (e : E) : TE := fun σ H Q => ∃ ρ fp T G, RepS K ρ σ H fp T G ∧ wpE C e ρ (PostE K σ H fp T G Q)
/-- .. as a test -/
def tT (K : PySem.W.Frag) (C : CallS) (e : E) : TT := fun σ H Q => ∃ ρ fp T G, RepS K ρ σ H fp T G ∧ wpE C e ρ fun _ d ρ' => ∃ t, truth d = some t ∧
  ∀ H' fp' S, StepE H fp T H' fp' S → RepS K ρ' σ H' fp' (cup T S) G → Q t H'
abbrev PEv (X : Cx) (C : CallS) (x : Expr) (e : E) : Prop := PE X x (tE X.K C e)
abbrev PTv (X : Cx) (C : CallS) (x : Expr) (e : E) : Prop := PT X x (tT X.K C e)
theorem _root_.L2.PE.imp {X : Cx} {x : Expr} {t t' : TE} (h : PE X x t) (w : ∀ σ H Q, t' σ H Q → t σ H Q) : PE X x t' := ⟨fun pins s σ H Q I q => h.run pins s σ H Q I (w σ H Q q)⟩
theorem _root_.L2.PT.imp {X : Cx} {x : Expr} {t t' : TT} (h : PT X x t) (w : ∀ σ H Q, t' σ H Q → t σ H Q) : PT X x t' := ⟨fun pins s σ H Q I q => h.run pins s σ H Q I (w σ H Q q)⟩
theorem _root_.L2.PW.imp {X : Cx} {x : Expr} {t t' : TT} (h : PW X x t) (w : ∀ σ H Q, t' σ H Q → t σ H Q) : PW X x t' := ⟨fun wh pins s σ H Q I q => h.run wh pins s σ H Q I (w σ H Q q)⟩

section
variable {K : PySem.W.Frag} {C : CallS} {a b : E} {ρ ρ1 : Env} {σ : St} {H H1 : Hp} {fp fp1 : Fp} {T S1 G : Set'} {v1 : V} {d1 : D} {o1 : Ow}
theorem tE_of (hC : MonoC C) {P : KE} {Q : VK} (R : RepS K ρ σ H fp T G) (w : wpE C a ρ P)
    (h : ∀ o d ρ1 v H1 fp1 S1, P o d ρ1 → StepE H fp T H1 fp1 S1 → RepS K ρ1 σ H1 fp1 (cup T S1) G → RepV K H1 o v d S1 (cup (un fp1) (cup T S1)) (cup (cup (un fp1) (cup T S1)) G) → Q v H1) : tE K C a σ H Q :=
  ⟨ρ, fp, T, G, R, wpE_mono hC a ρ _ _ (fun o d ρ1 p v H1 fp1 S1 st R1 rv => h o d ρ1 v H1 fp1 S1 p st R1 rv) w⟩
theorem tT_of (hC : MonoC C) {P : KE} {Q : Bool → Hp → Prop} (R : RepS K ρ σ H fp T G) (w : wpE C a ρ P)
    (h : ∀ o d ρ1, P o d ρ1 → ∃ t, truth d = some t ∧ ∀ H1 fp1 S1, StepE H fp T H1 fp1 S1 → RepS K ρ1 σ H1 fp1 (cup T S1) G → Q t H1) : tT K C a σ H Q :=
  ⟨ρ, fp, T, G, R, wpE_mono hC a ρ _ _ (fun o d ρ1 p => h o d ρ1 p) w⟩
/-- the second of two parts -/
theorem tE_of2 (hC : MonoC C) {P : KE} {Q : VK} (R1 : RepS K ρ1 σ H1 fp1 (cup T S1) G) (r1 : RepV K H1 o1 v1 d1 S1 (cup (un fp1) (cup T S1)) (cup (cup (un fp1) (cup T S1)) G))
    (w : wp2 o1 d1 (wpE C b) ρ1 P)
    (h : ∀ o d ρ2 v H2 fp2 S2, P o d ρ2 → StepE H1 fp1 (cup T S1) H2 fp2 S2 → RepS K ρ2 σ H2 fp2 (cup T (cup S1 S2)) G →
      RepV K H2 o1 v1 d1 S1 (cup (un fp2) (cup T (cup S1 S2))) (cup (cup (un fp2) (cup T (cup S1 S2))) G) →
      RepV K H2 o v d S2 (cup (un fp2) (cup T (cup S1 S2))) (cup (cup (un fp2) (cup T (cup S1 S2))) G) → Q v H2) : tE K C b σ H1 Q := by
  unfold wp2 at w
  split at w
  · rename_i ht
    refine ⟨lock ρ1, nofp, noA, _, R1.lock, wpE_mono hC b _ _ _ (fun o d ρ2 p v H2 fp2 S2 st RL rv => ?_) w⟩
    have k : Keep noA H1 H2 := fun a o h n => st.keep a o h (by rw [un_nofp]; exact n)
    have hn : ∀ a, S2 a → H1 a = none := fun a z => (st.new a (.inr z)).elim (fun q => by rw [un_nofp] at q; exact q.elim) id
    have hm : MutS S2 H2 := fun a z => RL.wr a (.inl (.inr (.inr z)))
    have R2 : RepS K ρ1 σ H2 fp1 (cup (cup T S1) S2) G := R1.grow k hn hm
    rw [cup_assoc] at R2
    have gB : Grow (cup (un fp1) (cup T S1)) (cup (un fp1) (cup T (cup S1 S2))) H1 := fun a z => by
      rcases z with z | z | z | z
      · exact .inl (.inl z)
      · exact .inl (.inr (.inl z))
      · exact .inl (.inr (.inr z))
      · exact .inr (hn a z)
    have gA : Grow (cup (cup (un fp1) (cup T S1)) G) (cup (cup (un fp1) (cup T (cup S1 S2))) G) H1 := fun a z => by
      rcases z with z | z
      · exact (gB a z).elim (fun q => .inl (.inl q)) .inr
      · exact .inl (.inr z)
    refine h _ d ρ1 v H2 fp1 S2 p ⟨fun a o h n => k a o h (fun z => z), fun a z => z.elim .inl fun z => .inr (hn a z), fun a z t => R1.track (.inl (.inr t)) (hn a z)⟩ R2 (r1.still k gB gA) ?_
    have sub : ∀ a, cup (cup (un fp1) (cup T (cup S1 S2))) G a → cup (cup (un fp2) (cup noA S2)) (cup (cup (un fp1) (cup T S1)) G) a := fun a z => by
      rcases z with (z | z | z | z) | z
      · exact .inr (.inl (.inl z))
      · exact .inr (.inl (.inr (.inl z)))
      · exact .inr (.inl (.inr (.inr z)))
      · exact .inl (.inr (.inr z))
      · exact .inr (.inr z)
    by_cases hs : solid d = true
    · exact RepV.solid hs rv.now
    · unfold unlO
      rw [nrm_not hs]
      cases o with
      | tra => exact rv
      | tra1 => exact Is1.step (F := noA) Keep.refl (fun _ z => z.elim) (fun _ z => z.elim) (fun _ z => z.elim) Grow.refl (fun a z => .inl (sub a z)) rv
      | bor => exact rv.now
      | bor1 => exact Is1.step (F := noA) Keep.refl (fun _ z => z.elim) (fun _ z => z.elim) (fun _ z => z.elim) (fun _ z => z.elim) (fun a z => .inl (sub a z)) rv
      | sh => exact Is.less rv sub
      | one => exact One.step (F := noA) Keep.refl (fun _ z => z.elim) (fun _ _ z => z) (fun _ z => z.elim) (fun a z => .inl (sub a z)) rv
      | all => exact rv
  · rename_i ht
    refine ⟨ρ1, fp1, cup T S1, G, R1, wpE_mono hC b _ _ _ (fun o d ρ2 p v H2 fp2 S2 st R2 rv => ?_) w⟩
    rw [cup_assoc] at R2 rv
    refine h o d ρ2 v H2 fp2 S2 p st R2 ?_ rv
    by_cases hs : solid d1 = true
    · refine RepV.solid hs (A' := noA) ?_
      have m : MutS (un fp1) H1 := fun a z => R1.wr a (.inl (.inl z))
      exact (Own.step st.keep m (Is.own hs r1.now) fun a z => z.elim).is fun a z => z.elim
    · refine RepV.over R1 st ?_ r1
      unfold isTra at ht
      simp only [hs, Bool.not_false, Bool.true_and, Bool.or_eq_true, beq_iff_eq] at ht
      refine ⟨fun e => ht ?_, fun e => ht ?_⟩
      · subst e; simp
      · subst e; simp
end
end VH
namespace VH
open PySem L2

section
variable {K : PySem.W.Frag} {A : Set'} {H : Hp} {v : V}
theorem Is.inv_non (h : Is K A H v .non) : v = .non := by cases h; rfl
theorem Is.inv_bl {b : Bool} (h : Is K A H v (.bl b)) : v = .bl b := by cases h; rfl
theorem Is.inv_int {i : Int} (h : Is K A H v (.int i)) : v = .int i := by cases h; rfl
theorem Is.inv_str {x : Str} (h : Is K A H v (.str x)) : v = .str x := by cases h; rfl
theorem Is.inv_lst {ds : List D} (h : Is K A H v (.lst ds)) : ∃ a vs, v = .ref a ∧ ¬ A a ∧ H a = some (.lst vs) ∧ IsL K A H vs ds := by cases h with | lst n e l => exact ⟨_, _, rfl, n, e, l⟩
theorem Is.inv_tup {ds : List D} (h : Is K A H v (.tup ds)) : ∃ a vs, v = .ref a ∧ SqT K H a vs ∧ IsL K A H vs ds := by cases h with | tup e l => exact ⟨_, _, rfl, e, l⟩
theorem Is.inv_scr {ns : List Int} (h : Is K A H v (.scr ns)) : ∃ a, v = .ref a ∧ ScrAt K H a ns := by cases h with | scr e => exact ⟨_, rfl, e⟩
theorem Is.non_iff {d : D} (h : Is K A H v d) : decide (v = .non) = isNon d := by
  cases h <;> rfl
theorem Is.non_iff' {d : D} (h : Is K A H v d) : (!decide (v = .non)) = !isNon d := by
  cases h <;> rfl
theorem IsL.ints : ∀ {vs : List V} {ds : List D} {ns : List Int}, IsL K A H vs ds → toInts ds = some ns → vs = ns.map V.int
  | _, _, _, .nil, e => by simp [toInts] at e; subst e; rfl
  | _, _, ns, .cons (d := d) h l, e => by
    cases d <;> simp only [toInts] at e <;> try cases e
    rename_i i
    cases q : toInts _ with
    | none => rw [q] at e; cases e
    | some ms =>
      rw [q] at e
      cases e
      rw [h.inv_int, IsL.ints l q]
      rfl
theorem IsL.bls : ∀ {vs : List V} {ds : List D} {ns : List Bool}, IsL K A H vs ds → toBls ds = some ns → vs = ns.map V.bl
  | _, _, _, .nil, e => by simp [toBls] at e; subst e; rfl
  | _, _, ns, .cons (d := d) h l, e => by
    cases d <;> simp only [toBls] at e <;> try cases e
    rename_i i
    cases q : toBls _ with
    | none => rw [q] at e; cases e
    | some ms =>
      rw [q] at e
      cases e
      rw [h.inv_bl, IsL.bls l q]
      rfl
theorem IsL.of_ints : ∀ ns : List Int, IsL K A H (ns.map V.int) (ns.map D.int)
  | [] => .nil
  | n :: ns => .cons .int (IsL.of_ints ns)
theorem solid_ints : ∀ ns : List Int, solidL (ns.map D.int) = true
  | [] => rfl
  | n :: ns => by simp [solidL, solid, solid_ints ns]
/- data to compare -/
mutual
theorem Is.dp : ∀ {v : V} {d : D}, Is K A H v d → (toP d).canLay0 = true → Dp K H v (toP d)
  | _, _, .non, _ => .non
  | _, _, .bl, _ => .bl _
  | _, _, .int, _ => .int _
  | _, _, .str, _ => .str _
  | _, _, .lst _ h l, c => .lst (SqL.of h) (IsL.dp l (by simpa [toP, PyData.canLay0] using c))
  | _, _, .tup h l, c => .tup h (IsL.dp l (by simpa [toP, PyData.canLay0] using c))
  | _, _, .dK _ _ _, c => by simp [toP, PyData.canLay0] at c
  | _, _, .dT _ _ _, c => by simp [toP, PyData.canLay0] at c
  | _, _, .scr _, c => by simp [toP, PyData.canLay0] at c
theorem IsL.dp : ∀ {vs : List V} {ds : List D}, IsL K A H vs ds → PyData.canLayAll0 (toPs ds) = true → DpAll K H vs (toPs ds)
  | _, _, .nil, _ => .nil
  | _, _, .cons h l, c => by
    simp only [toPs, PyData.canLayAll0, Bool.and_eq_true] at c
    exact .cons (Is.dp h c.1) (IsL.dp l c.2)
end
theorem Is.dpP {d : D} (h : Is K A H v d) (c : plainD d = true) : Dp K H v (toP d) := h.dp (SeqAt.canLay_of_shaped c)
end
theorem any_deq (d : D) : ∀ ds : List D, ((toPs ds).any fun z => PyData.eqv z (toP d)) = ds.any fun z => deq z d
  | [] => rfl
  | x :: ds => by simp only [toPs, List.any_cons, any_deq d ds]; rfl

section
variable {X : Cx} {C : CallS} {pos : Pos} {a b c : Expr} {ea eb ec : E}

theorem v_of (hQ : ∀ {K : PySem.W.Frag} {H : Hp}, Is K noA H v d) (hs : solid d = true) {σ : St} {H : Hp} {Q : VK} {e : E} (he : ∀ ρ Q', wpE C e ρ Q' → Q' .all d ρ) (h : tE X.K C e σ H Q) : Q v H := by
  obtain ⟨ρ, fp, T, G, R, w⟩ := h
  exact PostE.solid (K := X.K) (he _ _ w) hs StepE.refl (by rw [cup_noA]; exact R) hQ
theorem v_int {i : Int} {j} : PEv X C (.Constant (.int i) j pos) (.int i) := pe_int.imp fun σ H Q h => v_of (e := .int i) (d := .int i) .int rfl (fun _ _ w => w) h
theorem v_bl {i : Bool} {j} : PEv X C (.Constant (.bool i) j pos) (.bl i) := pe_bl.imp fun σ H Q h => v_of (e := .bl i) (d := .bl i) .bl rfl (fun _ _ w => w) h
theorem v_non {j} : PEv X C (.Constant .none j pos) .non := pe_non.imp fun σ H Q h => v_of (e := .non) (d := .non) .non rfl (fun _ _ w => w) h
theorem v_str {x : Str} {j} : PEv X C (.Constant (.str x) j pos) (.str x) := pe_str.imp fun σ H Q h => v_of (e := .str x) (d := .str x) .str rfl (fun _ _ w => w) h
/-- a constant of the module -/
theorem v_glb {x : Str} {v : V} {u : Value} {d : D} (hg : Gl X x) (hm : X.mg x = some u) (r : RelV v u) (hv : ∀ H, Is X.K noA H v d) (hs : solid d = true) (hd : (x == ("__debug__" : Str)) = false) : PEv X C (.Name x pos) (.glb x d) :=
  (pe_glob hg hm r hd).imp fun σ H Q ⟨ρ, fp, T, G, R, w⟩ => PostE.solid (K := X.K) w hs StepE.refl (by rw [cup_noA]; exact R) (hv H)

def setFp (fp : Fp) (i : Nat) (S : Set') : Fp := fun j => if j = i then S else fp j
theorem setFp_same {fp : Fp} {i : Nat} {S : Set'} : setFp fp i S i = S := if_pos rfl
theorem setFp_ne {fp : Fp} {i j : Nat} {S : Set'} (h : j ≠ i) : setFp fp i S j = fp j := if_neg h
theorem un_setFp {fp : Fp} {i : Nat} {S : Set'} {a : Addr} (h : un (setFp fp i S) a) : S a ∨ ∃ j, j ≠ i ∧ fp j a := by
  obtain ⟨j, h⟩ := h
  by_cases e : j = i
  · subst e; rw [setFp_same] at h; exact .inl h
  · rw [setFp_ne e] at h; exact .inr ⟨j, e, h⟩
theorem RepS.put {K : PySem.W.Frag} {ρ : Env} {σ σ' : St} {H H' : Hp} {fp : Fp} {T T' G S : Set'} {i : Nat} {x : Option (Ow × D)} (R : RepS K ρ σ H fp T G) (k : Keep (fp i) H H')
    (hσ : σ'.length = σ.length) (hσ' : ∀ j, j ≠ i → σ'[j]? = σ[j]?)
    (hx : ∀ o d, x = some (o, d) → i < ρ.length → ∃ v, σ'[i]? = some (some v) ∧ (o ≠ .tra ∧ o ≠ .tra1) ∧ RepV K H' o v d S (cup (un (setFp fp i S)) T') (cup (cup (un (setFp fp i S)) T') G))
    (hS : ∀ a, S a → fp i a ∨ T a ∨ H a = none) (hT : ∀ a, T' a → fp i a ∨ T a ∨ H a = none) (hST : ∀ a, S a → ¬ T' a)
    (hm : ∀ a, S a ∨ T' a → ∃ o, H' a = some o ∧ isMut o = true) : RepS K (ρ.set i x) σ' H' (setFp fp i S) T' G := by
  have mI : MutS (fp i) H := fun a z => R.wr a (.inl (.inl ⟨i, z⟩))
  have gB : Grow (cup (un fp) T) (cup (un (setFp fp i S)) T') H := fun a z => by
    have old : (fp i a ∨ T a ∨ H a = none) → cup (un fp) T a ∨ H a = none := fun q => by
      rcases q with q | q | q
      · exact .inl (.inl ⟨i, q⟩)
      · exact .inl (.inr q)
      · exact .inr q
    rcases z with z | z
    · rcases un_setFp z with z | ⟨j, _, z⟩
      · exact old (hS a z)
      · exact .inl (.inl ⟨j, z⟩)
    · exact old (hT a z)
  have tr : ∀ {a}, cup (cup (un fp) T) G a → H a = none → False := fun z e => R.track z e
  refine ⟨by rw [List.length_set, hσ]; exact R.len, fun j o d e => ?_, fun j l a h1 h2 => ?_, fun a h z => ?_, fun a h z => ?_, fun a h => ?_⟩
  · by_cases hj : j = i
    · subst hj
      have hlt : j < ρ.length := by
        have := (List.getElem?_eq_some_iff.mp e).1
        rwa [List.length_set] at this
      rw [List.getElem?_set_self hlt] at e
      rw [setFp_same]
      exact hx o d (Option.some.inj e) hlt
    · rw [List.getElem?_set_ne (Ne.symm hj)] at e
      obtain ⟨v, e1, nt, r⟩ := R.slot j o d e
      refine ⟨v, by rw [hσ' j hj]; exact e1, nt, ?_⟩
      rw [setFp_ne hj]
      refine r.step k mI nt (fun a z q => hj (R.dis _ _ _ z q)) (fun a z => .inl ⟨i, z⟩) (fun a z => .inl (.inl ⟨i, z⟩)) gB fun a z => ?_
      rcases z with z | z
      · exact (gB a z).elim (fun q => .inl (.inl q)) .inr
      · exact .inl (.inr z)
  · have key : ∀ {l : Nat}, l ≠ i → S a → fp l a → False := fun {l} hl s f => by
      rcases hS a s with q | q | q
      · exact hl (R.dis _ _ _ f q)
      · exact R.disT a ⟨l, f⟩ q
      · exact tr (.inl (.inl ⟨l, f⟩)) q
    by_cases hj : j = i
    · by_cases hl : l = i
      · rw [hj, hl]
      · subst hj
        rw [setFp_same] at h1
        rw [setFp_ne hl] at h2
        exact (key hl h1 h2).elim
    · rw [setFp_ne hj] at h1
      by_cases hl : l = i
      · subst hl
        rw [setFp_same] at h2
        exact (key hj h2 h1).elim
      · rw [setFp_ne hl] at h2
        exact R.dis _ _ _ h1 h2
  · rcases un_setFp h with s | ⟨j, hj, f⟩
    · exact hST a s z
    · rcases hT a z with q | q | q
      · exact hj (R.dis _ _ _ f q)
      · exact R.disT a ⟨j, f⟩ q
      · exact tr (.inl (.inl ⟨j, f⟩)) q
  · have old : (fp i a ∨ T a ∨ H a = none) → False := fun q => by
      rcases q with q | q | q
      · exact R.disG a (.inl ⟨i, q⟩) z
      · exact R.disG a (.inr q) z
      · exact tr (.inr z) q
    rcases h with h | h
    · rcases un_setFp h with s | ⟨j, hj, f⟩
      · exact old (hS a s)
      · exact R.disG a (.inl ⟨j, f⟩) z
    · exact old (hT a h)
  · have keepO : ¬ fp i a → cup (cup (un fp) T) G a → ∃ o, H' a = some o ∧ isMut o = true := fun n q => by
      obtain ⟨o, e, m⟩ := R.wr a q
      exact ⟨o, k a o e n, m⟩
    rcases h with (h | h) | h
    · rcases un_setFp h with s | ⟨j, hj, f⟩
      · exact hm a (.inl s)
      · exact keepO (fun z => hj (R.dis _ _ _ f z)) (.inl (.inl ⟨j, f⟩))
    · exact hm a (.inr h)
    · exact keepO (fun z => R.disG a (.inl ⟨i, z⟩) h) (.inr h)
/-- .. where the heap is as it was, and nothing comes to the slot -/
theorem RepS.put0 {K : PySem.W.Frag} {ρ : Env} {σ : St} {H : Hp} {fp : Fp} {T T' G S : Set'} {i : Nat} {x : Option (Ow × D)} (R : RepS K ρ σ H fp T G)
    (hx : ∀ o d, x = some (o, d) → i < ρ.length → ∃ v, σ[i]? = some (some v) ∧ (o ≠ .tra ∧ o ≠ .tra1) ∧ RepV K H o v d S (cup (un (setFp fp i S)) T') (cup (cup (un (setFp fp i S)) T') G))
    (hS : ∀ a, S a → fp i a) (hT : ∀ a, T' a → fp i a ∨ T a) (hST : ∀ a, S a → ¬ T' a) : RepS K (ρ.set i x) σ H (setFp fp i S) T' G :=
  R.put Keep.refl rfl (fun _ _ => rfl) hx (fun a z => .inl (hS a z)) (fun a z => (hT a z).elim .inl fun z => .inr (.inl z)) hST fun a z => by
    rcases z with z | z
    · exact R.wr a (.inl (.inl ⟨i, hS a z⟩))
    · rcases hT a z with q | q
      · exact R.wr a (.inl (.inl ⟨i, q⟩))
      · exact R.wr a (.inl (.inr q))
theorem RepV.pk {K : PySem.W.Frag} {H : Hp} {o : Ow} {v : V} {d : D} {S S' B A : Set'} (r : RepV K H o v d S B A) : RepV K H (pkO o d) v d S' B A := by
  unfold pkO
  by_cases hs : VH.solid d = true
  · rw [nrm_solid hs]; exact RepV.solid hs r.now
  · rw [nrm_not hs]
    cases o with
    | all => exact r.now
    | one =>
      show Is1 _ _ _ _ _ _
      cases d <;> first
        | (obtain ⟨a, vs, e, s, h, l⟩ := r; exact ⟨a, vs, e, fun z => z, h, l⟩)
        | (obtain ⟨a, vs, e, s, h, l⟩ := r; exact ⟨a, vs, e, fun z => z, .inl h, l⟩)
        | exact r
    | _ => exact r

theorem v_var {m : Md} {i : Nat} {x : Str} (hN : X.N[i]? = some x) (hv : Vis X.env.scope x) (hd : (x == ("__debug__" : Str)) = false) (hcd : (x == ("__classdict__" : Str)) = false) : PEv X C (.Name x pos) (.var m i) := by
  refine (pe_var hN hv hd hcd).imp fun σ H Q ⟨ρ, fp, T, G, R, w⟩ => ?_
  obtain ⟨o, d, e, w⟩ := w
  obtain ⟨v, e1, nt, r⟩ := R.slot i o d e
  refine ⟨v, e1, ?_⟩
  have R0 : RepS X.K ρ σ H fp (cup T noA) G := by rw [cup_noA]; exact R
  have fz : o ≠ .bor → o ≠ .bor1 → ∀ {A' : Set'}, (∀ a, A' a → ¬ fp i a) → (∀ a, A' a → cup (cup (un fp) T) G a) → Is X.K A' H v d := fun n1 n2 A' q g => by
    cases o with
    | tra => exact (nt.1 rfl).elim
    | tra1 => exact (nt.2 rfl).elim
    | bor => exact (n1 rfl).elim
    | bor1 => exact (n2 rfl).elim
    | sh => exact Is.less r g
    | one => exact One.is (fun a z q' => q a q' z) g r
    | all => exact Own.is r fun a z q' => q a q' z
  have stp : ∀ {S' T' : Set'}, (∀ a, S' a → fp i a) → (∀ a, T' a → fp i a) → StepE H fp T H (setFp fp i S') T' := fun {S' T'} hS hT => ⟨Keep.refl, fun a z => by
    rcases z with z | z
    · rcases un_setFp z with z | ⟨j, _, z⟩
      · exact .inl ⟨i, hS a z⟩
      · exact .inl ⟨j, z⟩
    · exact .inl ⟨i, hT a z⟩, fun a z t => R.disT a ⟨i, hT a z⟩ t⟩
  cases m with
  | pk =>
    refine w v H fp noA StepE.refl R0 ?_
    rw [cup_noA]
    exact r.pk
  | sh =>
    dsimp only at w
    split at w
    · rename_i hs
      exact PostE.solid w hs StepE.refl R0 r.now
    · have hw : (o ≠ .bor ∧ o ≠ .bor1) ∧ PostE X.K σ H fp T G Q .sh d (ρ.set i (some (.sh, d))) := by
        cases o <;> first | exact w.elim | exact ⟨⟨by decide, by decide⟩, w⟩
      obtain ⟨⟨n1, n2⟩, w⟩ := hw
      have hi : Is X.K (cup (cup (un (setFp fp i noA)) (cup T noA)) G) H v d := fz n1 n2 (fun a z f => by
        rcases z with (z | z | z) | z
        · rcases un_setFp z with z | ⟨j, hj, z⟩
          · exact z
          · exact hj (R.dis _ _ _ z f)
        · exact R.disT a ⟨i, f⟩ z
        · exact z
        · exact R.disG a (.inl ⟨i, f⟩) z) fun a z => by
        rcases z with (z | z | z) | z
        · rcases un_setFp z with z | ⟨j, hj, z⟩
          · exact z.elim
          · exact .inl (.inl ⟨j, z⟩)
        · exact .inl (.inr z)
        · exact z.elim
        · exact .inr z
      refine w v H (setFp fp i noA) noA (stp (fun _ z => z.elim) fun _ z => z.elim) (R.put0 (fun o' d' e' _ => ?_) (fun _ z => z.elim) (fun a z => z.elim .inr fun z => z.elim) fun _ z => z.elim) hi
      cases e'
      exact ⟨v, e1, ⟨by decide, by decide⟩, hi⟩
  | sc =>
    dsimp only at w
    split at w
    · rename_i hs
      exact PostE.solid w hs StepE.refl R0 r.now
    · rename_i hs
      have main : (o = .one ∨ o = .all) → PostE X.K σ H fp T G Q .tra1 d (ρ.set i (some (.one, d))) → Q v H := fun ho w => by
        -- the root stays ours, its items are frozen
        have hx : ∃ S' : Set', (∀ a, S' a → fp i a) ∧ One X.K (cup (cup (un (setFp fp i S')) (cup T noA)) G) H v S' d := by
          rcases ho with rfl | rfl
          · refine ⟨fp i, fun _ z => z, One.step (F := noA) Keep.refl (fun _ z => z.elim) (fun _ _ z => z) (fun _ z => z.elim) (fun a z => .inl ?_) r⟩
            rcases z with (z | z | z) | z
            · rcases un_setFp z with z | ⟨j, hj, z⟩
              · exact .inl (.inl ⟨i, z⟩)
              · exact .inl (.inl ⟨j, z⟩)
            · exact .inl (.inr z)
            · exact z.elim
            · exact .inr z
          · have key : ∀ {p : Addr} {U : Set'}, fp i p → (∀ a, U a → fp i a) → ¬ U p → ∀ a, U a → ¬ cup (cup (un (setFp fp i (sgl p))) (cup T noA)) G a := fun {p U} hp hU nU a u z => by
              rcases z with (z | z | z) | z
              · rcases un_setFp z with z | ⟨j, hj, z⟩
                · exact nU (z ▸ u)
                · exact hj (R.dis _ _ _ z (hU a u))
              · exact R.disT a ⟨i, hU a u⟩ z
              · exact z
              · exact R.disG a (.inl ⟨i, hU a u⟩) z
            have r' : Own X.K H v d (fp i) := r
            cases r' with
            | lst h sa u nu l => exact ⟨sgl _, fun a z => by rw [z]; exact sa, _, _, rfl, rfl, h, l.is (key sa u nu)⟩
            | dK h sa u nu l => exact ⟨sgl _, fun a z => by rw [z]; exact sa, _, _, rfl, rfl, h, l.is (key sa u nu)⟩
            | dT h sa u nu l => exact ⟨sgl _, fun a z => by rw [z]; exact sa, _, _, rfl, rfl, h, l.is (key sa u nu)⟩
            | tup h l =>
              refine ⟨noA, fun _ z => z.elim, .tup h (l.is fun a u z => ?_)⟩
              rcases z with (z | z | z) | z
              · rcases un_setFp z with z | ⟨j, hj, z⟩
                · exact z
                · exact hj (R.dis _ _ _ z u)
              · exact R.disT a ⟨i, u⟩ z
              · exact z
              · exact R.disG a (.inl ⟨i, u⟩) z
            | non => exact absurd rfl hs
            | bl => exact absurd rfl hs
            | int => exact absurd rfl hs
            | str => exact absurd rfl hs
            | scr => exact absurd rfl hs
        obtain ⟨S', hS', ho1⟩ := hx
        refine w v H (setFp fp i S') noA (stp hS' fun _ z => z.elim) (R.put0 (fun o' d' e' _ => ?_) hS' (fun a z => z.elim .inr fun z => z.elim) (fun a z t => t.elim (fun t => R.disT a ⟨i, hS' a z⟩ t) fun t => t)) ?_
        · cases e'
          exact ⟨v, e1, ⟨by decide, by decide⟩, ho1⟩
        · show Is1 _ _ _ _ _ _
          cases d <;> first
            | (obtain ⟨a, vs, e, s, h, l⟩ := ho1; exact ⟨a, vs, e, fun z => z, h, l⟩)
            | (obtain ⟨a, vs, e, s, h, l⟩ := ho1; exact ⟨a, vs, e, fun z => z, .inl h, l⟩)
            | exact ho1
      cases o with
      | one => exact main (.inl rfl) w
      | all => exact main (.inr rfl) w
      | bor1 => exact w v H fp noA StepE.refl R0 (by rw [cup_noA]; exact r)
      | sh => exact w v H fp noA StepE.refl R0 (by rw [cup_noA]; exact r)
      | tra => exact w.elim
      | tra1 => exact w.elim
      | bor => exact w.elim
  | mv =>
    refine w v H (setFp fp i noA) (fp i) (stp (fun _ z => z.elim) fun _ z => z) (R.put0 (fun o' d' e' _ => nomatch e') (fun _ z => z.elim) (fun a z => z.elim .inr .inl) fun _ z => z.elim) ?_
    refine r.still Keep.refl (fun a z => ?_) fun a z => ?_
    · rcases z with z | z | z
      · rcases un_setFp z with z | ⟨j, hj, z⟩
        · exact z.elim
        · exact .inl (.inl ⟨j, z⟩)
      · exact .inl (.inr z)
      · exact .inl (.inl ⟨i, z⟩)
    · rcases z with (z | z | z) | z
      · rcases un_setFp z with z | ⟨j, hj, z⟩
        · exact z.elim
        · exact .inl (.inl (.inl ⟨j, z⟩))
      · exact .inl (.inl (.inr z))
      · exact .inl (.inl (.inl ⟨i, z⟩))
      · exact .inl (.inr z)
end
end VH
namespace VH
open PySem PySem.Spec PyProof.Rows L2

section
variable {κ : Type} [DecidableEq κ]
theorem getK_nil {k : κ} : getK ([] : List (κ × D)) k = none := rfl
theorem getK_pos {p : κ × D} {r : List (κ × D)} {k : κ} (e : p.1 = k) : getK (p :: r) k = some p.2 := by simp [getK, List.find?_cons, e]
theorem getK_neg {p : κ × D} {r : List (κ × D)} {k : κ} (e : ¬ p.1 = k) : getK (p :: r) k = getK r k := by simp [getK, List.find?_cons, e]
theorem getK_any (k : κ) : ∀ kvs : List (κ × D), (kvs.any fun kv => decide (kv.1 = k)) = (getK kvs k).isSome
  | [] => rfl
  | p :: r => by
    rw [List.any_cons]
    by_cases e : p.1 = k
    · simp only [getK_pos e, decide_eq_true e, Bool.true_or, Option.isSome_some]
    · rw [getK_neg e, decide_eq_false e, Bool.false_or]; exact getK_any k r
end
section
variable {K : PySem.W.Frag} {A A' : Set'} {H H' : Hp}
theorem IsK.get {k : Key} {d : D} : ∀ {vs : List (Key × V)} {ds : List (Key × D)}, IsK K A H vs ds → getK ds k = some d → ∃ v, valV vs k = some v ∧ Is K A H v d
  | _, _, .nil, e => by cases e
  | _, _, .cons (k := k') h l, e => by
    by_cases q : k' = k
    · rw [getK_pos q] at e; cases e; exact ⟨_, valV_pos q, h⟩
    · rw [getK_neg q] at e; rw [valV_neg (p := (k', _)) q]; exact IsK.get l e
theorem IsK.none {k : Key} : ∀ {vs : List (Key × V)} {ds : List (Key × D)}, IsK K A H vs ds → getK ds k = none → valV vs k = none
  | _, _, .nil, e => rfl
  | _, _, .cons (k := k') h l, e => by
    by_cases q : k' = k
    · rw [getK_pos q] at e; cases e
    · rw [getK_neg q] at e; rw [valV_neg (p := (k', _)) q]; exact IsK.none l e
theorem IsK.any {k : Key} : ∀ {vs : List (Key × V)} {ds : List (Key × D)}, IsK K A H vs ds → (vs.any fun kv => decide (kv.1 = k)) = (ds.any fun kv => decide (kv.1 = k))
  | _, _, .nil => rfl
  | _, _, .cons h l => by rw [List.any_cons, List.any_cons, IsK.any l]
theorem IsK.length : ∀ {vs : List (Key × V)} {ds : List (Key × D)}, IsK K A H vs ds → vs.length = ds.length
  | _, _, .nil => rfl
  | _, _, .cons h l => by rw [List.length_cons, List.length_cons, IsK.length l]
theorem IsK.append : ∀ {vs ws : List (Key × V)} {ds es : List (Key × D)}, IsK K A H vs ds → IsK K A H ws es → IsK K A H (vs ++ ws) (ds ++ es)
  | _, _, _, _, .nil, s => s
  | _, _, _, _, .cons h l, s => .cons h (IsK.append l s)
theorem IsK.repl {k : Key} {v : V} {d : D} (i : Is K A H v d) : ∀ {vs : List (Key × V)} {ds : List (Key × D)}, IsK K A H vs ds → IsK K A H (vs.map fun kv => if kv.1 = k then (kv.1, v) else kv) (ds.map fun kv => if kv.1 = k then (kv.1, d) else kv)
  | _, _, .nil => .nil
  | _, _, .cons (k := k') h l => by
    rw [List.map_cons, List.map_cons]
    by_cases q : k' = k
    · rw [if_pos q, if_pos q]; exact .cons i (IsK.repl i l)
    · rw [if_neg q, if_neg q]; exact .cons h (IsK.repl i l)
theorem IsK.put {k : Key} {v : V} {d : D} {vs : List (Key × V)} {ds : List (Key × D)} (l : IsK K A H vs ds) (i : Is K A H v d) : IsK K A H (putK vs k v) (putD ds k d) := by
  unfold putK putD
  rw [l.any (k := k)]
  split
  · exact l.repl i
  · exact l.append (.cons i .nil)
theorem IsK.drop {k : Key} : ∀ {vs : List (Key × V)} {ds : List (Key × D)}, IsK K A H vs ds → IsK K A H (dropK vs k) (dropD ds k)
  | _, _, .nil => .nil
  | _, _, .cons (k := k') (v := v) (d := d) (vs := vs) (ds := ds) h l => by
    have ih := IsK.drop (k := k) l
    unfold dropK dropD at ih ⊢
    rw [List.filter_cons, List.filter_cons]
    by_cases q : k' = k
    · simp only [q, ne_eq, not_true_eq_false, decide_false, Bool.false_eq_true, if_false]; exact ih
    · simp only [q, ne_eq, not_false_eq_true, decide_true, if_true]; exact .cons h ih
theorem OwnK.get {k : Key} {d : D} : ∀ {vs : List (Key × V)} {ds : List (Key × D)} {S : Set'}, OwnK K H vs ds S → getK ds k = some d → ∃ v, valV vs k = some v ∧ Own K H v d S
  | _, _, _, .nil, e => by cases e
  | _, _, _, .cons (k := k') h l dj t u, e => by
    by_cases q : k' = k
    · rw [getK_pos q] at e; cases e; exact ⟨_, valV_pos q, h.mono t⟩
    · rw [getK_neg q] at e; rw [valV_neg (p := (k', _)) q]
      obtain ⟨v, e1, o⟩ := OwnK.get l e
      exact ⟨v, e1, o.mono u⟩
theorem OwnK.any {k : Key} : ∀ {vs : List (Key × V)} {ds : List (Key × D)} {S : Set'}, OwnK K H vs ds S → (vs.any fun kv => decide (kv.1 = k)) = (ds.any fun kv => decide (kv.1 = k))
  | _, _, _, .nil => rfl
  | _, _, _, .cons h l _ _ _ => by rw [List.any_cons, List.any_cons, OwnK.any l]
theorem OwnK.append {ws : List (Key × V)} {es : List (Key × D)} {S1 S2 : Set'} (dj : ∀ a, S1 a → ¬ S2 a) : ∀ {vs : List (Key × V)} {ds : List (Key × D)} {U : Set'}, OwnK K H vs ds U → (∀ a, U a → S1 a) → OwnK K H ws es S2 → OwnK K H (vs ++ ws) (ds ++ es) (cup U S2)
  | _, _, _, .nil, _, s => s.mono fun a z => .inr z
  | _, _, _, .cons h l d t u, q, s => .cons h (OwnK.append dj l (fun a z => q a (u a z)) s) (fun a z y => y.elim (d a z) fun y => dj a (q a (t a z)) y) (fun a z => .inl (t a z)) fun a z => z.elim (fun z => .inl (u a z)) .inr
theorem dropK_cons {k k' : Key} {v : V} {vs : List (Key × V)} : dropK ((k', v) :: vs) k = if k' = k then dropK vs k else (k', v) :: dropK vs k := by
  unfold dropK
  rw [List.filter_cons]
  by_cases q : k' = k <;> simp [q]
theorem dropD_cons {k k' : Key} {v : D} {vs : List (Key × D)} : dropD ((k', v) :: vs) k = if k' = k then dropD vs k else (k', v) :: dropD vs k := by
  unfold dropD
  rw [List.filter_cons]
  by_cases q : k' = k <;> simp [q]
theorem OwnK.drop {k : Key} : ∀ {vs : List (Key × V)} {ds : List (Key × D)} {S : Set'}, OwnK K H vs ds S → OwnK K H (dropK vs k) (dropD ds k) S
  | _, _, _, .nil => .nil
  | _, _, _, .cons (k := k') h l d t u => by
    rw [dropK_cons, dropD_cons]
    by_cases q : k' = k
    · rw [if_pos q, if_pos q]; exact (OwnK.drop l).mono u
    · rw [if_neg q, if_neg q]; exact .cons h (OwnK.drop l) d t u
theorem OwnK.split {k : Key} {d : D} : ∀ {vs : List (Key × V)} {ds : List (Key × D)} {U : Set'}, OwnK K H vs ds U → getK ds k = some d →
    ∃ y U1 U2, valV vs k = some y ∧ Own K H y d U2 ∧ OwnK K H (dropK vs k) (dropD ds k) U1 ∧ (∀ a, U1 a → ¬ U2 a) ∧ (∀ a, U1 a → U a) ∧ (∀ a, U2 a → U a)
  | _, _, _, .nil, e => by cases e
  | _, _, _, .cons (k := k') (T := T) (U := U0) h l dj t u, e => by
    rw [dropK_cons, dropD_cons]
    by_cases q : k' = k
    · rw [getK_pos q] at e; cases e
      rw [if_pos q, if_pos q]
      exact ⟨_, U0, T, valV_pos q, h, l.drop, fun a z y => dj a y z, u, t⟩
    · rw [getK_neg q] at e; rw [valV_neg (p := (k', _)) q, if_neg q, if_neg q]
      obtain ⟨y, U1, U2, e1, h1, h2, h3, h4, h5⟩ := OwnK.split (k := k) l e
      exact ⟨y, cup T U1, U2, e1, h1, .cons h h2 (fun a z q => dj a z (h4 a q)) (fun a z => .inl z) (fun a z => .inr z),
        fun a z q => z.elim (fun z => dj a z (h5 a q)) fun z => h3 a z q, fun a z => z.elim (t a) fun z => u a (h4 a z), fun a z => u a (h5 a z)⟩
theorem OwnK.keys : ∀ {vs : List (Key × V)} {ds : List (Key × D)} {U : Set'}, OwnK K H vs ds U → vs.map (·.1) = ds.map (·.1)
  | _, _, _, .nil => rfl
  | _, _, _, .cons h l _ _ _ => by rw [List.map_cons, List.map_cons, OwnK.keys l]
theorem IsK.keys : ∀ {vs : List (Key × V)} {ds : List (Key × D)}, IsK K A H vs ds → vs.map (·.1) = ds.map (·.1)
  | _, _, .nil => rfl
  | _, _, .cons h l => by rw [List.map_cons, List.map_cons, IsK.keys l]
theorem repl_no {α : Type} {k : Key} {y : α} {l : List (Key × α)} (h : ¬ k ∈ l.map (·.1)) : (l.map fun kv => if kv.1 = k then (kv.1, y) else kv) = l := by
  conv => rhs; rw [← List.map_id l]
  refine List.map_congr_left fun p hp => ?_
  have hn : ¬ p.1 = k := fun z => h (by rw [← z]; exact List.mem_map.mpr ⟨p, hp, rfl⟩)
  rw [if_neg hn]; rfl
/-- one new value at a key: what stood there goes -/
theorem OwnK.repl {k : Key} {v : V} {d : D} {S2 : Set'} (o : Own K H v d S2) :
    ∀ {vs : List (Key × V)} {ds : List (Key × D)} {U : Set'}, (ds.map (·.1)).Nodup → OwnK K H vs ds U → (∀ a, U a → ¬ S2 a) → OwnK K H (vs.map fun kv => if kv.1 = k then (kv.1, v) else kv) (ds.map fun kv => if kv.1 = k then (kv.1, d) else kv) (cup U S2) := by
  intro vs
  induction vs with
  | nil => intro ds U nd h g; cases h; exact .nil
  | cons p vs ih =>
    intro ds U nd h g
    cases h with
    | @cons k' v' d' _ ds T U0 _ h l dj t u =>
      rw [List.map_cons, List.map_cons]
      rw [List.map_cons, List.nodup_cons] at nd
      by_cases q : k' = k
      · subst q
        have hn := nd.1
        have hv : ¬ k' ∈ vs.map (·.1) := by rw [l.keys]; exact hn
        rw [repl_no hn, repl_no hv]
        simp only [if_true]
        exact .cons o l (fun a z y => g a (u a y) z) (fun a z => .inr z) fun a z => .inl (u a z)
      · rw [if_neg q, if_neg q]
        exact .cons h (ih nd.2 l fun a z => g a (u a z)) (fun a z y => y.elim (dj a z) fun y => g a (t a z) y) (fun a z => .inl (t a z)) fun a z => z.elim (fun z => .inl (u a z)) .inr
theorem OwnK.put {k : Key} {v : V} {d : D} {S2 : Set'} {vs : List (Key × V)} {ds : List (Key × D)} {U : Set'} (nd : (ds.map (·.1)).Nodup) (l : OwnK K H vs ds U) (o : Own K H v d S2) (g : ∀ a, U a → ¬ S2 a) : OwnK K H (putK vs k v) (putD ds k d) (cup U S2) := by
  unfold putK putD
  rw [l.any (k := k)]
  split
  · exact OwnK.repl o nd l g
  · exact OwnK.append (S1 := U) g l (fun _ z => z) (.cons o .nil (U := noA) (fun _ _ z => z) (fun _ z => z) fun _ z => z.elim)
theorem putD_nodup {k : Key} {d : D} {ds : List (Key × D)} (nd : (ds.map (·.1)).Nodup) : ((putD ds k d).map (·.1)).Nodup := by
  unfold putD
  split
  · have : (ds.map fun kv => if kv.1 = k then (kv.1, d) else kv).map (·.1) = ds.map (·.1) := by
      rw [List.map_map]
      refine List.map_congr_left fun p hp => ?_
      show (if p.1 = k then (p.1, d) else p).1 = p.1
      split <;> rfl
    rw [this]; exact nd
  · rename_i h
    rw [List.map_append]
    refine List.nodup_append.mpr ⟨nd, by simp, fun a ha b hb e => ?_⟩
    simp at hb
    subst e; subst hb
    apply h
    obtain ⟨p, hp, e⟩ := List.mem_map.mp ha
    exact List.any_eq_true.mpr ⟨p, hp, by simp [e]⟩
end
section
variable {K : PySem.W.Frag} {A : Set'} {H : Hp} {v : V}
theorem Is.inv_dK {ds : List (Key × D)} (h : Is K A H v (.dK ds)) : ∃ a vs, v = .ref a ∧ ¬ A a ∧ Rd H a (.dK vs) ∧ IsK K A H vs ds := by cases h with | dK n e l => exact ⟨_, _, rfl, n, e, l⟩
theorem keyOf_is {d : D} {k : Key} (e : keyOf d = some k) (h : Is K A H v d) : v = kV k ∧ VH.solid d = true := by
  cases d <;> try (cases e; done)
  · cases e; exact ⟨h.inv_int, rfl⟩
  · cases e; exact ⟨h.inv_str, rfl⟩
/-- a look into a dict, by data -/
theorem dget_is {ds : List (Key × D)} {a : Addr} {vs : List (Key × V)} {k : Key} (h : Rd H a (.dK vs)) : DGet H a (kV k) (valV vs k) := .inl ⟨vs, k, h, rfl, rfl⟩
theorem IsK.isSome {k : Key} {vs : List (Key × V)} {ds : List (Key × D)} (l : IsK K A H vs ds) : (valV vs k).isSome = (getK ds k).isSome := by
  cases e : getK ds k with
  | none => rw [l.none e]; rfl
  | some d => obtain ⟨v, e1, _⟩ := l.get e; rw [e1]; rfl
end
end VH
namespace VH
open PySem PySem.Spec PyProof.Rows L2

section
variable {X : Cx}
theorem tru_is : TruR X (fun x H Q => ∃ d t, Is X.K noA H x d ∧ truth d = some t ∧ Q t H) := by
  intro pins s σ H x v Q I rx ⟨d, t, h, e, q⟩
  have go : TruV X.K x H t → wpAny (model X.prog X.w) X.A (truthy v) (TP X pins σ Q) X.xe s := fun z => tru_ok pins s σ H x v Q I rx ⟨t, z, q⟩
  cases h with
  | non => simp [truth] at e; exact go e
  | bl => simp [truth] at e; exact go e.symm
  | int => simp [truth] at e; exact go e.symm
  | str =>
    simp only [truth] at e
    split at e
    · rename_i z; cases e; exact go ⟨z, rfl⟩
    · cases e
  | lst n h l =>
    simp only [truth, Option.some.injEq] at e
    refine go (.inl ⟨_, SqL.of h, ?_⟩)
    rw [← e]; cases l <;> rfl
  | tup h l =>
    simp only [truth, Option.some.injEq] at e
    refine go (.inr (.inl ⟨_, h, ?_⟩))
    rw [← e]; cases l <;> rfl
  | dK n h l =>
    simp only [truth, Option.some.injEq] at e
    cases rx
    obtain ⟨hz, hS, vs, r, m⟩ := Rd.ok h I.hok
    have hlen := Paired.length r
    have hs : sizeLine = 16777216 := sizeLine_eq
    refine wpAny_truthy_dict hS m (by omega) ⟨H, I.tok _, ?_⟩
    have e2 : (!vs.isEmpty) = t := by
      rw [← e, isEmpty_kv r]; cases l <;> rfl
    rw [e2]; exact q
  | dT n h l => simp [truth] at e
  | scr h => simp [truth] at e
end

section
variable {X : Cx} {C : CallS} {pos : Pos} {a b c : Expr} {ea eb ec : E} {K : PySem.W.Frag} {ρ ρ1 ρ2 : Env} {σ : L2.St} {H H2 : Hp} {fp fp2 : Fp} {T G S1 S2 : Set'}
theorem tE_one (hC : MonoC C) {P : KE} {Rr : V → Hp → Prop} (R : RepS K ρ σ H fp T G) (w : wpE C ea ρ P)
    (h : ∀ o d ρ1 v H1 fp1 S1, P o d ρ1 → StepE H fp T H1 fp1 S1 → RepS K ρ1 σ H1 fp1 (cup T S1) G → RepV K H1 o v d S1 (cup (un fp1) (cup T S1)) (cup (cup (un fp1) (cup T S1)) G) → Rr v H1) :
    tE K C ea σ H Rr := tE_of hC R w h
theorem tE_bin (hC : MonoC C) {P : Ow → D → Ow → D → Env → Prop} {Rr : V → V → Hp → Prop} (R : RepS K ρ σ H fp T G)
    (w : wpE C ea ρ fun o1 d1 ρ1 => wp2 o1 d1 (wpE C eb) ρ1 fun o2 d2 ρ2 => P o1 d1 o2 d2 ρ2)
    (h : ∀ o1 d1 o2 d2 ρ2 x y H2 fp2 S1 S2, P o1 d1 o2 d2 ρ2 → StepE H fp T H2 fp2 (cup S1 S2) → RepS K ρ2 σ H2 fp2 (cup T (cup S1 S2)) G →
      RepV K H2 o1 x d1 S1 (cup (un fp2) (cup T (cup S1 S2))) (cup (cup (un fp2) (cup T (cup S1 S2))) G) →
      RepV K H2 o2 y d2 S2 (cup (un fp2) (cup T (cup S1 S2))) (cup (cup (un fp2) (cup T (cup S1 S2))) G) → (∀ a, S1 a → ¬ S2 a) → Rr x y H2) :
    tE K C ea σ H fun x H1 => tE K C eb σ H1 fun y H2 => Rr x y H2 := by
  refine tE_of hC R w fun o1 d1 ρ1 x H1 fp1 S1 p st R1 r1 => ?_
  refine tE_of2 hC R1 r1 p fun o2 d2 ρ2 y H2 fp2 S2 p st2 R2 r1' r2 => ?_
  exact h o1 d1 o2 d2 ρ2 x y H2 fp2 S1 S2 p (st.trans st2 (fun a z => R.track (.inl (.inr z))) fun a z => R.disT a z) R2 r1' r2 fun a z q => st2.disS a q (.inr z)

/-- how a test ends -/
theorem leafT {t : Bool} {Q : Bool → Hp → Prop} (h : ∃ t', truth (.bl t) = some t' ∧ ∀ H' fp' S, StepE H fp T H' fp' S → RepS K ρ2 σ H' fp' (cup T S) G → Q t' H') :
    PostE K σ H fp T G (fun x H' => ∃ k, x = .bl k ∧ Q k H') .all (.bl t) ρ2 := fun v H' fp' S st R r => by
  obtain ⟨t', e, q⟩ := h
  cases e
  exact ⟨t, r.now.inv_bl, q H' fp' S st R⟩

theorem t_plain (hC : MonoC C) (ha : PEv X C a ea) (he : ∀ whole, isTrue a X.env whole = (do let v ← whole; standAt a.pos; holding [v] (truthy v))) : PTv X C a ea := by
  refine ⟨fun pins s σ H Q I ⟨ρ, fp, T, G, R, w⟩ => ?_⟩
  refine isTrue_plain (thn (ha.run pins s σ H (fun v H1 => ∃ d t, Is X.K noA H1 v d ∧ truth d = some t ∧ Q t H1) I ?_) fun v s1 ⟨x, H1, I1, r1, q1⟩ => tru_is pins s1 σ H1 x v Q I1 r1 q1) (he _)
  exact tE_of hC R w fun o d ρ1 v H1 fp1 S1 ⟨t, e, q⟩ st R1 r => ⟨d, t, r.now, e, q H1 fp1 S1 st R1⟩
theorem v_nt (hC : MonoC C) (ha : PEv X C a ea) : PEv X C (.UnaryOp .Not a pos) (.nt ea) := by
  refine ⟨fun pins s σ H Q I ⟨ρ, fp, T, G, R, w⟩ => ?_⟩
  refine UnaryOp_ (thn (ha.run pins s σ H (fun v H1 => ∃ d t, Is X.K noA H1 v d ∧ truth d = some t ∧ Q (.bl (!t)) H1) I ?_) fun v s1 ⟨x, H1, I1, r1, q1⟩ => ?_)
  · exact tE_of hC R w fun o d ρ1 v H1 fp1 S1 ⟨t, e, q⟩ st R1 r => ⟨d, t, r.now, e, PostE.solid q rfl st R1 (A := noA) .bl⟩
  · obtain ⟨d, t, h, e, q⟩ := q1
    exact not_of (thn (tru_is pins s1 σ H1 x v (fun c H2 => Q (.bl (!c)) H2) I1 r1 ⟨d, t, h, e, q⟩) fun c s2 ⟨H2, I2, q2⟩ => ⟨.bl (!c), H2, I2, rfl, q2⟩)
theorem t_nt (hC : MonoC C) (ha : PTv X C a ea) : PTv X C (.UnaryOp .Not a pos) (.nt ea) := by
  refine (pt_not ha).imp fun σ H Q ⟨ρ, fp, T, G, R, w⟩ => ?_
  refine tT_of hC R w fun o d ρ1 ⟨t, e, t', e', q⟩ => ⟨t, e, fun H1 fp1 S1 st R1 => ?_⟩
  cases e'
  exact q H1 fp1 S1 st R1
theorem v_one {op} (ha : PEv X C a ea) : PEv X C (.BoolOp op [a] pos) ea := pe_one ha
/-- and, or as values -/
theorem v_and (hC : MonoC C) {rest : List Expr} (ha : PEv X C a ea) (hb : PEv X C (.BoolOp .And (b :: rest) pos) eb) : PEv X C (.BoolOp .And (a :: b :: rest) pos) (.and ea eb) := by
  refine ⟨fun pins s σ H Q I ⟨ρ, fp, T, G, R, w⟩ => ?_⟩
  refine BoolOp_and (thn (ha.run pins s σ H (fun v H1 => ∃ d t, Is X.K noA H1 v d ∧ truth d = some t ∧ (if t = true then tE X.K C eb σ H1 Q else Q v H1)) I ?_) fun v s1 ⟨x, H1, I1, r1, q1⟩ => ?_)
  · refine tE_of hC R w fun o d ρ1 v H1 fp1 S1 ⟨t, e, q⟩ st R1 r => ⟨d, t, r.now, e, ?_⟩
    cases t with
    | false => exact q v H1 fp1 S1 st R1 r
    | true =>
      refine ⟨ρ1, fp1, T, G, R1.lessT fun a z => .inl z, wpE_mono hC eb _ _ _ (fun o2 d2 ρ2 q y H2 fp2 S2 st2 R2 r2 => ?_) q⟩
      have st' := (st.less (S := noA) fun _ z => z.elim).trans (by rw [cup_noA]; exact st2) (fun a z => R.track (.inl (.inr z))) fun a z => R.disT a z
      have e0 : cup noA S2 = S2 := by funext a; simp [cup]
      rw [e0] at st'
      exact q y H2 fp2 S2 st' R2 r2
  · obtain ⟨d, t, h, e, q⟩ := q1
    refine thn (tru_is pins s1 σ H1 x v (fun c H2 => c = t ∧ H2 = H1) I1 r1 ⟨d, t, h, e, rfl, rfl⟩) fun c s2 hc => ?_
    obtain ⟨H2, I2, e1, e2⟩ := hc
    rw [e2] at I2
    subst e1
    cases c with
    | true => exact hb.run pins s2 σ H1 Q I2 q
    | false => exact ⟨x, H1, I2, r1, q⟩
theorem v_or (hC : MonoC C) {rest : List Expr} (ha : PEv X C a ea) (hb : PEv X C (.BoolOp .Or (b :: rest) pos) eb) : PEv X C (.BoolOp .Or (a :: b :: rest) pos) (.or ea eb) := by
  refine ⟨fun pins s σ H Q I ⟨ρ, fp, T, G, R, w⟩ => ?_⟩
  refine BoolOp_or (thn (ha.run pins s σ H (fun v H1 => ∃ d t, Is X.K noA H1 v d ∧ truth d = some t ∧ (if t = true then Q v H1 else tE X.K C eb σ H1 Q)) I ?_) fun v s1 ⟨x, H1, I1, r1, q1⟩ => ?_)
  · refine tE_of hC R w fun o d ρ1 v H1 fp1 S1 ⟨t, e, q⟩ st R1 r => ⟨d, t, r.now, e, ?_⟩
    cases t with
    | true => exact q v H1 fp1 S1 st R1 r
    | false =>
      refine ⟨ρ1, fp1, T, G, R1.lessT fun a z => .inl z, wpE_mono hC eb _ _ _ (fun o2 d2 ρ2 q y H2 fp2 S2 st2 R2 r2 => ?_) q⟩
      have st' := (st.less (S := noA) fun _ z => z.elim).trans (by rw [cup_noA]; exact st2) (fun a z => R.track (.inl (.inr z))) fun a z => R.disT a z
      have e0 : cup noA S2 = S2 := by funext a; simp [cup]
      rw [e0] at st'
      exact q y H2 fp2 S2 st' R2 r2
  · obtain ⟨d, t, h, e, q⟩ := q1
    refine thn (tru_is pins s1 σ H1 x v (fun c H2 => c = t ∧ H2 = H1) I1 r1 ⟨d, t, h, e, rfl, rfl⟩) fun c s2 hc => ?_
    obtain ⟨H2, I2, e1, e2⟩ := hc
    rw [e2] at I2
    subst e1
    cases c with
    | true => exact ⟨x, H1, I2, r1, q⟩
    | false => exact hb.run pins s2 σ H1 Q I2 q
/-- a second part behind a first one of which nothing is kept -/
theorem StepE.behind {H1 : Hp} {fp1 : Fp} (R : RepS K ρ σ H fp T G) (st : StepE H fp T H1 fp1 S1) (st2 : StepE H1 fp1 T H2 fp2 S2) : StepE H fp T H2 fp2 S2 := by
  have st' := (st.less (S := noA) fun _ z => z.elim).trans (by rw [cup_noA]; exact st2) (fun a z => R.track (.inl (.inr z))) fun a z => R.disT a z
  have e0 : cup noA S2 = S2 := by funext a; simp [cup]
  rw [e0] at st'
  exact st'
theorem tT_then (hC : MonoC C) {H1 : Hp} {fp1 : Fp} {Q : Bool → Hp → Prop} (R : RepS K ρ σ H fp T G) (st : StepE H fp T H1 fp1 S1) (R1 : RepS K ρ1 σ H1 fp1 (cup T S1) G)
    (w : wpE C eb ρ1 fun _ d ρ' => ∃ t, truth d = some t ∧ ∀ H' fp' S, StepE H fp T H' fp' S → RepS K ρ' σ H' fp' (cup T S) G → Q t H') : tT K C eb σ H1 Q :=
  ⟨ρ1, fp1, T, G, R1.lessT fun a z => .inl z, wpE_mono hC eb _ _ _ (fun o2 d2 ρ2 ⟨t, e, q⟩ => ⟨t, e, fun H2 fp2 S2 st2 R2 => q H2 fp2 S2 (StepE.behind R st st2) R2⟩) w⟩
theorem tE_then (hC : MonoC C) {H1 : Hp} {fp1 : Fp} {Q : VK} (R : RepS K ρ σ H fp T G) (st : StepE H fp T H1 fp1 S1) (R1 : RepS K ρ1 σ H1 fp1 (cup T S1) G)
    (w : wpE C eb ρ1 (PostE K σ H fp T G Q)) : tE K C eb σ H1 Q :=
  ⟨ρ1, fp1, T, G, R1.lessT fun a z => .inl z, wpE_mono hC eb _ _ _ (fun o2 d2 ρ2 q y H2 fp2 S2 st2 R2 r2 => q y H2 fp2 S2 (StepE.behind R st st2) R2 r2) w⟩
abbrev PWv (X : Cx) (C : CallS) (x : Expr) (e : E) : Prop := PW X x (tT X.K C e)
theorem w_one_and (ha : PTv X C a ea) : PWv X C (.BoolOp .And [a] pos) ea := pw_and1 ha
theorem w_one_or (ha : PTv X C a ea) : PWv X C (.BoolOp .Or [a] pos) ea := pw_or1 ha
theorem w_and (hC : MonoC C) {rest : List Expr} (ha : PTv X C a ea) (hb : PWv X C (.BoolOp .And (b :: rest) pos) eb) : PWv X C (.BoolOp .And (a :: b :: rest) pos) (.and ea eb) := by
  refine (pw_and ha hb).imp fun σ H Q ⟨ρ, fp, T, G, R, w⟩ => ?_
  refine tT_of hC R w fun o d ρ1 ⟨t, e, q⟩ => ⟨t, e, fun H1 fp1 S1 st R1 => ?_⟩
  cases t with
  | true =>
    rw [if_pos rfl] at q ⊢
    exact tT_then hC R st R1 q
  | false =>
    rw [if_neg Bool.false_ne_true] at q ⊢
    obtain ⟨t', e', q⟩ := q
    rw [e] at e'; cases e'
    exact q H1 fp1 S1 st R1
theorem w_or (hC : MonoC C) {rest : List Expr} (ha : PTv X C a ea) (hb : PWv X C (.BoolOp .Or (b :: rest) pos) eb) : PWv X C (.BoolOp .Or (a :: b :: rest) pos) (.or ea eb) := by
  refine (pw_or ha hb).imp fun σ H Q ⟨ρ, fp, T, G, R, w⟩ => ?_
  refine tT_of hC R w fun o d ρ1 ⟨t, e, q⟩ => ⟨t, e, fun H1 fp1 S1 st R1 => ?_⟩
  cases t with
  | true =>
    rw [if_pos rfl] at q ⊢
    obtain ⟨t', e', q⟩ := q
    rw [e] at e'; cases e'
    exact q H1 fp1 S1 st R1
  | false =>
    rw [if_neg Bool.false_ne_true] at q ⊢
    exact tT_then hC R st R1 q
theorem v_ife (hC : MonoC C) (hc : PTv X C c ec) (ha : PEv X C a ea) (hb : PEv X C b eb) : PEv X C (.IfExp c a b pos) (.ife ec ea eb) := by
  refine (pe_ifExp hc ha hb).imp fun σ H Q ⟨ρ, fp, T, G, R, w⟩ => ?_
  refine tT_of hC R w fun o d ρ1 ⟨t, e, q⟩ => ⟨t, e, fun H1 fp1 S1 st R1 => ?_⟩
  cases t with
  | true => exact tE_then hC R st R1 q
  | false => exact tE_then hC R st R1 q
theorem v_isN {j pos'} (hC : MonoC C) (ha : PEv X C a ea) : PEv X C (.Compare a [.Is] [.Constant .none j pos'] pos) (.isN ea) := by
  refine (pe_cmp (pc_isN ha)).imp fun σ H Q ⟨ρ, fp, T, G, R, w⟩ => ?_
  refine tE_of hC R w fun o d ρ1 v H1 fp1 S1 q st R1 r => ?_
  rw [r.now.non_iff]
  exact PostE.solid q rfl st R1 (A := noA) .bl
theorem v_notN {j pos'} (hC : MonoC C) (ha : PEv X C a ea) : PEv X C (.Compare a [.IsNot] [.Constant .none j pos'] pos) (.notN ea) := by
  refine (pe_cmp (pc_notN ha)).imp fun σ H Q ⟨ρ, fp, T, G, R, w⟩ => ?_
  refine tE_of hC R w fun o d ρ1 v H1 fp1 S1 q st R1 r => ?_
  rw [r.now.non_iff']
  exact PostE.solid q rfl st R1 (A := noA) .bl
theorem t_isN {j pos'} (hC : MonoC C) (ha : PEv X C a ea) : PTv X C (.Compare a [.Is] [.Constant .none j pos'] pos) (.isN ea) := by
  refine (pt_cmp (pc_isN ha)).imp fun σ H Q ⟨ρ, fp, T, G, R, w⟩ => ?_
  refine tE_of hC R w fun o d ρ1 v H1 fp1 S1 ⟨t, e, q⟩ st R1 r => ⟨_, rfl, ?_⟩
  rw [r.now.non_iff]
  cases e
  exact q H1 fp1 S1 st R1
theorem t_notN {j pos'} (hC : MonoC C) (ha : PEv X C a ea) : PTv X C (.Compare a [.IsNot] [.Constant .none j pos'] pos) (.notN ea) := by
  refine (pt_cmp (pc_notN ha)).imp fun σ H Q ⟨ρ, fp, T, G, R, w⟩ => ?_
  refine tE_of hC R w fun o d ρ1 v H1 fp1 S1 ⟨t, e, q⟩ st R1 r => ⟨_, rfl, ?_⟩
  rw [r.now.non_iff']
  cases e
  exact q H1 fp1 S1 st R1
theorem v_neg (hC : MonoC C) (ha : PEv X C a ea) : PEv X C (.UnaryOp .USub a pos) (.un .USub ea) := by
  refine (pe_un un_neg ha).imp fun σ H Q ⟨ρ, fp, T, G, R, w⟩ => ?_
  refine tE_of hC R w fun o d ρ1 v H1 fp1 S1 q st R1 r => ?_
  cases d with
  | int i => exact ⟨i, r.now.inv_int, PostE.solid (K := X.K) q rfl st R1 (A := noA) .int⟩
  | _ => exact False.elim q
theorem v_inv (hC : MonoC C) (ha : PEv X C a ea) : PEv X C (.UnaryOp .Invert a pos) (.un .Invert ea) := by
  refine (pe_un un_inv ha).imp fun σ H Q ⟨ρ, fp, T, G, R, w⟩ => ?_
  refine tE_of hC R w fun o d ρ1 v H1 fp1 S1 q st R1 r => ?_
  cases d with
  | int i => exact ⟨i, r.now.inv_int, PostE.solid (K := X.K) q rfl st R1 (A := noA) .int⟩
  | _ => exact False.elim q

def SndC (X : Cx) (op : CmpOp) (r : R2) : Prop := ∀ {H : Hp} {x y : V} {d1 d2 : D} {Q : VK}, Is X.K noA H x d1 → Is X.K noA H y d2 → semC op d1 d2 (fun t => Q (.bl t) H) → r x y H Q
theorem v_cmp (hC : MonoC C) {op : CmpOp} {r : R2} (ho : OpR X (compareOp op) r) (hr : SndC X op r) (ha : PEv X C a ea) (hb : PEv X C b eb) (hm : behindInMarks op b = false) : PEv X C (.Compare a [op] [b] pos) (.cmp op ea eb) := by
  refine (pe_cmpR ho ha hb hm).imp fun σ H Q ⟨ρ, fp, T, G, R, w⟩ => ?_
  refine tE_bin hC R w fun o1 d1 o2 d2 ρ2 x y H2 fp2 S1 S2 p st R2 r1 r2 _ => ?_
  exact hr r1.now r2.now (semC_mono (fun t q => PostE.solid (K := X.K) q rfl st R2 (A := noA) .bl) p)
theorem t_cmp (hC : MonoC C) {op : CmpOp} {r : R2} (ho : OpR X (compareOp op) r) (hr : SndC X op r) (ha : PEv X C a ea) (hb : PEv X C b eb) (hm : behindInMarks op b = false) : PTv X C (.Compare a [op] [b] pos) (.cmp op ea eb) := by
  refine (pt_cmpR ho ha hb hm).imp fun σ H Q ⟨ρ, fp, T, G, R, w⟩ => ?_
  refine tE_bin hC R w fun o1 d1 o2 d2 ρ2 x y H2 fp2 S1 S2 p st R2 r1 r2 _ => ?_
  exact hr r1.now r2.now (semC_mono (fun t q => PostE.solid (K := X.K) (leafT q) rfl st R2 (A := noA) .bl) p)
theorem snd_int {op : CmpOp} {g : Int → Int → Bool} (h : ∀ d1 d2 Q, semC op d1 d2 Q → ∃ i j, d1 = .int i ∧ d2 = .int j ∧ Q (g i j)) : SndC X op (rI0 fun i j => .bl (g i j)) := fun h1 h2 q => by
  obtain ⟨i, j, e1, e2, q'⟩ := h _ _ _ q
  subst e1 e2
  exact ⟨i, j, h1.inv_int, h2.inv_int, q'⟩
theorem snd_lt : SndC X .Lt (rI0 fun i j => .bl (decide (i < j))) := snd_int fun d1 d2 Q h => by
  cases d1 <;> cases d2 <;> first | exact ⟨_, _, rfl, rfl, h⟩ | exact False.elim h
theorem snd_le : SndC X .LtE (rI0 fun i j => .bl (decide (i ≤ j))) := snd_int fun d1 d2 Q h => by
  cases d1 <;> cases d2 <;> first | exact ⟨_, _, rfl, rfl, h⟩ | exact False.elim h
theorem snd_gt : SndC X .Gt (rI0 fun i j => .bl (decide (j < i))) := snd_int fun d1 d2 Q h => by
  cases d1 <;> cases d2 <;> first | exact ⟨_, _, rfl, rfl, h⟩ | exact False.elim h
theorem snd_ge : SndC X .GtE (rI0 fun i j => .bl (decide (j ≤ i))) := snd_int fun d1 d2 Q h => by
  cases d1 <;> cases d2 <;> first | exact ⟨_, _, rfl, rfl, h⟩ | exact False.elim h
theorem snd_eq : SndC X .Eq (rEqD X.K) := fun h1 h2 ⟨p1, p2, q⟩ => ⟨_, _, h1.dpP p1, h2.dpP p2, p1, p2, q⟩
theorem snd_ne : SndC X .NotEq (rNeD X.K) := fun h1 h2 ⟨p1, p2, q⟩ => ⟨_, _, h1.dpP p1, h2.dpP p2, p1, p2, q⟩
def rInT (K : PySem.W.Frag) : R2 := fun x y H Q => ∃ d ds, Dp K H x d ∧ Dp K H y (.tuple ds) ∧ SeqAt.shaped d = true ∧ SeqAt.shaped (.tuple ds) = true ∧ Q (.bl (ds.any fun z => PyData.eqv z d)) H
def rNotInT (K : PySem.W.Frag) : R2 := fun x y H Q => ∃ d ds, Dp K H x d ∧ Dp K H y (.tuple ds) ∧ SeqAt.shaped d = true ∧ SeqAt.shaped (.tuple ds) = true ∧ Q (.bl (!ds.any fun z => PyData.eqv z d)) H
theorem op_inT (hu : X.A.units + 65 < cLine) : OpR X (compareOp .In) (rInT X.K) := by
  intro pins s σ H x y v u Q I rx ry h
  obtain ⟨d, ds, hd, he, sd, se, q⟩ := h
  obtain ⟨as, r1⟩ := Dp.reads I d x v hd rx
  obtain ⟨bs, r2⟩ := Dp.reads I (.tuple ds) y u he ry
  exact SeqAt.in_tuple_reads r2 r1 (SeqAt.canLay_of_shaped se) (SeqAt.canLay_of_shaped sd) (room_in_shaped sd hu) ⟨.bl _, H, I, rfl, q⟩
theorem op_notInT (hu : X.A.units + 65 < cLine) : OpR X (compareOp .NotIn) (rNotInT X.K) := by
  intro pins s σ H x y v u Q I rx ry h
  obtain ⟨d, ds, hd, he, sd, se, q⟩ := h
  obtain ⟨as, r1⟩ := Dp.reads I d x v hd rx
  obtain ⟨bs, r2⟩ := Dp.reads I (.tuple ds) y u he ry
  exact SeqAt.notIn_tuple_reads r2 r1 (SeqAt.canLay_of_shaped se) (SeqAt.canLay_of_shaped sd) (room_in_shaped sd hu) ⟨.bl _, H, I, rfl, q⟩
def rInDk : R2 := fun y x H Q => ∃ a o, x = .ref a ∧ DGet H a y o ∧ Q (.bl o.isSome) H
def rNotInDk : R2 := fun y x H Q => ∃ a o, x = .ref a ∧ DGet H a y o ∧ Q (.bl (!o.isSome)) H
theorem op_inDk (hu : X.A.units + 65 < cLine) : OpR X (compareOp .In) rInDk := by
  intro pins s σ H y x v u Q I ry rx h
  obtain ⟨a, o, rfl, g, q⟩ := h
  obtain rfl : u = Value.ref a := rx
  exact d_in (by omega) I g ry fun s3 I3 => ⟨.bl o.isSome, H, I3, rfl, q⟩
theorem op_notInDk (hu : X.A.units + 65 < cLine) : OpR X (compareOp .NotIn) rNotInDk := by
  intro pins s σ H y x v u Q I ry rx h
  obtain ⟨a, o, rfl, g, q⟩ := h
  obtain rfl : u = Value.ref a := rx
  exact d_notIn (by omega) I g ry fun s3 I3 => ⟨.bl (!o.isSome), H, I3, rfl, q⟩
theorem snd_in : SndC X .In (fun x y H Q => (rInD X.K x y H Q ∨ rInT X.K x y H Q) ∨ rInDk x y H Q) := fun {H x y d1 d2 Q} h1 h2 q => by
  cases d2 <;> try exact False.elim q
  · rename_i ds
    obtain ⟨p1, p2, q⟩ := q
    exact .inl (.inl ⟨_, _, h1.dpP p1, h2.dpP p2, p1, p2, by rw [any_deq]; exact q⟩)
  · rename_i ds
    obtain ⟨p1, p2, q⟩ := q
    exact .inl (.inr ⟨_, _, h1.dpP p1, h2.dpP p2, p1, p2, by rw [any_deq]; exact q⟩)
  · obtain ⟨k, ek, q⟩ := q
    obtain ⟨a, vs, rfl, _, hr, l⟩ := h2.inv_dK
    obtain ⟨rfl, _⟩ := keyOf_is ek h1
    exact .inr ⟨a, _, rfl, .inl ⟨vs, k, hr, rfl, rfl⟩, by rw [l.isSome]; exact q⟩
theorem snd_notIn : SndC X .NotIn (fun x y H Q => (rNotInD X.K x y H Q ∨ rNotInT X.K x y H Q) ∨ rNotInDk x y H Q) := fun {H x y d1 d2 Q} h1 h2 q => by
  cases d2 <;> try exact False.elim q
  · rename_i ds
    obtain ⟨p1, p2, q⟩ := q
    exact .inl (.inl ⟨_, _, h1.dpP p1, h2.dpP p2, p1, p2, by rw [any_deq]; exact q⟩)
  · rename_i ds
    obtain ⟨p1, p2, q⟩ := q
    exact .inl (.inr ⟨_, _, h1.dpP p1, h2.dpP p2, p1, p2, by rw [any_deq]; exact q⟩)
  · obtain ⟨k, ek, q⟩ := q
    obtain ⟨a, vs, rfl, _, hr, l⟩ := h2.inv_dK
    obtain ⟨rfl, _⟩ := keyOf_is ek h1
    exact .inr ⟨a, _, rfl, .inl ⟨vs, k, hr, rfl, rfl⟩, by rw [l.isSome]; exact q⟩
theorem snd_is : SndC X .Is rIsB := fun {H x y d1 d2 Q} h1 h2 q => by
  cases d1 <;> cases d2 <;> try exact False.elim q
  exact ⟨_, _, h1.inv_bl, h2.inv_bl, q⟩
theorem snd_isNot : SndC X .IsNot rNotB := fun {H x y d1 d2 Q} h1 h2 q => by
  cases d1 <;> cases d2 <;> try exact False.elim q
  exact ⟨_, _, h1.inv_bl, h2.inv_bl, q⟩
/-- every comparison has its rule -/
theorem cmp_rule {op : CmpOp} (hu : X.A.units + 65 < cLine) : ∃ r, OpR X (compareOp op) r ∧ SndC X op r := by
  have hu4 : X.A.units + 64 < cLine := by omega
  cases op with
  | Eq => exact ⟨_, op_eqD hu4, snd_eq⟩
  | NotEq => exact ⟨_, op_neD hu4, snd_ne⟩
  | Lt => exact ⟨_, op_lt, snd_lt⟩
  | LtE => exact ⟨_, op_le, snd_le⟩
  | Gt => exact ⟨_, op_gt, snd_gt⟩
  | GtE => exact ⟨_, op_ge, snd_ge⟩
  | In => exact ⟨_, ((op_inD hu).or (op_inT hu)).or (op_inDk hu), snd_in⟩
  | NotIn => exact ⟨_, ((op_notInD hu).or (op_notInT hu)).or (op_notInDk hu), snd_notIn⟩
  | Is => exact ⟨_, op_isBl, snd_is⟩
  | IsNot => exact ⟨_, op_notBl, snd_isNot⟩
end
section
variable {X : Cx} {C : CallS} {pos : Pos} {a b c : Expr} {ea eb ec : E}
theorem chain_core (hC : MonoC C) {op op' : CmpOp} {r r' : R2} (hr : SndC X op r) (hr' : SndC X op' r') {σ : L2.St} {H : Hp} {P : Bool → Env → Prop} {Qe : VK} {ρ : Env} {fp : Fp} {T G : Set'} (R : RepS X.K ρ σ H fp T G)
    (leaf : ∀ t ρ', P t ρ' → PostE X.K σ H fp T G Qe .all (.bl t) ρ')
    (w : wpE C ea ρ fun o1 d1 ρ1 => wp2 o1 d1 (wpE C eb) ρ1 fun o2 d2 ρ2 => solid d2 = true ∧ semC op d1 d2 fun t =>
      if t = true then wpE C ec ρ2 fun _ d3 ρ3 => semC op' d2 d3 fun t' => P t' ρ3 else P false ρ2) : tChain r r' (tE X.K C ea) (tE X.K C eb) (tE X.K C ec) σ H Qe := by
  refine tE_of hC R w fun o1 d1 ρ1 x H1 fp1 S1 p st R1 r1 => ?_
  refine tE_of2 hC R1 r1 p fun o2 d2 ρ2 y H2 fp2 S2 p st2 R2 r1' r2 => ?_
  have st12 := st.trans st2 (fun a z => R.track (.inl (.inr z))) fun a z => R.disT a z
  refine hr r1'.now r2.now (semC_mono (fun t q => ⟨t, rfl, ?_⟩) p.2)
  cases t with
  | false => exact PostE.solid (leaf _ _ q) rfl st12 R2 (A := noA) .bl
  | true =>
    refine tE_of hC (R2.lessT (T' := T) fun a z => .inl z) q fun o3 d3 ρ3 z H3 fp3 S3 p3 st3 R3 r3 => ?_
    have h2 : Is X.K noA H3 y d2 := (Own.step st3.keep (fun a z => R2.wr a (.inl (.inl z))) (Is.own p.1 r2.now) fun a z => z.elim).is fun a z => z.elim
    exact hr' h2 r3.now (semC_mono (fun t q => PostE.solid (leaf _ _ q) rfl (StepE.behind R st12 st3) R3 (A := noA) .bl) p3)
theorem v_chain (hC : MonoC C) {op op' : CmpOp} {r r' : R2} (ho : OpR X (compareOp op) r) (ho' : OpR X (compareOp op') r') (hr : SndC X op r) (hr' : SndC X op' r') (ha : PEv X C a ea) (hb : PEv X C b eb) (hc : PEv X C c ec)
    (hm : lastMarks [op, op'] [b, c] = false) : PEv X C (.Compare a [op, op'] [b, c] pos) (.chain op op' ea eb ec) := by
  refine (pe_chain ho ho' ha hb hc hm).imp fun σ H Q ⟨ρ, fp, T, G, R, w⟩ => ?_
  exact chain_core (P := fun t ρ' => PostE X.K σ H fp T G Q .all (.bl t) ρ') hC hr hr' R (fun _ _ q => q) w
theorem t_chain (hC : MonoC C) {op op' : CmpOp} {r r' : R2} (ho : OpR X (compareOp op) r) (ho' : OpR X (compareOp op') r') (hr : SndC X op r) (hr' : SndC X op' r') (ha : PEv X C a ea) (hb : PEv X C b eb) (hc : PEv X C c ec)
    (hm : lastMarks [op, op'] [b, c] = false) : PTv X C (.Compare a [op, op'] [b, c] pos) (.chain op op' ea eb ec) := by
  refine (pt_chain ho ho' ha hb hc hm).imp fun σ H Q ⟨ρ, fp, T, G, R, w⟩ => ?_
  exact chain_core (P := fun t ρ' => ∃ t', truth (.bl t) = some t' ∧ ∀ H' fp' S, StepE H fp T H' fp' S → RepS X.K ρ' σ H' fp' (cup T S) G → Q t' H') hC hr hr' R (fun _ _ q => leafT q) w
end
section
variable {K : PySem.W.Frag} {C : CallS} {X : Cx} {ρ ρ1 : Env} {σ : L2.St} {H H1 H' : Hp} {fp fp1 fp' : Fp} {T S S1 G : Set'} {Q : VK} {o o2 t : Ow} {d : D} {v : V} {e : E} {x : Expr}
theorem wk_apart (st : StepE H fp T H' fp' S) (R : RepS K ρ1 σ H' fp' (cup T S) G) {S' : Set'} (hs : ∀ a, S' a → S a) {U : Set'} (hU : ∀ a, U a → S a) (hd : ∀ a, U a → ¬ S' a) : ∀ a, U a → ¬ cup (cup (un fp') (cup T S')) G a := fun a u z => by
  rcases z with (z | z | z) | z
  · exact R.disT a z (.inr (hU a u))
  · exact st.disS a (hU a u) z
  · exact hd a u z
  · exact R.disG a (.inr (.inr (hU a u))) z
theorem PostE.wk (h : wkO t o d = some o2) (q : PostE K σ H fp T G Q o2 d ρ1) : PostE K σ H fp T G Q o d ρ1 := by
  intro v H' fp' S st R r
  unfold wkO at h
  have fin : ∀ S' : Set', (∀ a, S' a → S a) → RepV K H' o2 v d S' (cup (un fp') (cup T S')) (cup (cup (un fp') (cup T S')) G) → Q v H' := fun S' hs r' =>
    q v H' fp' S' (st.less hs) (R.lessT fun a z => z.elim .inl fun z => .inr (hs a z)) r'
  have non : ∀ a, noA a → S a := fun _ z => z.elim
  have subB : ∀ a, cup (un fp') (cup T noA) a → cup (un fp') (cup T S) a := fun a z => by
    rcases z with z | z | z
    · exact .inl z
    · exact .inr (.inl z)
    · exact z.elim
  split at h
  · rename_i hs
    cases h
    exact q v H' fp' S st R (RepV.solid hs r.now)
  · split at h <;> cases h
    · exact q v H' fp' S st R r
    · -- all, one
      cases d with
      | lst ds =>
        cases r with
        | lst h1 sa u nu l =>
          rename_i a _ _
          have s1 : ∀ b, b = a → S b := fun b e => by rw [e]; exact sa
          exact fin (fun b => b = a) s1 ⟨_, _, rfl, rfl, h1, l.is (wk_apart st R s1 u fun b ub e => nu (by rw [← e]; exact ub))⟩
      | dK ds =>
        cases r with
        | dK h1 sa u nu l =>
          rename_i a _ _
          have s1 : ∀ b, b = a → S b := fun b e => by rw [e]; exact sa
          exact fin (fun b => b = a) s1 ⟨_, _, rfl, rfl, h1, l.is (wk_apart st R s1 u fun b ub e => nu (by rw [← e]; exact ub))⟩
      | dT ds =>
        cases r with
        | dT h1 sa u nu l =>
          rename_i a _ _
          have s1 : ∀ b, b = a → S b := fun b e => by rw [e]; exact sa
          exact fin (fun b => b = a) s1 ⟨_, _, rfl, rfl, h1, l.is (wk_apart st R s1 u fun b ub e => nu (by rw [← e]; exact ub))⟩
      | non => exact fin noA non (Own.is r (wk_apart st R non (fun _ z => z) fun _ _ z => z))
      | bl b => exact fin noA non (Own.is r (wk_apart st R non (fun _ z => z) fun _ _ z => z))
      | int b => exact fin noA non (Own.is r (wk_apart st R non (fun _ z => z) fun _ _ z => z))
      | str b => exact fin noA non (Own.is r (wk_apart st R non (fun _ z => z) fun _ _ z => z))
      | tup b => exact fin noA non (Own.is r (wk_apart st R non (fun _ z => z) fun _ _ z => z))
      | scr b => exact fin noA non (Own.is r (wk_apart st R non (fun _ z => z) fun _ _ z => z))
    · exact q v H' fp' S st R r
    · exact fin noA non (Own.is r (wk_apart st R non (fun _ z => z) fun _ _ z => z))
    · refine fin noA non (One.is (wk_apart st R non (fun _ z => z) fun _ _ z => z) (fun a z => ?_) r)
      rcases z with (z | z | z) | z
      · exact .inl (.inl z)
      · exact .inl (.inr (.inl z))
      · exact z.elim
      · exact .inr z
    · exact q v H' fp' S st R r
    · refine fin noA non (Own.is r fun a s z => wk_apart st R non (fun _ z => z) (fun _ _ z => z) a s (.inl z))
    · refine fin noA non (One.is (fun a s z => wk_apart st R non (fun _ z => z) (fun _ _ z => z) a s (.inl z)) (fun a z => .inl (subB a z)) r)
    · exact fin noA non (Is.less r fun a z => .inl (subB a z))
    · exact fin noA non (Is.less r subB)
    · refine fin noA non ?_
      cases d with
      | lst ds => obtain ⟨a, vs, rfl, n, h, l⟩ := r; exact .lst (fun z => n (subB _ z)) h (l.less fun a z => .inl (subB a z))
      | dK ds => obtain ⟨a, vs, rfl, n, h, l⟩ := r; exact .dK (fun z => n (subB _ z)) h (l.less fun a z => .inl (subB a z))
      | dT ds => obtain ⟨a, vs, rfl, n, h, l⟩ := r; exact .dT (fun z => n (subB _ z)) h (l.less fun a z => .inl (subB a z))
      | non => exact Is.less r fun a z => .inl (subB a z)
      | bl b => exact Is.less r fun a z => .inl (subB a z)
      | int b => exact Is.less r fun a z => .inl (subB a z)
      | str b => exact Is.less r fun a z => .inl (subB a z)
      | tup b => exact Is.less r fun a z => .inl (subB a z)
      | scr b => exact Is.less r fun a z => .inl (subB a z)
theorem wk_tE (hC : MonoC C) {σ : L2.St} {H : Hp} {Q : VK} : tE K C (.wk t e) σ H Q → tE K C e σ H Q := fun ⟨ρ, fp, T, G, R, w⟩ => ⟨ρ, fp, T, G, R, wpE_mono hC e ρ _ _ (fun o d ρ1 ⟨o2, h, q⟩ => PostE.wk h q) w⟩
theorem v_wk (hC : MonoC C) (ha : PEv X C x e) : PEv X C x (.wk t e) := ha.imp fun σ H Q ⟨ρ, fp, T, G, R, w⟩ => ⟨ρ, fp, T, G, R, wpE_mono hC e ρ _ _ (fun o d ρ1 ⟨o2, h, q⟩ => PostE.wk h q) w⟩
theorem t_wk (hC : MonoC C) (ha : PTv X C x e) : PTv X C x (.wk t e) := ha.imp fun σ H Q ⟨ρ, fp, T, G, R, w⟩ => ⟨ρ, fp, T, G, R, wpE_mono hC e ρ _ _ (fun o d ρ1 ⟨o2, h, q⟩ => q) w⟩
theorem w_wk (hC : MonoC C) (ha : PWv X C x e) : PWv X C x (.wk t e) := ha.imp fun σ H Q ⟨ρ, fp, T, G, R, w⟩ => ⟨ρ, fp, T, G, R, wpE_mono hC e ρ _ _ (fun o d ρ1 ⟨o2, h, q⟩ => q) w⟩
end
end VH
namespace VH
open PySem PySem.Spec PyProof.Rows L2

/-- the items of something new: all ours, or all frozen -/
def Kids (K : PySem.W.Frag) (H : Hp) (k : Ow) (vs : List V) (ds : List D) (S A : Set') : Prop := (k = .all ∧ OwnL K H vs ds S) ∨ (k = .sh ∧ IsL K A H vs ds)
section
variable {K : PySem.W.Frag} {H : Hp} {o k k1 k2 : Ow} {v : V} {d : D} {vs ws : List V} {ds es : List D} {S S' S1 S2 A A' B : Set'}
theorem Kids.isL (h : Kids K H k vs ds S A) (q : ∀ a, S a → ¬ A' a) (g : ∀ a, A' a → A a) : IsL K A' H vs ds := by
  rcases h with ⟨_, h⟩ | ⟨_, h⟩
  · exact h.is q
  · exact h.less g
theorem Kids.mono (h : Kids K H k vs ds S A) (s : ∀ a, S a → S' a) (g : ∀ a, A' a → A a) : Kids K H k vs ds S' A' := by
  rcases h with ⟨e, h⟩ | ⟨e, h⟩
  · exact .inl ⟨e, h.mono s⟩
  · exact .inr ⟨e, h.less g⟩
theorem OwnL.append (dj : ∀ a, S1 a → ¬ S2 a) : ∀ {vs : List V} {ds : List D} {U : Set'}, OwnL K H vs ds U → (∀ a, U a → S1 a) → OwnL K H ws es S2 → OwnL K H (vs ++ ws) (ds ++ es) (cup U S2)
  | _, _, _, .nil, _, h => h.mono fun a z => .inr z
  | _, _, U, .cons (T := T0) (U := U0) x l d t u, g, h => .cons x (OwnL.append dj l (fun a z => g a (u a z)) h) (fun a z q => q.elim (d a z) fun q => dj a (g a (t a z)) q) (fun a z => .inl (t a z)) fun a z => z.elim (fun z => .inl (u a z)) .inr
theorem minO_all : minO k1 k2 = .all ↔ k1 = .all ∧ k2 = .all := by
  cases k1 <;> cases k2 <;> simp [minO]
theorem minO_sh (h : ¬ (k1 = .all ∧ k2 = .all)) : minO k1 k2 = .sh := by
  cases k1 <;> cases k2 <;> simp [minO] at h ⊢
theorem Kids.append (h1 : Kids K H k1 vs ds S1 A) (h2 : Kids K H k2 ws es S2 A) (dj : ∀ a, S1 a → ¬ S2 a) (q1 : ∀ a, S1 a → ¬ A' a) (q2 : ∀ a, S2 a → ¬ A' a) (g : ∀ a, A' a → A a) :
    Kids K H (minO k1 k2) (vs ++ ws) (ds ++ es) (cup S1 S2) A' := by
  by_cases e : k1 = .all ∧ k2 = .all
  · rcases h1 with ⟨_, h1⟩ | ⟨z, _⟩
    · rcases h2 with ⟨_, h2⟩ | ⟨z, _⟩
      · exact .inl ⟨minO_all.mpr e, OwnL.append dj h1 (fun _ z => z) h2⟩
      · rw [e.2] at z; cases z
    · rw [e.1] at z; cases z
  · exact .inr ⟨minO_sh e, (h1.isL q1 g).append (h2.isL q2 g)⟩
theorem solidL_mem : ∀ {ds : List D}, solidL ds = true ↔ ∀ d ∈ ds, solid d = true
  | [] => by simp [solidL]
  | d :: ds => by simp [solidL, solidL_mem (ds := ds)]
theorem kidsO_cases (e : kidsO o ds = some k) : (solidL ds = true ∧ k = .all) ∨ (¬ solidL ds = true ∧ ((o = .all ∧ k = .all) ∨ ((o = .tra1 ∨ o = .bor1 ∨ o = .sh ∨ o = .one) ∧ k = .sh))) := by
  unfold kidsO at e
  split at e
  · rename_i h; cases e; exact .inl ⟨h, rfl⟩
  · rename_i h
    refine .inr ⟨h, ?_⟩
    cases o <;> simp at e <;> subst e <;> simp
theorem kids_lst (r : RepV K H o v (.lst ds) S B A) (e : kidsO o ds = some k) : ∃ a vs, v = .ref a ∧ H a = some (.lst vs) ∧ Kids K H k vs ds S A := by
  rcases kidsO_cases e with ⟨hs, rfl⟩ | ⟨hs, ⟨rfl, rfl⟩ | ⟨ho, rfl⟩⟩
  · obtain ⟨a, vs, e1, _, h, l⟩ := r.now.inv_lst
    exact ⟨a, vs, e1, h, .inl ⟨rfl, (IsL.own hs l).mono fun _ z => z.elim⟩⟩
  · have r' : Own K H v (.lst ds) S := r
    cases r' with
    | lst h sa u nu l => exact ⟨_, _, rfl, h, .inl ⟨rfl, l.mono u⟩⟩
  · rcases ho with rfl | rfl | rfl | rfl
    · obtain ⟨a, vs, e1, _, h, l⟩ := r; exact ⟨a, vs, e1, h, .inr ⟨rfl, l⟩⟩
    · obtain ⟨a, vs, e1, _, h, l⟩ := r; exact ⟨a, vs, e1, h, .inr ⟨rfl, l⟩⟩
    · obtain ⟨a, vs, e1, _, h, l⟩ := Is.inv_lst r; exact ⟨a, vs, e1, h, .inr ⟨rfl, l⟩⟩
    · obtain ⟨a, vs, e1, _, h, l⟩ := r; exact ⟨a, vs, e1, h, .inr ⟨rfl, l⟩⟩
theorem kids_tup (r : RepV K H o v (.tup ds) S B A) (e : kidsO o ds = some k) : ∃ a vs, v = .ref a ∧ SqT K H a vs ∧ Kids K H k vs ds S A := by
  rcases kidsO_cases e with ⟨hs, rfl⟩ | ⟨hs, ⟨rfl, rfl⟩ | ⟨ho, rfl⟩⟩
  · obtain ⟨a, vs, e1, h, l⟩ := r.now.inv_tup
    exact ⟨a, vs, e1, h, .inl ⟨rfl, (IsL.own hs l).mono fun _ z => z.elim⟩⟩
  · have r' : Own K H v (.tup ds) S := r
    cases r' with
    | tup h l => exact ⟨_, _, rfl, h, .inl ⟨rfl, l⟩⟩
  · have r' : Is K A H v (.tup ds) := by rcases ho with rfl | rfl | rfl | rfl <;> exact r
    obtain ⟨a, vs, e1, h, l⟩ := r'.inv_tup
    exact ⟨a, vs, e1, h, .inr ⟨rfl, l⟩⟩
/-- one thing as an item -/
theorem chO_cases (e : chO o d = some k) : (solid d = true ∧ k = .all) ∨ (¬ solid d = true ∧ ((o = .all ∧ k = .all) ∨ ((o = .sh ∨ o = .one) ∧ k = .sh))) := by
  unfold chO at e
  split at e
  · rename_i h; cases e; exact .inl ⟨h, rfl⟩
  · rename_i h
    refine .inr ⟨h, ?_⟩
    cases o <;> simp at e <;> subst e <;> simp
theorem kid_one (r : RepV K H o v d S B A) (e : chO o d = some k) (q : ∀ a, S a → ¬ A' a) (g : ∀ a, A' a → A a) : Kids K H k [v] [d] S A' := by
  rcases chO_cases e with ⟨hs, rfl⟩ | ⟨hs, ⟨rfl, rfl⟩ | ⟨ho, rfl⟩⟩
  · exact .inl ⟨rfl, .cons (Is.own hs r.now) .nil (U := noA) (fun _ z => z.elim) (fun _ z => z.elim) fun _ z => z.elim⟩
  · exact .inl ⟨rfl, .cons r .nil (U := noA) (fun _ _ z => z) (fun _ z => z) fun _ z => z.elim⟩
  · refine .inr ⟨rfl, .cons ?_ .nil⟩
    rcases ho with rfl | rfl
    · exact Is.less r g
    · exact One.is q g r
theorem Kids.keep {H' : Hp} (h : Kids K H k vs ds S A) (kp : Keep noA H H') : Kids K H' k vs ds S A := by
  rcases h with ⟨e, h⟩ | ⟨e, h⟩
  · exact .inl ⟨e, h.step kp (fun _ z => z.elim) fun _ _ z => z⟩
  · exact .inr ⟨e, h.step kp (fun _ z => z.elim) (fun _ z => z.elim) Grow.refl⟩
theorem rootO_sh : rootO .sh = .one := rfl
theorem rootO_all : rootO .all = .all := rfl
end

section
variable {K : PySem.W.Frag} {ρ2 : Env} {σ : L2.St} {H H2 : Hp} {fp fp2 : Fp} {T G S : Set'} {k : Ow} {vs : List V} {ds : List D} {Q : VK} {p : Addr}
theorem un_cupT {a : Addr} (z : cup (cup (un fp2) (cup T noA)) G a) : cup (cup (un fp2) T) G a := by rw [cup_noA] at z; exact z
/-- a new list -/
theorem PostE.newL (q : PostE K σ H fp T G Q (rootO k) (.lst ds) ρ2) (st : StepE H fp T H2 fp2 S) (R2 : RepS K ρ2 σ H2 fp2 (cup T S) G) (hk : Kids K H2 k vs ds S (cup (cup (un fp2) T) G)) (hp : H2 p = none) : Q (.ref p) (upd H2 p (.lst vs)) := by
  have kp : Keep noA H2 (upd H2 p (.lst vs)) := Keep.upd hp
  have mu : MutS (sgl p) (upd H2 p (.lst vs)) := fun a z => by rw [z]; exact ⟨_, upd_same, rfl⟩
  have hn : ∀ a, sgl p a → H2 a = none := fun a z => by rw [z]; exact hp
  have nS : ¬ cup (cup (un fp2) (cup T S)) G p := fun z => R2.track z hp
  rcases hk.keep kp with ⟨rfl, l⟩ | ⟨rfl, l⟩
  · refine q (.ref p) (upd H2 p (.lst vs)) fp2 (cup S (sgl p)) (st.grow R2 kp hn) (by rw [← cup_assoc]; exact R2.grow kp hn mu) ?_
    exact .lst upd_same (.inr rfl) (fun a z => .inl z) (fun z => nS (.inl (.inr (.inr z)))) l
  · have R0 := R2.lessT (T' := T) fun a z => .inl z
    have st0 : StepE H fp T H2 fp2 noA := st.less fun _ z => z.elim
    have st1 := st0.grow (S2 := sgl p) (by rw [cup_noA]; exact R0) kp hn
    have e0 : cup noA (sgl p) = sgl p := by funext a; simp [cup]
    rw [e0] at st1
    refine q (.ref p) (upd H2 p (.lst vs)) fp2 (sgl p) st1 (R0.grow kp hn mu) ⟨p, vs, rfl, rfl, upd_same, ?_⟩
    refine IsL.step (F := noA) (A := cup (cup (un fp2) T) G) (H := H2) kp (fun _ z => z.elim) (fun _ z => z.elim) (fun a z => ?_) ?_
    · rcases z with (z | z | z) | z
      · exact .inl (.inl (.inl z))
      · exact .inl (.inl (.inr z))
      · rw [z]; exact .inr hp
      · exact .inl (.inr z)
    · rcases hk with ⟨e, _⟩ | ⟨_, l⟩
      · cases e
      · exact l
/-- a new tuple -/
theorem PostE.newT (q : PostE K σ H fp T G Q (nrm k (.tup ds)) (.tup ds) ρ2) (st : StepE H fp T H2 fp2 S) (R2 : RepS K ρ2 σ H2 fp2 (cup T S) G) (hk : Kids K H2 k vs ds S (cup (cup (un fp2) T) G)) (hp : H2 p = none) : Q (.ref p) (upd H2 p (.tup vs)) := by
  have kp : Keep noA H2 (upd H2 p (.tup vs)) := Keep.upd hp
  have hn : ∀ a, noA a → H2 a = none := fun a z => z.elim
  have e1 : ∀ X : Set', cup X noA = X := cup_noA
  have sq : SqT K (upd H2 p (.tup vs)) p vs := .inl (.inl upd_same)
  rcases hk.keep kp with ⟨rfl, l⟩ | ⟨rfl, l⟩
  · have en : nrm .all (.tup ds) = .all := by unfold nrm; split <;> rfl
    rw [en] at q
    have R3 := R2.grow (S := noA) kp hn fun _ z => z.elim
    have st3 := st.grow (S2 := noA) R2 kp hn
    rw [e1] at R3 st3
    exact q (.ref p) (upd H2 p (.tup vs)) fp2 S st3 R3 (.tup sq l)
  · have R0 := R2.lessT (T' := T) fun a z => .inl z
    have st0 : StepE H fp T H2 fp2 noA := st.less fun _ z => z.elim
    have st1 := st0.grow (S2 := noA) (by rw [cup_noA]; exact R0) kp hn
    have R3 := R0.grow (S := noA) kp hn fun _ z => z.elim
    rw [e1] at st1
    have i : Is K (cup (cup (un fp2) (cup T noA)) G) (upd H2 p (.tup vs)) (.ref p) (.tup ds) := .tup sq (l.less fun a z => un_cupT z)
    by_cases hs : VH.solid (.tup ds) = true
    · rw [nrm_solid hs] at q
      exact q (.ref p) (upd H2 p (.tup vs)) fp2 noA st1 R3 (RepV.solid hs i)
    · rw [nrm_not hs] at q
      exact q (.ref p) (upd H2 p (.tup vs)) fp2 noA st1 R3 i
end

section
variable {X : Cx} {C : CallS} {pos : Pos} {a b c : Expr} {ea eb ec : E}
def Snd2 (X : Cx) (op : Operator) (r : R2) : Prop := ∀ {ρ2 : Env} {σ : L2.St} {H H2 : Hp} {fp fp2 : Fp} {T G S1 S2 : Set'} {o1 o2 : Ow} {d1 d2 : D} {x y : V} {Q : VK},
  StepE H fp T H2 fp2 (cup S1 S2) → RepS X.K ρ2 σ H2 fp2 (cup T (cup S1 S2)) G →
  RepV X.K H2 o1 x d1 S1 (cup (un fp2) (cup T (cup S1 S2))) (cup (cup (un fp2) (cup T (cup S1 S2))) G) →
  RepV X.K H2 o2 y d2 S2 (cup (un fp2) (cup T (cup S1 S2))) (cup (cup (un fp2) (cup T (cup S1 S2))) G) → (∀ a, S1 a → ¬ S2 a) →
  sem2 op o1 d1 o2 d2 (fun o d => PostE X.K σ H fp T G Q o d ρ2) → r x y H2 Q
theorem v_bin (hC : MonoC C) {op : Operator} {r : R2} (ho : OpR X (binaryOp op) r) (hr : Snd2 X op r) (ha : PEv X C a ea) (hb : PEv X C b eb) : PEv X C (.BinOp a op b pos) (.bin op ea eb) := by
  refine (pe_op ho ha hb).imp fun σ H Q ⟨ρ, fp, T, G, R, w⟩ => ?_
  exact tE_bin hC R w fun o1 d1 o2 d2 ρ2 x y H2 fp2 S1 S2 p st R2 r1 r2 dj => hr st R2 r1 r2 dj p
theorem apart {K : PySem.W.Frag} {ρ2 : Env} {σ : L2.St} {H H2 : Hp} {fp fp2 : Fp} {T G S : Set'} (st : StepE H fp T H2 fp2 S) (R2 : RepS K ρ2 σ H2 fp2 (cup T S) G) : ∀ a, S a → ¬ cup (cup (un fp2) T) G a := fun a s z => by
  rcases z with (z | z) | z
  · exact R2.disT a z (.inr s)
  · exact st.disS a s z
  · exact R2.disG a (.inr (.inr s)) z
theorem lessG {K : PySem.W.Frag} {fp2 : Fp} {T G S : Set'} : ∀ a, cup (cup (un fp2) T) G a → cup (cup (un fp2) (cup T S)) G a := fun a z => by
  rcases z with (z | z) | z
  · exact .inl (.inl z)
  · exact .inl (.inr (.inl z))
  · exact .inr z
theorem two_ints {K : PySem.W.Frag} {H : Hp} {o1 o2 : Ow} {i j : Int} {x y : V} {S1 S2 A1 A2 B1 B2 : Set'} (r1 : RepV K H o1 x (.int i) S1 B1 A1) (r2 : RepV K H o2 y (.int j) S2 B2 A2) : x = .int i ∧ y = .int j := ⟨r1.now.inv_int, r2.now.inv_int⟩
theorem snd_sub : Snd2 X .Sub (rI0 fun i j => .int (i - j)) := fun {ρ2 σ H H2 fp fp2 T G S1 S2 o1 o2 d1 d2 x y Q} st R2 r1 r2 dj w => by
  cases d1 <;> cases d2 <;> try exact False.elim w
  obtain ⟨rfl, rfl⟩ := two_ints r1 r2
  exact ⟨_, _, rfl, rfl, PostE.solid (K := X.K) w rfl st R2 (A := noA) .int⟩
theorem snd_fdiv : Snd2 X .FloorDiv (rI CDiv fun i j => .int (i / j)) := fun {ρ2 σ H H2 fp fp2 T G S1 S2 o1 o2 d1 d2 x y Q} st R2 r1 r2 dj w => by
  cases d1 <;> cases d2 <;> try exact False.elim w
  obtain ⟨rfl, rfl⟩ := two_ints r1 r2
  exact ⟨_, _, rfl, rfl, ⟨w.1, w.2.1⟩, PostE.solid (K := X.K) w.2.2 rfl st R2 (A := noA) .int⟩
theorem snd_mod : Snd2 X .Mod (rI (fun _ j => 0 < j) fun i j => .int (i % j)) := fun {ρ2 σ H H2 fp fp2 T G S1 S2 o1 o2 d1 d2 x y Q} st R2 r1 r2 dj w => by
  cases d1 <;> cases d2 <;> try exact False.elim w
  obtain ⟨rfl, rfl⟩ := two_ints r1 r2
  exact ⟨_, _, rfl, rfl, w.1, PostE.solid (K := X.K) w.2 rfl st R2 (A := noA) .int⟩
theorem snd_pow : Snd2 X .Pow (rI CPow fun i j => .int (i ^ j.toNat)) := fun {ρ2 σ H H2 fp fp2 T G S1 S2 o1 o2 d1 d2 x y Q} st R2 r1 r2 dj w => by
  cases d1 <;> cases d2 <;> try exact False.elim w
  obtain ⟨rfl, rfl⟩ := two_ints r1 r2
  exact ⟨_, _, rfl, rfl, ⟨w.1, w.2.1, w.2.2.1⟩, PostE.solid (K := X.K) w.2.2.2 rfl st R2 (A := noA) .int⟩
theorem snd_shl : Snd2 X .LShift (rI CPow fun i j => .int (i * 2 ^ j.toNat)) := fun {ρ2 σ H H2 fp fp2 T G S1 S2 o1 o2 d1 d2 x y Q} st R2 r1 r2 dj w => by
  cases d1 <;> cases d2 <;> try exact False.elim w
  obtain ⟨rfl, rfl⟩ := two_ints r1 r2
  exact ⟨_, _, rfl, rfl, ⟨w.1, w.2.1, w.2.2.1⟩, PostE.solid (K := X.K) w.2.2.2 rfl st R2 (A := noA) .int⟩
theorem snd_shr : Snd2 X .RShift (rI (fun _ j => 0 ≤ j) fun i j => .int (i / 2 ^ j.toNat)) := fun {ρ2 σ H H2 fp fp2 T G S1 S2 o1 o2 d1 d2 x y Q} st R2 r1 r2 dj w => by
  cases d1 <;> cases d2 <;> try exact False.elim w
  obtain ⟨rfl, rfl⟩ := two_ints r1 r2
  exact ⟨_, _, rfl, rfl, w.1, PostE.solid (K := X.K) w.2 rfl st R2 (A := noA) .int⟩
theorem snd_and : Snd2 X .BitAnd (rI0 fun i j => .int (Builtin.bitAnd i j)) := fun {ρ2 σ H H2 fp fp2 T G S1 S2 o1 o2 d1 d2 x y Q} st R2 r1 r2 dj w => by
  cases d1 <;> cases d2 <;> try exact False.elim w
  obtain ⟨rfl, rfl⟩ := two_ints r1 r2
  exact ⟨_, _, rfl, rfl, PostE.solid (K := X.K) w rfl st R2 (A := noA) .int⟩
theorem snd_or : Snd2 X .BitOr (rI0 fun i j => .int (Builtin.bitOr i j)) := fun {ρ2 σ H H2 fp fp2 T G S1 S2 o1 o2 d1 d2 x y Q} st R2 r1 r2 dj w => by
  cases d1 <;> cases d2 <;> try exact False.elim w
  obtain ⟨rfl, rfl⟩ := two_ints r1 r2
  exact ⟨_, _, rfl, rfl, PostE.solid (K := X.K) w rfl st R2 (A := noA) .int⟩
theorem snd_xor : Snd2 X .BitXor (rI0 fun i j => .int (Builtin.bitXor i j)) := fun {ρ2 σ H H2 fp fp2 T G S1 S2 o1 o2 d1 d2 x y Q} st R2 r1 r2 dj w => by
  cases d1 <;> cases d2 <;> try exact False.elim w
  obtain ⟨rfl, rfl⟩ := two_ints r1 r2
  exact ⟨_, _, rfl, rfl, PostE.solid (K := X.K) w rfl st R2 (A := noA) .int⟩
def rAdd4 (K : PySem.W.Frag) : R2 := fun x y H Q => (rI0 fun i j => .int (i + j)) x y H Q ∨ rCat x y H Q ∨ rCatT K x y H Q ∨ ∃ i j, x = .str i ∧ y = .str j ∧ i.length + j.length ≤ sizeLine ∧ Q (.str (i ++ j)) H
theorem op_add4 : OpR X (binaryOp .Add) (rAdd4 X.K) := op_add.or (op_cat.or (op_catT.or op_add_str))
theorem snd_add : Snd2 X .Add (rAdd4 X.K) := fun {ρ2 σ H H2 fp fp2 T G S1 S2 o1 o2 d1 d2 x y Q} st R2 r1 r2 dj w => by
  cases d1 <;> cases d2 <;> try exact False.elim w
  · obtain ⟨rfl, rfl⟩ := two_ints r1 r2
    exact .inl ⟨_, _, rfl, rfl, PostE.solid (K := X.K) w rfl st R2 (A := noA) .int⟩
  · obtain ⟨z, q⟩ := w
    exact .inr (.inr (.inr ⟨_, _, r1.now.inv_str, r2.now.inv_str, z, PostE.solid (K := X.K) q rfl st R2 (A := noA) .str⟩))
  · obtain ⟨z, k1, k2, e1, e2, q⟩ := w
    obtain ⟨a, vs, rfl, h1, l1⟩ := kids_lst r1 e1
    obtain ⟨b, ws, rfl, h2, l2⟩ := kids_lst r2 e2
    have ap := apart st R2
    have n1 : vs.length = _ := (l1.isL (A' := noA) (fun _ _ z => z) fun _ z => z.elim).length
    have n2 : ws.length = _ := (l2.isL (A' := noA) (fun _ _ z => z) fun _ z => z.elim).length
    refine .inr (.inl ⟨a, b, vs, ws, rfl, rfl, h1, h2, by rw [n1, n2]; exact z, fun p hp => ?_⟩)
    exact PostE.newL q st R2 (l1.append l2 dj (fun a z => ap a (.inl z)) (fun a z => ap a (.inr z)) (lessG (K := X.K))) hp
  · obtain ⟨z, ne1, ne2, k1, k2, e1, e2, q⟩ := w
    obtain ⟨a, vs, rfl, h1, l1⟩ := kids_tup r1 e1
    obtain ⟨b, ws, rfl, h2, l2⟩ := kids_tup r2 e2
    have ap := apart st R2
    have n1 : vs.length = _ := (l1.isL (A' := noA) (fun _ _ z => z) fun _ z => z.elim).length
    have n2 : ws.length = _ := (l2.isL (A' := noA) (fun _ _ z => z) fun _ z => z.elim).length
    have m1 : vs ≠ [] := fun e => ne1 (List.length_eq_zero_iff.mp (by rw [← n1, e]; rfl))
    have m2 : ws ≠ [] := fun e => ne2 (List.length_eq_zero_iff.mp (by rw [← n2, e]; rfl))
    refine .inr (.inr (.inl ⟨a, b, vs, ws, rfl, rfl, h1, h2, m1, by rw [n1, n2]; exact z, ?_⟩))
    first
      | exact fun p hp => PostE.newT q st R2 (l1.append l2 dj (fun a z => ap a (.inl z)) (fun a z => ap a (.inr z)) (lessG (K := X.K))) hp
      | exact ⟨fun e => absurd e m2, fun _ p hp => PostE.newT q st R2 (l1.append l2 dj (fun a z => ap a (.inl z)) (fun a z => ap a (.inr z)) (lessG (K := X.K))) hp⟩
theorem IsL.rep {K : PySem.W.Frag} {A : Set'} {H : Hp} {vs : List V} {ds : List D} (h : IsL K A H vs ds) : ∀ n : Nat, IsL K A H (List.replicate n vs).flatten (List.replicate n ds).flatten
  | 0 => .nil
  | n + 1 => by
    rw [List.replicate_succ, List.replicate_succ, List.flatten_cons, List.flatten_cons]
    exact h.append (IsL.rep h n)
theorem solidL_rep {ds : List D} (h : solidL ds = true) : ∀ n : Nat, solidL (List.replicate n ds).flatten = true := fun n => by
  rw [solidL_mem] at h ⊢
  intro d hd
  obtain ⟨l, hl, hd⟩ := List.mem_flatten.mp hd
  rw [(List.mem_replicate.mp hl).2] at hd
  exact h d hd
theorem snd_mul : Snd2 X .Mult (fun x y H Q => (rI CMul fun i j => .int (i * j)) x y H Q ∨ rRep x y H Q) := fun {ρ2 σ H H2 fp fp2 T G S1 S2 o1 o2 d1 d2 x y Q} st R2 r1 r2 dj w => by
  cases d1 <;> cases d2 <;> try exact False.elim w
  · obtain ⟨rfl, rfl⟩ := two_ints r1 r2
    exact .inl ⟨_, _, rfl, rfl, w.1, PostE.solid (K := X.K) w.2 rfl st R2 (A := noA) .int⟩
  · obtain ⟨z1, z2, z3, hs, q⟩ := w
    obtain ⟨a, vs, rfl, _, h1, l1⟩ := r1.now.inv_lst
    have n1 := l1.length
    refine .inr ⟨a, _, vs, rfl, r2.now.inv_int, h1, z1, z2, by rw [n1]; exact z3, fun p hp => ?_⟩
    exact PostE.newL (k := .all) q st R2 (.inl ⟨rfl, ((IsL.rep l1 _).own (solidL_rep hs _)).mono fun _ z => z.elim⟩) hp
theorem bin_rule (op : Operator) (h : op ≠ .MatMult ∧ op ≠ .Div) : ∃ r, OpR X (binaryOp op) r ∧ Snd2 X op r := by
  cases op with
  | Add => exact ⟨_, op_add4, snd_add⟩
  | Sub => exact ⟨_, op_sub, snd_sub⟩
  | Mult => exact ⟨_, op_mul.or op_rep, snd_mul⟩
  | FloorDiv => exact ⟨_, op_fdiv, snd_fdiv⟩
  | Mod => exact ⟨_, op_mod, snd_mod⟩
  | Pow => exact ⟨_, op_pow, snd_pow⟩
  | LShift => exact ⟨_, op_shl, snd_shl⟩
  | RShift => exact ⟨_, op_shr, snd_shr⟩
  | BitAnd => exact ⟨_, op_and, snd_and⟩
  | BitOr => exact ⟨_, op_or, snd_or⟩
  | BitXor => exact ⟨_, op_xor, snd_xor⟩
  | MatMult => exact absurd rfl h.1
  | Div => exact absurd rfl h.2
end

/-- a display's items, over the heap -/
def tEs (K : PySem.W.Frag) (C : CallS) (es : Es) : TA := fun σ H Q => ∃ ρ fp T G, RepS K ρ σ H fp T G ∧ wpEs C es ρ fun k ds ρ' =>
  ∀ vs H' fp' S, StepE H fp T H' fp' S → RepS K ρ' σ H' fp' (cup T S) G → Kids K H' k vs ds S (cup (cup (un fp') T) G) → Q vs H'
abbrev PAv (X : Cx) (C : CallS) (xs : List Expr) (es : Es) : Prop := PA X xs (tEs X.K C es)
theorem _root_.L2.PA.imp {X : Cx} {x : List Expr} {t t' : TA} (h : PA X x t) (w : ∀ σ H Q, t' σ H Q → t σ H Q) : PA X x t' := ⟨fun pos pins s σ H Q I q => h.run pos pins s σ H Q I (w σ H Q q)⟩
section
variable {X : Cx} {C : CallS} {pos : Pos} {a b c : Expr} {ea eb ec : E} {xs : List Expr} {es : Es}
theorem a_nil : PAv X C [] .nil := pa_nil.imp fun σ H Q ⟨ρ, fp, T, G, R, w⟩ => w [] H fp noA StepE.refl (by rw [cup_noA]; exact R) (.inl ⟨rfl, .nil⟩)
theorem a_cons (hC : MonoC C) (ha : PEv X C a ea) (hs : PAv X C xs es) (hst : starEach (a :: xs) X.env = (false, eval a X.env) :: starEach xs X.env) : PAv X C (a :: xs) (.cons ea es) := by
  refine (pa_cons ha hs hst).imp fun σ H Q ⟨ρ, fp, T, G, R, w⟩ => ?_
  refine tE_of hC R w fun o d ρ1 x H1 fp1 S1 ⟨k, e, p⟩ st R1 r1 => ?_
  refine ⟨ρ1, fp1, cup T S1, G, R1, wpEs_mono hC es _ _ _ (fun k2 ds ρ2 q vs H2 fp2 S2 st2 R2 l2 => ?_) p⟩
  rw [cup_assoc] at R2
  have st12 := st.trans st2 (fun a z => R.track (.inl (.inr z))) fun a z => R.disT a z
  have ap := apart st12 R2
  have kept : Kids X.K H2 k [x] [d] S1 (cup (cup (un fp2) T) G) := by
    have q1 : ∀ a, S1 a → ¬ cup (cup (un fp1) T) G a := apart st R1
    rcases kid_one r1 e q1 (lessG (K := X.K)) with ⟨ek, l⟩ | ⟨ek, l⟩
    · exact .inl ⟨ek, l.step st2.keep (fun a z => R1.wr a (.inl (.inl z))) fun a z f => R1.disT a f (.inr z)⟩
    · refine .inr ⟨ek, l.step st2.keep (fun a z => R1.wr a (.inl (.inl z))) (fun a z => .inl (.inl z)) fun a z => ?_⟩
      rcases z with (z | z) | z
      · exact (st2.new a (.inl z)).elim (fun q => .inl (.inl (.inl q))) .inr
      · exact .inl (.inl (.inr z))
      · exact .inl (.inr z)
  have l2' : Kids X.K H2 k2 vs ds S2 (cup (cup (un fp2) T) G) := l2.mono (fun _ z => z) fun a z => by
    rcases z with (z | z) | z
    · exact .inl (.inl z)
    · exact .inl (.inr (.inl z))
    · exact .inr z
  have all := kept.append l2' (A' := cup (cup (un fp2) T) G) (fun a z q => st2.disS a q (.inr z)) (fun a z => ap a (.inl z)) (fun a z => ap a (.inr z)) fun _ z => z
  exact q (x :: vs) H2 fp2 (cup S1 S2) st12 R2 all
theorem v_lst (hC : MonoC C) (hs : PAv X C xs es) : PEv X C (.List xs pos) (.lst es) := by
  refine (pe_lst hs).imp fun σ H Q ⟨ρ, fp, T, G, R, w⟩ => ?_
  refine ⟨ρ, fp, T, G, R, wpEs_mono hC es _ _ _ (fun k ds ρ' ⟨z, q⟩ vs H' fp' S st R' l => ?_) w⟩
  have n := (l.isL (A' := noA) (fun _ _ z => z) fun _ z => z.elim).length
  exact ⟨by rw [n]; exact z, fun p hp => PostE.newL q st R' l hp⟩
theorem v_tup (hC : MonoC C) {j} (hs : PAv X C xs es) : PEv X C (.Tuple xs j pos) (.tup es) := by
  refine (pe_tup hs).imp fun σ H Q ⟨ρ, fp, T, G, R, w⟩ => ?_
  refine ⟨ρ, fp, T, G, R, wpEs_mono hC es _ _ _ (fun k ds ρ' ⟨z, q⟩ vs H' fp' S st R' l => ?_) w⟩
  have n := (l.isL (A' := noA) (fun _ _ z => z) fun _ z => z.elim).length
  exact ⟨by rw [n]; exact z, fun p hp => PostE.newT q st R' l hp⟩
end
end VH
namespace VH
open PySem PySem.Spec PyProof.Rows L2

section
variable {K : PySem.W.Frag} {H : Hp} {o k : Ow} {v : V} {d : D} {vs : List V} {ds : List D} {S S' A A' B : Set'} {j : Nat}
theorem RepV.mono (r : RepV K H o v d S B A) (s : ∀ a, S a → S' a) : RepV K H o v d S' B A := by
  cases o with
  | one =>
    cases d <;> first
      | (obtain ⟨a, vs, e, z, h, l⟩ := r; exact ⟨a, vs, e, s _ z, h, l⟩)
      | exact r
  | all => exact Own.mono s r
  | _ => exact r
theorem OwnL.get : ∀ {vs : List V} {ds : List D} {S : Set'} {j : Nat} {d : D}, OwnL K H vs ds S → ds[j]? = some d → ∃ v, vs[j]? = some v ∧ Own K H v d S
  | _, _, _, _, _, .nil, e => by simp at e
  | _, _, _, 0, _, .cons h _ _ t _, e => by simp at e; subst e; exact ⟨_, rfl, h.mono t⟩
  | _, _, _, j + 1, d, .cons _ l _ _ u, e => by
    obtain ⟨v, e1, h1⟩ := OwnL.get (j := j) (d := d) l (by simpa using e)
    exact ⟨v, by simpa using e1, h1.mono u⟩
theorem OwnL.drop : ∀ {vs : List V} {ds : List D} {S : Set'} (n : Nat), OwnL K H vs ds S → OwnL K H (vs.drop n) (ds.drop n) S
  | _, _, _, 0, h => h
  | _, _, _, _ + 1, .nil => .nil
  | _, _, _, n + 1, .cons _ l _ _ u => (OwnL.drop n l).mono u
theorem OwnL.take : ∀ {vs : List V} {ds : List D} {S : Set'} (n : Nat), OwnL K H vs ds S → OwnL K H (vs.take n) (ds.take n) S
  | _, _, _, 0, h => .nil
  | _, _, _, _ + 1, .nil => .nil
  | _, _, _, n + 1, .cons x l d t u => .cons x (OwnL.take n l) d t u
theorem OwnL.eraseIdx : ∀ {vs : List V} {ds : List D} {S : Set'} (n : Nat), OwnL K H vs ds S → OwnL K H (vs.eraseIdx n) (ds.eraseIdx n) S
  | _, _, _, _, .nil => .nil
  | _, _, _, 0, .cons x l d t u => l.mono u
  | _, _, _, n + 1, .cons x l d t u => .cons x (OwnL.eraseIdx n l) d t u
theorem OwnL.reverse : ∀ {vs : List V} {ds : List D} {S : Set'}, OwnL K H vs ds S → OwnL K H vs.reverse ds.reverse S
  | _, _, _, .nil => .nil
  | _, _, _, .cons (T := T) (U := U) x l d t u => by
    rw [List.reverse_cons, List.reverse_cons]
    exact (OwnL.append (S1 := U) (S2 := T) (fun a z q => d a q z) (OwnL.reverse l) (fun _ z => z) (.cons x .nil (U := noA) (fun _ _ z => z) (fun _ z => z) fun _ z => z.elim)).mono fun a z => z.elim (u a) (t a)
/-- an item of what is held -/
theorem kid_lst (r : RepV K H o v (.lst ds) S B A) (e : ds[j]? = some d) : ∃ a vs v', v = .ref a ∧ H a = some (.lst vs) ∧ vs.length = ds.length ∧ vs[j]? = some v' ∧ RepV K H (kidO o d) v' d S B A := by
  have fin : ∀ {a : Addr} {vs : List V} {v' : V} {o' : Ow}, v = .ref a → H a = some (.lst vs) → vs.length = ds.length → vs[j]? = some v' → RepV K H o' v' d S B A → kidO o d = nrm o' d → ∃ a vs v', v = .ref a ∧ H a = some (.lst vs) ∧ vs.length = ds.length ∧ vs[j]? = some v' ∧ RepV K H (kidO o d) v' d S B A := fun {a vs v' o'} e1 h n e2 r' eo => by
    refine ⟨a, vs, v', e1, h, n, e2, ?_⟩
    rw [eo]
    by_cases hs : VH.solid d = true
    · rw [nrm_solid hs]; exact RepV.solid hs r'.now
    · rw [nrm_not hs]; exact r'
  cases o with
  | tra => obtain ⟨a, vs, e1, _, h, l⟩ := Is.inv_lst r; obtain ⟨v', e2, i⟩ := l.get e; exact fin (o' := .tra) e1 h l.length e2 i rfl
  | bor => obtain ⟨a, vs, e1, _, h, l⟩ := Is.inv_lst r; obtain ⟨v', e2, i⟩ := l.get e; exact fin (o' := .bor) e1 h l.length e2 i rfl
  | sh => obtain ⟨a, vs, e1, _, h, l⟩ := Is.inv_lst r; obtain ⟨v', e2, i⟩ := l.get e; exact fin (o' := .sh) e1 h l.length e2 i rfl
  | tra1 => obtain ⟨a, vs, e1, _, h, l⟩ := r; obtain ⟨v', e2, i⟩ := l.get e; exact fin (o' := .sh) e1 h l.length e2 i rfl
  | bor1 => obtain ⟨a, vs, e1, _, h, l⟩ := r; obtain ⟨v', e2, i⟩ := l.get e; exact fin (o' := .sh) e1 h l.length e2 i rfl
  | one => obtain ⟨a, vs, e1, _, h, l⟩ := r; obtain ⟨v', e2, i⟩ := l.get e; exact fin (o' := .sh) e1 h l.length e2 i rfl
  | all =>
    have r' : Own K H v (.lst ds) S := r
    cases r' with
    | lst h sa u nu l =>
      obtain ⟨v', e2, i⟩ := l.get e
      exact fin (o' := .all) rfl h (l.is (A := noA) fun _ _ z => z).length e2 (i.mono u) rfl
theorem kid_tup (r : RepV K H o v (.tup ds) S B A) (e : ds[j]? = some d) : ∃ a vs v', v = .ref a ∧ SqT K H a vs ∧ vs.length = ds.length ∧ vs[j]? = some v' ∧ RepV K H (kidO o d) v' d S B A := by
  have fin : ∀ {a : Addr} {vs : List V} {v' : V} {o' : Ow}, v = .ref a → SqT K H a vs → vs.length = ds.length → vs[j]? = some v' → RepV K H o' v' d S B A → kidO o d = nrm o' d → ∃ a vs v', v = .ref a ∧ SqT K H a vs ∧ vs.length = ds.length ∧ vs[j]? = some v' ∧ RepV K H (kidO o d) v' d S B A := fun {a vs v' o'} e1 h n e2 r' eo => by
    refine ⟨a, vs, v', e1, h, n, e2, ?_⟩
    rw [eo]
    by_cases hs : VH.solid d = true
    · rw [nrm_solid hs]; exact RepV.solid hs r'.now
    · rw [nrm_not hs]; exact r'
  cases o with
  | tra => obtain ⟨a, vs, e1, h, l⟩ := Is.inv_tup r; obtain ⟨v', e2, i⟩ := l.get e; exact fin (o' := .tra) e1 h l.length e2 i rfl
  | bor => obtain ⟨a, vs, e1, h, l⟩ := Is.inv_tup r; obtain ⟨v', e2, i⟩ := l.get e; exact fin (o' := .bor) e1 h l.length e2 i rfl
  | sh => obtain ⟨a, vs, e1, h, l⟩ := Is.inv_tup r; obtain ⟨v', e2, i⟩ := l.get e; exact fin (o' := .sh) e1 h l.length e2 i rfl
  | tra1 => obtain ⟨a, vs, e1, h, l⟩ := Is.inv_tup (show Is K A H v (.tup ds) from r); obtain ⟨v', e2, i⟩ := l.get e; exact fin (o' := .sh) e1 h l.length e2 i rfl
  | bor1 => obtain ⟨a, vs, e1, h, l⟩ := Is.inv_tup (show Is K A H v (.tup ds) from r); obtain ⟨v', e2, i⟩ := l.get e; exact fin (o' := .sh) e1 h l.length e2 i rfl
  | one => obtain ⟨a, vs, e1, h, l⟩ := Is.inv_tup (show Is K A H v (.tup ds) from r); obtain ⟨v', e2, i⟩ := l.get e; exact fin (o' := .sh) e1 h l.length e2 i rfl
  | all =>
    have r' : Own K H v (.tup ds) S := r
    cases r' with
    | tup h l =>
      obtain ⟨v', e2, i⟩ := l.get e
      exact fin (o' := .all) rfl h (l.is (A := noA) fun _ _ z => z).length e2 i rfl
theorem atI_split {α : Type} {xs : List α} {i : Int} {x : α} (h : atI xs i = some x) : ∃ j, ixN xs.length i = some j ∧ xs[j]? = some x := by
  unfold atI at h
  cases e : ixN xs.length i with
  | none => rw [e] at h; cases h
  | some j => rw [e] at h; exact ⟨j, rfl, h⟩
theorem atI_of {α : Type} {xs : List α} {i : Int} {x : α} {n j : Nat} (h : ixN n i = some j) (hn : xs.length = n) (e : xs[j]? = some x) : atI xs i = some x := by
  unfold atI
  rw [hn, h]
  exact e
theorem kid_dK {kvs : List (Key × D)} {key : Key} (r : RepV K H o v (.dK kvs) S B A) (e : getK kvs key = some d) : ∃ a vs v', v = .ref a ∧ Rd H a (.dK vs) ∧ valV vs key = some v' ∧ RepV K H (kidO o d) v' d S B A := by
  have fin : ∀ {a : Addr} {vs : List (Key × V)} {v' : V} {o' : Ow}, v = .ref a → Rd H a (.dK vs) → valV vs key = some v' → RepV K H o' v' d S B A → kidO o d = nrm o' d → ∃ a vs v', v = .ref a ∧ Rd H a (.dK vs) ∧ valV vs key = some v' ∧ RepV K H (kidO o d) v' d S B A := fun {a vs v' o'} e1 h e2 r' eo => by
    refine ⟨a, vs, v', e1, h, e2, ?_⟩
    rw [eo]
    by_cases hs : VH.solid d = true
    · rw [nrm_solid hs]; exact RepV.solid hs r'.now
    · rw [nrm_not hs]; exact r'
  cases o with
  | tra => obtain ⟨a, vs, e1, _, h, l⟩ := Is.inv_dK r; obtain ⟨v', e2, i⟩ := l.get e; exact fin (o' := .tra) e1 h e2 i rfl
  | bor => obtain ⟨a, vs, e1, _, h, l⟩ := Is.inv_dK r; obtain ⟨v', e2, i⟩ := l.get e; exact fin (o' := .bor) e1 h e2 i rfl
  | sh => obtain ⟨a, vs, e1, _, h, l⟩ := Is.inv_dK r; obtain ⟨v', e2, i⟩ := l.get e; exact fin (o' := .sh) e1 h e2 i rfl
  | tra1 => obtain ⟨a, vs, e1, _, h, l⟩ := r; obtain ⟨v', e2, i⟩ := l.get e; exact fin (o' := .sh) e1 h e2 i rfl
  | bor1 => obtain ⟨a, vs, e1, _, h, l⟩ := r; obtain ⟨v', e2, i⟩ := l.get e; exact fin (o' := .sh) e1 h e2 i rfl
  | one => obtain ⟨a, vs, e1, _, h, l⟩ := r; obtain ⟨v', e2, i⟩ := l.get e; exact fin (o' := .sh) e1 (.inl h) e2 i rfl
  | all =>
    have r' : Own K H v (.dK kvs) S := r
    cases r' with
    | dK h sa u nu l =>
      obtain ⟨v', e2, i⟩ := l.get e
      exact fin (o' := .all) rfl (.inl h) e2 (i.mono u) rfl
def rIxDk : R2 := fun x y H Q => ∃ a v, x = .ref a ∧ DGet H a y (some v) ∧ Q v H
theorem ix_dk {X : Cx} (hu : X.A.units + 65 < cLine) : IxR X rIxDk := by
  intro value slice pins s σ H x y v u Q I rx ry h hs
  obtain ⟨a, z, rfl, g, q⟩ := h
  cases rx
  exact tail_any (dict_typeIs I g) PySem.F.slot_dict_getitem.lookup (d_getItem (by omega) I g ry fun w' s3 I3 rw' => ⟨z, H, I3, rw', q⟩) hs
/-- a subscript, by values -/
theorem get_rule {y : V} {d2 d' : D} {Q : VK} {S2 A2 B2 : Set'} {o2 : Ow} (r1 : RepV K H o v d S B A) (r2 : RepV K H o2 y d2 S2 B2 A2) (e : getI d d2 = some d') (q : ∀ v', RepV K H (kidO o d') v' d' S B A → Q v' H) : rIx K v y H Q ∨ rIxDk v y H Q := by
  cases d <;> cases d2 <;> simp only [getI] at e <;> try cases e
  · split at e
    · rename_i z
      rename_i x i
      cases e2 : atI x.cps.toList i with
      | none => rw [e2] at e; cases e
      | some c =>
        rw [e2] at e
        cases e
        exact .inl (.inr (.inr ⟨x, i, c, r1.now.inv_str, r2.now.inv_int, z, e2, q _ (RepV.solid (A' := noA) rfl .str)⟩))
    · cases e
  · obtain ⟨j, e1, e2⟩ := atI_split e
    obtain ⟨a, vs, v', rfl, h, n, e3, r'⟩ := kid_lst r1 e2
    exact .inl (.inl ⟨a, vs, _, v', rfl, r2.now.inv_int, SqL.of h, atI_of e1 n e3, q v' r'⟩)
  · obtain ⟨j, e1, e2⟩ := atI_split e
    obtain ⟨a, vs, v', rfl, h, n, e3, r'⟩ := kid_tup r1 e2
    exact .inl (.inr (.inl ⟨a, vs, _, v', rfl, r2.now.inv_int, h, atI_of e1 n e3, q v' r'⟩))
  · obtain ⟨a, vs, v', rfl, h, e3, r'⟩ := kid_dK r1 e
    exact .inr ⟨a, v', rfl, .inl ⟨vs, (.inl _ : Key), h, r2.now.inv_int, e3.symm⟩, q v' r'⟩
  · obtain ⟨a, vs, v', rfl, h, e3, r'⟩ := kid_dK r1 e
    exact .inr ⟨a, v', rfl, .inl ⟨vs, (.inr _ : Key), h, r2.now.inv_str, e3.symm⟩, q v' r'⟩
end

section
variable {X : Cx} {C : CallS} {pos : Pos} {a b c : Expr} {ea eb ec : E} {xs : List Expr} {es : Es}
theorem v_idx (hC : MonoC C) (hu : X.A.units + 65 < cLine) (ha : PEv X C a ea) (hb : PEv X C b eb) (hs : PlainIx b) : PEv X C (.Subscript a b pos) (.idx ea eb) := by
  refine (pe_ix (ix_seq.or (ix_dk hu)) ha hb hs).imp fun σ H Q ⟨ρ, fp, T, G, R, w⟩ => ?_
  refine tE_bin hC R w fun o1 d1 o2 d2 ρ2 x y H2 fp2 S1 S2 ⟨d, e, q⟩ st R2 r1 r2 dj => ?_
  exact get_rule r1 r2 e fun v' r' => q v' H2 fp2 (cup S1 S2) st R2 (r'.mono fun a z => .inl z)
theorem v_sidx (hC : MonoC C) (hu : X.A.units + 65 < cLine) {i : Nat} {x : Str} {pos' : Pos} (hN : X.N[i]? = some x) (hv : Vis X.env.scope x) (hd : (x == ("__debug__" : Str)) = false) (hcd : (x == ("__classdict__" : Str)) = false) (hb : PEv X C b eb) (hs : PlainIx b) :
    PEv X C (.Subscript (.Name x pos') b pos) (.sidx i eb) := by
  refine (pe_ix (ix_seq.or (ix_dk hu)) (pe_var hN hv hd hcd) hb hs).imp fun σ H Q ⟨ρ, fp, T, G, R, ⟨⟨o0, d0⟩, e0⟩, w⟩ => ?_
  obtain ⟨v, ev, _, _⟩ := R.slot i o0 d0 e0
  refine ⟨v, ev, tE_of hC R w fun _ d2 ρ1 y H1 fp1 S1 ⟨o, d1, e1, d, e, q⟩ st R1 r2 => ?_⟩
  obtain ⟨v', ev', nt, r1⟩ := R1.slot i o d1 e1
  rw [ev] at ev'; cases ev'
  have r1' : RepV X.K H1 (pkO o d1) v d1 S1 (cup (un fp1) (cup T S1)) (cup (cup (un fp1) (cup T S1)) G) := r1.pk
  exact get_rule r1' r2 e fun v' r' => q v' H1 fp1 S1 st R1 r'
/-- a part of a slice: nothing may change -/
theorem still_int (hC : MonoC C) {e : E} {K : PySem.W.Frag} {ρ1 : Env} {σ : L2.St} {H H1 : Hp} {fp fp1 : Fp} {T S1 G : Set'} {o1 : Ow} {v1 : V} {d1 : D} {P : Int → Prop} {Q : VK} (st : StepE H fp T H1 fp1 S1)
    (R1 : RepS K ρ1 σ H1 fp1 (cup T S1) G) (r1 : RepV K H1 o1 v1 d1 S1 (cup (un fp1) (cup T S1)) (cup (cup (un fp1) (cup T S1)) G))
    (w : wpE C e (lock ρ1) fun _ d _ => ∃ i, d = .int i ∧ P i)
    (h : ∀ i H2, P i → StepE H fp T H2 fp1 S1 → RepS K ρ1 σ H2 fp1 (cup T S1) G → RepV K H2 o1 v1 d1 S1 (cup (un fp1) (cup T S1)) (cup (cup (un fp1) (cup T S1)) G) → Q (.int i) H2) : tE K C e σ H1 Q := by
  refine ⟨lock ρ1, nofp, noA, _, R1.lock, wpE_mono hC e _ _ _ (fun o d ρ2 ⟨i, ed, p⟩ v H2 fp2 S2 st2 RL rv => ?_) w⟩
  subst ed
  rw [rv.now.inv_int]
  have k : Keep noA H1 H2 := fun a o h n => st2.keep a o h (by rw [un_nofp]; exact n)
  have R2 := R1.grow (S := noA) k (fun _ z => z.elim) fun _ z => z.elim
  have st' := st.grow (S2 := noA) R1 k fun _ z => z.elim
  rw [cup_noA] at R2 st'
  exact h i H2 p st' R2 (r1.still k Grow.refl Grow.refl)
abbrev oV (C : CallS) (X : Cx) : Option Expr → Eo → Prop
  | none, .nil => True
  | some x, .some e => PEv X C x e
  | _, _ => False
theorem v_slc (hC : MonoC C) {lo hi : Option Expr} {el eh : Eo} {p2 : Pos} (ha : PEv X C a ea) (hl : oV C X lo el) (hh : oV C X hi eh) : PEv X C (.Subscript a (.Slice lo hi none p2) pos) (.slc ea el eh) := by
  have fin : ∀ {σ : L2.St} {H : Hp} {Q : VK} {fp fp1 : Fp} {T G S1 : Set'} {ρ1 : Env} {o1 : Ow} {d1 : D} {v1 : V} {H3 : Hp} {l u : Option Int}, semSl o1 d1 l u (fun o d => PostE X.K σ H fp T G Q o d ρ1) →
      StepE H fp T H3 fp1 S1 → RepS X.K ρ1 σ H3 fp1 (cup T S1) G → RepV X.K H3 o1 v1 d1 S1 (cup (un fp1) (cup T S1)) (cup (cup (un fp1) (cup T S1)) G) → rSlL X.K v1 l u H3 Q := fun {σ H Q fp fp1 T G S1 ρ1 o1 d1 v1 H3 l u} w st R1 r1 => by
    cases d1 <;> try exact False.elim w
    obtain ⟨k, e, q⟩ := w
    obtain ⟨a, vs, rfl, h, kl⟩ := kids_lst r1 e
    have n : vs.length = _ := (kl.isL (A' := noA) (fun _ _ z => z) fun _ z => z.elim).length
    refine ⟨a, vs, rfl, SqL.of h, fun p hp => ?_⟩
    refine PostE.newL (vs := cutV vs l u) q st R1 ?_ hp
    unfold cutV
    rw [n]
    rcases kl with ⟨e, l'⟩ | ⟨e, l'⟩
    · exact .inl ⟨e, (l'.drop _).take _⟩
    · exact .inr ⟨e, ((l'.drop _).take _).less (lessG (K := X.K))⟩
  cases lo with
  | none =>
    cases el with
    | some _ => exact hl.elim
    | nil =>
      cases hi with
      | none =>
        cases eh with
        | some _ => exact hh.elim
        | nil =>
          refine (pe_slice sl_list ha po_none po_none).imp fun σ H Q ⟨ρ, fp, T, G, R, w⟩ => ?_
          exact tE_of hC R w fun o1 d1 ρ1 v1 H1 fp1 S1 p st R1 r1 => fin p st R1 r1
      | some y =>
        cases eh with
        | nil => exact hh.elim
        | some eh =>
          refine (pe_slice sl_list ha po_none (po_some hh)).imp fun σ H Q ⟨ρ, fp, T, G, R, w⟩ => ?_
          refine tE_of hC R w fun o1 d1 ρ1 v1 H1 fp1 S1 p st R1 r1 => ?_
          exact still_int hC st R1 r1 p fun i H2 p st2 R2 r2 => ⟨i, rfl, fin p st2 R2 r2⟩
  | some x =>
    cases el with
    | nil => exact hl.elim
    | some el =>
      cases hi with
      | none =>
        cases eh with
        | some _ => exact hh.elim
        | nil =>
          refine (pe_slice sl_list ha (po_some hl) po_none).imp fun σ H Q ⟨ρ, fp, T, G, R, w⟩ => ?_
          refine tE_of hC R w fun o1 d1 ρ1 v1 H1 fp1 S1 p st R1 r1 => ?_
          exact still_int hC st R1 r1 p fun i H2 p st2 R2 r2 => ⟨i, rfl, fin p st2 R2 r2⟩
      | some y =>
        cases eh with
        | nil => exact hh.elim
        | some eh =>
          refine (pe_slice sl_list ha (po_some hl) (po_some hh)).imp fun σ H Q ⟨ρ, fp, T, G, R, w⟩ => ?_
          refine tE_of hC R w fun o1 d1 ρ1 v1 H1 fp1 S1 p st R1 r1 => ?_
          exact still_int hC st R1 r1 p fun i H2 p st2 R2 r2 => ⟨i, rfl, still_int hC st2 R2 r2 p fun j H3 p st3 R3 r3 => ⟨j, rfl, fin p st3 R3 r3⟩⟩
theorem v_rev (hC : MonoC C) {k : Nat} {p1 p2 p3 : Pos} (ha : PEv X C a ea) : PEv X C (.Subscript a (.Slice none none (some (.UnaryOp .USub (.Constant (.int 1) k p1) p2)) p3) pos) (.rev ea) := by
  refine (pe_revL ha).imp fun σ H Q ⟨ρ, fp, T, G, R, w⟩ => ?_
  refine tE_of hC R w fun o1 d1 ρ1 v1 H1 fp1 S1 p st R1 r1 => ?_
  cases d1 <;> try exact False.elim p
  obtain ⟨k, e, q⟩ := p
  obtain ⟨a, vs, rfl, h, kl⟩ := kids_lst r1 e
  refine ⟨a, vs, rfl, SqL.of h, fun p hp => PostE.newL q st R1 ?_ hp⟩
  rcases kl with ⟨e, l'⟩ | ⟨e, l'⟩
  · exact .inl ⟨e, l'.reverse⟩
  · exact .inr ⟨e, l'.reverse.less (lessG (K := X.K))⟩
end
end VH
namespace VH
open PySem PySem.Spec PyProof.Rows L2

def noStar : Expr → Bool
  | .Starred _ _ => false
  | _ => true
theorem star_cons {a : Expr} {xs : List Expr} {env : PySem.Env} (h : noStar a = true) : starEach (a :: xs) env = (false, eval a env) :: starEach xs env := by
  cases a <;> first | rfl | cases h
theorem star_any {env : PySem.Env} {pos : Pos} : ∀ {xs : List Expr}, xs.all noStar = true → (backTo pos (starEach xs env)).any (·.1) = false
  | [], _ => rfl
  | a :: xs, h => by
    simp only [List.all_cons, Bool.and_eq_true] at h
    rw [star_cons h.1]
    show (false || (backTo pos (starEach xs env)).any (·.1)) = false
    rw [star_any h.2]; rfl
theorem few_one {a : Expr} {env : PySem.Env} {pos : Pos} (h : noStar a = true) : ((backTo pos (starEach [a] env)).all (fun x => !x.1) && (backToKw pos (keywordEach [] env)).all (fun x => x.1.isSome) && decide ([a].length + ([] : List Keyword).length + (if ([] : List Keyword).isEmpty then 0 else 1) < 30)) = true := by
  rw [star_cons h]; rfl
/-- a built-in of one argument, by values -/
def Snd1 (X : Cx) (b : B1) (r : List V → Hp → VK → Prop) : Prop := ∀ {ρ1 : Env} {σ : L2.St} {H H1 : Hp} {fp fp1 : Fp} {T G S1 : Set'} {o : Ow} {d : D} {v : V} {Q : VK},
  StepE H fp T H1 fp1 S1 → RepS X.K ρ1 σ H1 fp1 (cup T S1) G → RepV X.K H1 o v d S1 (cup (un fp1) (cup T S1)) (cup (cup (un fp1) (cup T S1)) G) →
  sem1 b o d (fun o' d' => PostE X.K σ H fp T G Q o' d' ρ1) → r [v] H1 Q
def b1Ty : B1 → Bool
  | .int_ | .list_ | .tuple_ => true
  | _ => false
def b1Name : B1 → String
  | .len => "len" | .abs => "abs" | .int_ => "int" | .sum => "sum" | .all_ => "all" | .any_ => "any" | .list_ => "list" | .tuple_ => "tuple" | .sorted_ => "sorted" | .max_ => "max" | .min_ => "min"
def b1Val (b : B1) : Value := if b1Ty b then .type (b1Name b) else .builtin (b1Name b)
section
variable {X : Cx}
theorem sn_len : Snd1 X .len (fun xs H Q => ∃ x n, xs = [x] ∧ LenV X.K x H n ∧ Q (.int n) H) := fun {ρ1 σ H H1 fp fp1 T G S1 o d v Q} st R1 r w => by
  cases d <;> try exact False.elim w
  · obtain ⟨z, q⟩ := w
    rw [r.now.inv_str]
    exact ⟨_, _, rfl, ⟨z, rfl⟩, PostE.solid (K := X.K) q rfl st R1 (A := noA) .int⟩
  · obtain ⟨a, vs, rfl, _, h, l⟩ := r.now.inv_lst
    refine ⟨_, _, rfl, .inl ⟨vs, SqL.of h, rfl⟩, ?_⟩
    rw [l.length]
    exact PostE.solid (K := X.K) w rfl st R1 (A := noA) .int
  · obtain ⟨a, vs, rfl, h, l⟩ := r.now.inv_tup
    refine ⟨_, _, rfl, .inr ⟨vs, h, rfl⟩, ?_⟩
    rw [l.length]
    exact PostE.solid (K := X.K) w rfl st R1 (A := noA) .int
theorem sn_abs : Snd1 X .abs (fun xs H Q => ∃ i, xs = [.int i] ∧ Q (.int (if i < 0 then -i else i)) H) := fun {ρ1 σ H H1 fp fp1 T G S1 o d v Q} st R1 r w => by
  cases d <;> try exact False.elim w
  exact ⟨_, by rw [r.now.inv_int], PostE.solid (K := X.K) w rfl st R1 (A := noA) .int⟩
theorem sn_int : Snd1 X .int_ (fun xs H Q => (∃ i, xs = [.int i] ∧ Q (.int i) H) ∨ ∃ k, xs = [.bl k] ∧ Q (.int (if k then 1 else 0)) H) := fun {ρ1 σ H H1 fp fp1 T G S1 o d v Q} st R1 r w => by
  cases d <;> try exact False.elim w
  · exact .inr ⟨_, by rw [r.now.inv_bl], PostE.solid (K := X.K) w rfl st R1 (A := noA) .int⟩
  · exact .inl ⟨_, by rw [r.now.inv_int], PostE.solid (K := X.K) w rfl st R1 (A := noA) .int⟩
theorem sn_sum : Snd1 X .sum (rSum X.K) := fun {ρ1 σ H H1 fp fp1 T G S1 o d v Q} st R1 r w => by
  cases d <;> try exact False.elim w
  obtain ⟨ns, e, q⟩ := w
  obtain ⟨a, vs, rfl, _, h, l⟩ := r.now.inv_lst
  exact ⟨a, ns, rfl, by rw [← l.ints e]; exact SqL.of h, PostE.solid (K := X.K) q rfl st R1 (A := noA) .int⟩
theorem sn_max : Snd1 X .max_ (rMax X.K) := fun {ρ1 σ H H1 fp fp1 T G S1 o d v Q} st R1 r w => by
  cases d <;> try exact False.elim w
  obtain ⟨ns, e, z, q⟩ := w
  obtain ⟨a, vs, rfl, _, h, l⟩ := r.now.inv_lst
  exact ⟨a, ns, rfl, by rw [← l.ints e]; exact SqL.of h, z, fun m h1 h2 => PostE.solid (K := X.K) (q m h1 h2) rfl st R1 (A := noA) .int⟩
theorem sn_min : Snd1 X .min_ (rMin X.K) := fun {ρ1 σ H H1 fp fp1 T G S1 o d v Q} st R1 r w => by
  cases d <;> try exact False.elim w
  obtain ⟨ns, e, z, q⟩ := w
  obtain ⟨a, vs, rfl, _, h, l⟩ := r.now.inv_lst
  exact ⟨a, ns, rfl, by rw [← l.ints e]; exact SqL.of h, z, fun m h1 h2 => PostE.solid (K := X.K) (q m h1 h2) rfl st R1 (A := noA) .int⟩
theorem sn_all : Snd1 X .all_ (rAll X.K) := fun {ρ1 σ H H1 fp fp1 T G S1 o d v Q} st R1 r w => by
  cases d <;> try exact False.elim w
  obtain ⟨ns, e, q⟩ := w
  obtain ⟨a, vs, rfl, _, h, l⟩ := r.now.inv_lst
  exact ⟨a, ns, rfl, by rw [← l.bls e]; exact SqL.of h, PostE.solid (K := X.K) q rfl st R1 (A := noA) .bl⟩
theorem sn_any : Snd1 X .any_ (rAny X.K) := fun {ρ1 σ H H1 fp fp1 T G S1 o d v Q} st R1 r w => by
  cases d <;> try exact False.elim w
  obtain ⟨ns, e, q⟩ := w
  obtain ⟨a, vs, rfl, _, h, l⟩ := r.now.inv_lst
  exact ⟨a, ns, rfl, by rw [← l.bls e]; exact SqL.of h, PostE.solid (K := X.K) q rfl st R1 (A := noA) .bl⟩
theorem pairs_of : ∀ {vs : List V} {ds : List D} {ps : List (Int × Int)} {K : PySem.W.Frag} {A : Set'} {H : Hp}, IsL K A H vs ds → toPairs ds = some ps → vs.length = ps.length ∧ ∀ (i : Nat) v p, vs[i]? = some v → ps[i]? = some p → ∃ t, v = .ref t ∧ SqT K H t [.int p.1, .int p.2]
  | _, _, _, _, _, _, .nil, e => by simp [toPairs] at e; subst e; exact ⟨rfl, fun i v p h => by simp at h⟩
  | _, _, ps, K, A, H, .cons (d := d) h l, e => by
    rename_i v vs ds
    have key : ∃ i j qs, d = .tup [.int i, .int j] ∧ toPairs ds = some qs ∧ ps = (i, j) :: qs := by
      unfold toPairs at e
      split at e
      · rename_i he; cases he
      · rename_i i j r he
        cases he
        cases q : toPairs ds with
        | none => rw [q] at e; cases e
        | some qs => rw [q] at e; exact ⟨i, j, qs, rfl, rfl, (Option.some.inj e).symm⟩
      · cases e
    obtain ⟨i, j, qs, rfl, eq, rfl⟩ := key
    obtain ⟨h1, h2⟩ := pairs_of l eq
    refine ⟨by simp [h1], fun k v' p hv hp => ?_⟩
    cases k with
    | zero =>
      simp at hv hp
      subst hv; subst hp
      obtain ⟨a, us, rfl, hs, il⟩ := h.inv_tup
      cases il with
      | cons x il =>
        cases il with
        | cons y il =>
          cases il
          rw [x.inv_int, y.inv_int] at hs
          exact ⟨a, rfl, hs⟩
    | succ k => exact h2 k v' p (by simpa using hv) (by simpa using hp)
open Classical in
noncomputable def pairK (K : PySem.W.Frag) (H : Hp) (v : V) : Int × Int := if h : ∃ p : Int × Int, ∃ t, v = .ref t ∧ SqT K H t [.int p.1, .int p.2] then h.choose else (0, 0)
def rSortedQ (K : PySem.W.Frag) : List V → Hp → VK → Prop := fun vs H Q => ∃ (a : Addr) (xs : List V) (ps : List (Int × Int)), vs = [V.ref a] ∧ SqL K H a xs ∧ xs.length = ps.length ∧ (∀ (i : Nat) v p, xs[i]? = some v → ps[i]? = some p → ∃ t, v = .ref t ∧ SqT K H t [.int p.1, .int p.2]) ∧
  ∀ (ys : List V) (qs : List (Int × Int)) p, qs.Perm ps → qs.Pairwise lexLe → ys.length = qs.length → (∀ (i : Nat) v p, ys[i]? = some v → qs[i]? = some p → ∃ t, v = .ref t ∧ SqT K H t [.int p.1, .int p.2]) → H p = none → Q (.ref p) (upd H p (.lst ys))
theorem srtd_pw {k : V → Int × Int} : ∀ {ys : List V}, SrtO.Srtd (ltP k) ys → (ys.map k).Pairwise lexLe := by
  intro ys h
  rw [List.pairwise_map]
  refine List.Pairwise.imp (fun {x y} h => ?_) h
  have := SrtO.lexB_no.mp h
  unfold lexLe
  omega
theorem cr_sortedQ : CallR X (.builtin "sorted") (rSortedQ X.K) := by
  intro pins s σ H vs us Q I r h
  obtain ⟨a, xs, ps, rfl, hs, hl0, hx, q⟩ := h
  obtain ⟨its, rv, hl, hz⟩ := I.list hs
  obtain ⟨u, rfl, ru⟩ := vals1 r
  obtain rfl : u = Value.ref a := ru
  have hk : ∀ {t : Addr} {p : Int × Int}, SqT X.K H t [.int p.1, .int p.2] → pairK X.K H (.ref t) = p := fun {t p} h => by
    have ex : ∃ p : Int × Int, ∃ t', V.ref t = .ref t' ∧ SqT X.K H t' [.int p.1, .int p.2] := ⟨p, t, rfl, h⟩
    unfold pairK
    rw [dif_pos ex]
    have hc := ex.choose_spec
    generalize ex.choose = q at hc
    obtain ⟨t', e, h'⟩ := hc
    cases e
    have := I.tuple_inj h h'
    simp at this
    exact Prod.ext this.1.symm this.2.symm
  have hall : ∀ x ∈ xs, ∃ t, x = V.ref t ∧ SqT X.K H t [.int (pairK X.K H x).1, .int (pairK X.K H x).2] := fun x hm => by
    obtain ⟨i, hi, e⟩ := List.mem_iff_getElem.mp hm
    obtain ⟨t, rfl, h⟩ := hx i x ps[i] (by rw [List.getElem?_eq_getElem hi, e]) (List.getElem?_eq_getElem (by omega))
    exact ⟨t, rfl, by rw [hk h]; exact h⟩
  have hmap : xs.map (pairK X.K H) = ps := by
    apply List.ext_getElem?
    intro i
    rw [List.getElem?_map]
    cases e : xs[i]? with
    | none =>
      have : xs.length ≤ i := List.getElem?_eq_none_iff.mp e
      rw [List.getElem?_eq_none (by omega)]; rfl
    | some x =>
      have hi : i < xs.length := (List.getElem?_eq_some_iff.mp e).1
      have e2 : ps[i]? = some ps[i] := List.getElem?_eq_getElem (by omega)
      obtain ⟨t, rfl, h⟩ := hx i x _ e e2
      rw [e2]
      show some _ = _
      rw [hk h]
  obtain ⟨e1, e2⟩ := refs_back rv fun x m => by
    obtain ⟨t, e, _⟩ := hall x m
    exact ⟨t, e⟩
  refine SrtO.sorted_pairsO (k := fun u => pairK X.K H (backV u)) hl.isList (by rw [← rv.length]; exact hz) (fun v hv => ?_) fun h' d out h1 h2 kp hd hn => ?_
  · obtain ⟨t, rfl⟩ := e2 v hv
    have hm : V.ref t ∈ xs := by rw [e1]; exact List.mem_map.mpr ⟨_, hv, rfl⟩
    obtain ⟨t', e, ht⟩ := hall _ hm
    cases e
    obtain ⟨its2, r2, ⟨o, ho, hc, n, hd⟩, _⟩ := I.tuple ht
    obtain ⟨u1, u2, rfl, ri, rj⟩ := vals2 r2
    obtain ⟨t1, rfl⟩ := ri
    obtain ⟨t2, rfl⟩ := rj
    exact ⟨t, o, t1, t2, n, rfl, ho, hc, hd⟩
  · have h3 : ∀ u ∈ out, ∃ a, u = Value.ref a := fun u hu => e2 u (h2.perm.mem_iff.mp hu)
    obtain ⟨n, hn⟩ := hn
    have hb : SrtO.Stb (ltP (pairK X.K H)) (out.map backV) xs := by
      rw [e1]
      exact SrtO.Stb.map (ltP_swo (pairK X.K H)) backV h2
    refine ⟨.ref d, upd H d (.lst (out.map backV)), I.laid (t' := s.toks) kp hd ⟨?_, out, n, vals_back h3, hn⟩, rfl, q _ ((out.map backV).map (pairK X.K H)) d (by rw [← hmap]; exact hb.perm.map _) (srtd_pw (SrtO.srtd_map h1)) (by simp) (fun i v p hv hp => ?_) (I.hok.fresh hd)⟩
    · rw [hb.len]
      exact hz
    · have hm : v ∈ xs := hb.perm.mem_iff.mp (List.mem_of_getElem? hv)
      obtain ⟨t, e, h⟩ := hall v hm
      rw [List.getElem?_map, hv] at hp
      have hp := Option.some.inj hp
      rw [← hp]
      exact ⟨t, e, h⟩
theorem own_pairs {K : PySem.W.Frag} {H : Hp} : ∀ {ys : List V} {qs : List (Int × Int)}, ys.length = qs.length → (∀ (i : Nat) v p, ys[i]? = some v → qs[i]? = some p → ∃ t, v = .ref t ∧ SqT K H t [.int p.1, .int p.2]) → OwnL K H ys (qs.map encP) noA
  | [], [], _, _ => .nil
  | y :: ys, q :: qs, hl, h => by
    obtain ⟨t, rfl, hs⟩ := h 0 y q rfl rfl
    exact .cons (T := noA) (U := noA) (.tup hs (.cons (T := noA) (U := noA) .int (.cons (T := noA) (U := noA) .int .nil (fun _ z => z.elim) (fun _ z => z) fun _ z => z) (fun _ z => z.elim) (fun _ z => z) fun _ z => z))
      (own_pairs (by simpa using hl) fun i v p hv hp => h (i + 1) v p (by simpa using hv) (by simpa using hp)) (fun _ z => z.elim) (fun _ z => z) fun _ z => z
theorem sn_sorted : Snd1 X .sorted_ (fun xs H Q => rSortedI X.K xs H Q ∨ rSortedQ X.K xs H Q) := fun {ρ1 σ H H1 fp fp1 T G S1 o d v Q} st R1 r w => by
  cases d <;> try exact False.elim w
  rcases w with ⟨ns, e, q⟩ | ⟨ps, e, q⟩
  · obtain ⟨a, vs, rfl, _, h, l⟩ := r.now.inv_lst
    refine .inl ⟨a, ns, rfl, by rw [← l.ints e]; exact SqL.of h, fun ns' p h1 h2 hp => ?_⟩
    exact PostE.newL (k := .all) (q ns' h1 h2) st R1 (.inl ⟨rfl, ((IsL.of_ints (K := X.K) (A := noA) (H := H1) ns').own (solid_ints ns')).mono fun _ z => z.elim⟩) hp
  · obtain ⟨a, vs, rfl, _, h, l⟩ := r.now.inv_lst
    obtain ⟨h1, h2⟩ := pairs_of l e
    refine .inr ⟨a, vs, ps, rfl, SqL.of h, h1, h2, fun ys qs p g1 g2 g3 g4 hp => ?_⟩
    exact PostE.newL (k := .all) (q qs g1 g2) st R1 (.inl ⟨rfl, (own_pairs g3 g4).mono fun _ z => z.elim⟩) hp
theorem Kids.lower {K : PySem.W.Frag} {H : Hp} {k : Ow} {vs : List V} {ds : List D} {S : Set'} {fp1 : Fp} {T S1 G : Set'} (h : Kids K H k vs ds S (cup (cup (un fp1) (cup T S1)) G)) : Kids K H k vs ds S (cup (cup (un fp1) T) G) :=
  h.mono (fun _ z => z) (lessG (K := K))
theorem sn_list : Snd1 X .list_ (fun xs H Q => ∃ p ys, xs = [.ref p] ∧ (SqL X.K H p ys ∨ SqT X.K H p ys) ∧ ∀ l, H l = none → Q (.ref l) (upd H l (.lst ys))) := fun {ρ1 σ H H1 fp fp1 T G S1 o d v Q} st R1 r w => by
  cases d <;> try exact False.elim w
  · obtain ⟨k, e, q⟩ := w
    obtain ⟨a, vs, rfl, h, kl⟩ := kids_lst r e
    exact ⟨a, vs, rfl, .inl (SqL.of h), fun p hp => PostE.newL q st R1 kl.lower hp⟩
  · obtain ⟨k, e, q⟩ := w
    obtain ⟨a, vs, rfl, h, kl⟩ := kids_tup r e
    exact ⟨a, vs, rfl, .inr h, fun p hp => PostE.newL q st R1 kl.lower hp⟩
  · rename_i ns
    obtain ⟨a, rfl, h⟩ := r.now.inv_scr
    exact ⟨a, _, rfl, .inl h.sqL, fun p hp => PostE.newL (k := .all) w st R1 (.inl ⟨rfl, ((IsL.of_ints (K := X.K) (A := noA) (H := H1) ns).own (solid_ints ns)).mono fun _ z => z.elim⟩) hp⟩
theorem RepV.nrm {K : PySem.W.Frag} {H : Hp} {o : Ow} {v : V} {d : D} {S A B : Set'} (r : RepV K H o v d S B A) : RepV K H (nrm o d) v d S B A := by
  by_cases hs : VH.solid d = true
  · rw [nrm_solid hs]; exact RepV.solid hs r.now
  · rw [nrm_not hs]; exact r
theorem sn_tuple : Snd1 X .tuple_ (fun xs H Q => ∃ p ys, xs = [.ref p] ∧ ((SqL X.K H p ys ∧ ∀ l, H l = none → Q (.ref l) (upd H l (.tup ys))) ∨ (SqT X.K H p ys ∧ Q (.ref p) H))) := fun {ρ1 σ H H1 fp fp1 T G S1 o d v Q} st R1 r w => by
  cases d <;> try exact False.elim w
  · obtain ⟨k, e, q⟩ := w
    obtain ⟨a, vs, rfl, h, kl⟩ := kids_lst r e
    exact ⟨a, vs, rfl, .inl ⟨SqL.of h, fun p hp => PostE.newT q st R1 kl.lower hp⟩⟩
  · obtain ⟨a, vs, e, h, l⟩ := r.now.inv_tup
    subst e
    exact ⟨a, vs, rfl, .inr ⟨h, w _ H1 fp1 S1 st R1 r.nrm⟩⟩
theorem b1_rule (hc : X.calm = true) (b : B1) : ∃ r, CallR X (b1Val b) r ∧ Snd1 X b r := by
  cases b with
  | len => exact ⟨_, call_len, sn_len⟩
  | abs => exact ⟨_, call_abs, sn_abs⟩
  | int_ => exact ⟨_, call_int1, sn_int⟩
  | sum => exact ⟨_, cr_sum hc, sn_sum⟩
  | all_ => exact ⟨_, cr_all hc, sn_all⟩
  | any_ => exact ⟨_, cr_any hc, sn_any⟩
  | list_ => exact ⟨_, call_list_of, sn_list⟩
  | tuple_ => exact ⟨_, call_tuple_of, sn_tuple⟩
  | sorted_ => exact ⟨_, cr_sortedI.or cr_sortedQ, sn_sorted⟩
  | max_ => exact ⟨_, cr_max hc, sn_max⟩
  | min_ => exact ⟨_, cr_min hc, sn_min⟩
end
section
variable {X : Cx} {C : CallS} {pos p : Pos} {a b c : Expr} {ea eb ec : E} {xs : List Expr} {es : Es}
theorem tE_call1 (hC : MonoC C) {P : KE} {r : List V → Hp → VK → Prop} {σ : L2.St} {H : Hp} {Q : VK} {ρ : Env} {fp : Fp} {T G : Set'} (R : RepS X.K ρ σ H fp T G) (w : wpE C ea ρ P)
    (h : ∀ o d ρ1 v H1 fp1 S1, P o d ρ1 → StepE H fp T H1 fp1 S1 → RepS X.K ρ1 σ H1 fp1 (cup T S1) G → RepV X.K H1 o v d S1 (cup (un fp1) (cup T S1)) (cup (cup (un fp1) (cup T S1)) G) → r [v] H1 Q) :
    tCB r (tCons (tE X.K C ea) tNil) σ H Q := tE_of hC R w fun o d ρ1 v H1 fp1 S1 p st R1 rv => h o d ρ1 v H1 fp1 S1 p st R1 rv
theorem v_b1 (hC : MonoC C) (hcalm : X.calm = true) {b : B1} (hg : Gl X (b1Name b)) (hm : X.mg (b1Name b) = none) (ha : PEv X C a ea) (hst : noStar a = true) :
    PEv X C (.Call (.Name (b1Name b) p) [a] [] pos) (.b1 b ea) := by
  obtain ⟨r, hr, sn⟩ := b1_rule hcalm b
  have pa : PA X [a] (tCons (tE X.K C ea) tNil) := pa_cons ha pa_nil (star_cons hst)
  have fin : ∀ σ H Q, tE X.K C (.b1 b ea) σ H Q → tCB r (tCons (tE X.K C ea) tNil) σ H Q := fun σ H Q ⟨ρ, fp, T, G, R, w⟩ => tE_call1 hC R w fun o d ρ1 v H1 fp1 S1 p st R1 rv => sn st R1 rv p
  have ta : ([] : List Expr).all noStar = true := rfl
  cases b with
  | len => exact (pe_callB (id := "len") hr hg hm (by decide +kernel) pa (by decide +kernel) (by decide +kernel) (star_cons hst) (star_any ta)).imp fin
  | abs => exact (pe_callB (id := "abs") hr hg hm (by decide +kernel) pa (by decide +kernel) (by decide +kernel) (star_cons hst) (star_any ta)).imp fin
  | sum => exact (pe_callB (id := "sum") hr hg hm (by decide +kernel) pa (by decide +kernel) (by decide +kernel) (star_cons hst) (star_any ta)).imp fin
  | all_ => exact (pe_callB (id := "all") hr hg hm (by decide +kernel) pa (by decide +kernel) (by decide +kernel) (star_cons hst) (star_any ta)).imp fin
  | any_ => exact (pe_callB (id := "any") hr hg hm (by decide +kernel) pa (by decide +kernel) (by decide +kernel) (star_cons hst) (star_any ta)).imp fin
  | sorted_ => exact (pe_callB (id := "sorted") hr hg hm (by decide +kernel) pa (by decide +kernel) (by decide +kernel) (star_cons hst) (star_any ta)).imp fin
  | max_ => exact (pe_callB (id := "max") hr hg hm (by decide +kernel) pa (by decide +kernel) (by decide +kernel) (star_cons hst) (star_any ta)).imp fin
  | min_ => exact (pe_callB (id := "min") hr hg hm (by decide +kernel) pa (by decide +kernel) (by decide +kernel) (star_cons hst) (star_any ta)).imp fin
  | int_ => exact (pe_callTy (T := "int") hr hg hm (by decide +kernel) pa (by decide +kernel) (by decide +kernel) (star_cons hst) (star_any ta)).imp fin
  | list_ => exact (pe_callTy (T := "list") hr hg hm (by decide +kernel) pa (by decide +kernel) (by decide +kernel) (star_cons hst) (star_any ta)).imp fin
  | tuple_ => exact (pe_callTy (T := "tuple") hr hg hm (by decide +kernel) pa (by decide +kernel) (by decide +kernel) (star_cons hst) (star_any ta)).imp fin
def b2Name : B2 → String
  | .max_ => "max" | .min_ => "min"
theorem v_b2 (hC : MonoC C) (hcalm : X.calm = true) {k : B2} (hg : Gl X (b2Name k)) (hm : X.mg (b2Name k) = none) (ha : PEv X C a ea) (hb : PEv X C b eb) (hst : noStar a = true)
    (hst2 : noStar b = true) : PEv X C (.Call (.Name (b2Name k) p) [a, b] [] pos) (.b2 k ea eb) := by
  have pa : PA X [a, b] (tCons (tE X.K C ea) (tCons (tE X.K C eb) tNil)) := pa_cons ha (pa_cons hb pa_nil (star_cons hst2)) (star_cons hst)
  have ta : [b].all noStar = true := by simp [hst2]
  have core : ∀ (r : List V → Hp → VK → Prop), (∀ {d1 d2 x y Q H}, Is X.K noA H x d1 → Is X.K noA H y d2 → semB2 k d1 d2 (fun d => ∀ v, Is X.K noA H v d → solid d = true → Q v H) → r [x, y] H Q) →
      (∀ d1 d2 Q, semB2 k d1 d2 Q → semB2 k d1 d2 fun d => solid d = true ∧ Q d) →
      ∀ σ H Q, tE X.K C (.b2 k ea eb) σ H Q → tCB r (tCons (tE X.K C ea) (tCons (tE X.K C eb) tNil)) σ H Q := fun r hr hs σ H Q ⟨ρ, fp, T, G, R, w⟩ => by
    refine tE_of hC R w fun o1 d1 ρ1 x H1 fp1 S1 ⟨sd, p⟩ st R1 r1 => ?_
    refine tE_of hC (R1.lessT (T' := T) fun a z => .inl z) p fun o2 d2 ρ2 y H2 fp2 S2 p2 st2 R2 r2 => ?_
    have h1 : Is X.K noA H2 x d1 := (Own.step st2.keep (fun a z => R1.wr a (.inl (.inl z))) (Is.own sd r1.now) fun a z => z.elim).is fun a z => z.elim
    exact hr h1 r2.now (semB2_mono (fun d ⟨hsd, q⟩ v hv _ => PostE.solid q hsd (StepE.behind R st st2) R2 hv) (hs _ _ _ p2))
  cases k with
  | max_ =>
    refine (pe_callB (call_max2 hcalm) hg hm (by decide +kernel) pa (by decide +kernel) (by decide +kernel) (star_cons hst) (star_any ta)).imp (core _ ?_ ?_)
    · intro d1 d2 x y Q H h1 h2 w
      cases d1 <;> cases d2 <;> try exact False.elim w
      exact ⟨_, _, by rw [h1.inv_int, h2.inv_int], w _ .int rfl⟩
    · intro d1 d2 Q w
      cases d1 <;> cases d2 <;> try exact False.elim w
      exact ⟨rfl, w⟩
  | min_ =>
    refine (pe_callB (call_min2 hcalm) hg hm (by decide +kernel) pa (by decide +kernel) (by decide +kernel) (star_cons hst) (star_any ta)).imp (core _ ?_ ?_)
    · intro d1 d2 x y Q H h1 h2 w
      cases d1 <;> cases d2 <;> try exact False.elim w
      exact ⟨_, _, by rw [h1.inv_int, h2.inv_int], w _ .int rfl⟩
    · intro d1 d2 Q w
      cases d1 <;> cases d2 <;> try exact False.elim w
      exact ⟨rfl, w⟩
end

section
variable {K : PySem.W.Frag} {ρ ρ1 : Env} {σ : L2.St} {H H1 H2 : Hp} {fp fp1 : Fp} {T G S1 S' T1 : Set'} {i : Nat} {l : Addr} {ho : HO} {x : Ow × D} {v : V}
theorem slot_write (R : RepS K ρ σ H fp T G) (st : StepE H fp T H1 fp1 S1) (R1 : RepS K ρ1 σ H1 fp1 (cup T S1) G) (hv : σ[i]? = some (some v)) (hl : fp1 i l) (hm : isMut ho = true)
    (hS : ∀ a, S' a → fp1 i a ∨ S1 a) (hT : ∀ a, T1 a → fp1 i a ∨ S1 a) (dj : ∀ a, S' a → ¬ T1 a) (nt : x.1 ≠ .tra ∧ x.1 ≠ .tra1)
    (hx : (∀ a, S' a → ¬ cup (cup (un (fun j => if j = i then noA else fp1 j)) (cup T T1)) G a) → RepV K (upd H1 l ho) x.1 v x.2 S' (cup (un (setFp fp1 i S')) (cup T T1)) (cup (cup (un (setFp fp1 i S')) (cup T T1)) G)) :
    StepE H fp T (upd H1 l ho) (setFp fp1 i S') T1 ∧ RepS K (ρ1.set i (some x)) σ (upd H1 l ho) (setFp fp1 i S') (cup T T1) G := by
  have kp : Keep (fp1 i) H1 (upd H1 l ho) := fun a o h n => by
    exact (upd_ne fun e => n (by rw [e]; exact hl)).trans h
  have tl : un fp1 l := ⟨i, hl⟩
  have d1 : ∀ a, fp1 i a ∨ S1 a → ¬ T a := fun a z t => z.elim (fun z => R1.disT a ⟨i, z⟩ (.inl t)) fun z => st.disS a z t
  have d2 : ∀ a, fp1 i a ∨ S1 a → ∀ j, j ≠ i → ¬ fp1 j a := fun a z j hj f => z.elim (fun z => hj (R1.dis _ _ _ f z)) fun z => R1.disT a ⟨j, f⟩ (.inr z)
  have d3 : ∀ a, fp1 i a ∨ S1 a → ¬ G a := fun a z g => z.elim (fun z => R1.disG a (.inl ⟨i, z⟩) g) fun z => R1.disG a (.inr (.inr z)) g
  have ap : ∀ a, S' a → ¬ cup (cup (un (fun j => if j = i then noA else fp1 j)) (cup T T1)) G a := fun a s z => by
    rcases z with (⟨j, z⟩ | z | z) | z
    · by_cases hj : j = i
      · rw [if_pos hj] at z; exact z
      · rw [if_neg hj] at z; exact d2 a (hS a s) j hj z
    · exact d1 a (hS a s) z
    · exact dj a s z
    · exact d3 a (hS a s) z
  refine ⟨⟨fun a o h n => ?_, fun a z => ?_, fun a z t => d1 a (hT a z) t⟩, ?_⟩
  · have h1 := st.keep a o h n
    refine (upd_ne fun e => ?_).trans h1
    subst e
    rcases st.new a (.inl tl) with q | q
    · exact n q
    · rw [h] at q; cases q
  · have back : fp1 i a ∨ S1 a → un fp a ∨ H a = none := fun z => z.elim (fun z => st.new a (.inl ⟨i, z⟩)) fun z => st.new a (.inr z)
    rcases z with z | z
    · rcases un_setFp z with z | ⟨j, _, z⟩
      · exact back (hS a z)
      · exact st.new a (.inl ⟨j, z⟩)
    · exact back (hT a z)
  · refine R1.put kp rfl (fun _ _ => rfl) (fun o d e _ => ?_) (fun a z => (hS a z).elim .inl fun z => .inr (.inl (.inr z))) (fun a z => ?_) (fun a s z => ?_) fun a z => ?_
    · cases e
      exact ⟨v, hv, nt, hx ap⟩
    · rcases z with z | z
      · exact .inr (.inl (.inl z))
      · exact (hT a z).elim .inl fun z => .inr (.inl (.inr z))
    · rcases z with z | z
      · exact d1 a (hS a s) z
      · exact dj a s z
    · have old : cup (cup (un fp1) (cup T S1)) G a → ∃ o, (upd H1 l ho) a = some o ∧ isMut o = true := fun z => by
        by_cases e : a = l
        · subst e; exact ⟨ho, upd_same, hm⟩
        · obtain ⟨o, h, m⟩ := R1.wr a z
          exact ⟨o, by rw [upd_ne e]; exact h, m⟩
      rcases z with z | z | z
      · exact old ((hS a z).elim (fun z => .inl (.inl ⟨i, z⟩)) fun z => .inl (.inr (.inr z)))
      · exact old (.inl (.inr (.inl z)))
      · exact old ((hT a z).elim (fun z => .inl (.inl ⟨i, z⟩)) fun z => .inl (.inr (.inr z)))
/-- a list of ours, opened -/
theorem own_lst {o : Ow} {ds : List D} {S A B : Set'} {H : Hp} (r : RepV K H o v (.lst ds) S B A) (ho : o = .one ∨ o = .all) :
    ∃ a vs, v = .ref a ∧ H a = some (.lst vs) ∧ S a ∧ vs.length = ds.length ∧ ((o = .one ∧ IsL K A H vs ds) ∨ (o = .all ∧ ∃ U : Set', (∀ b, U b → S b) ∧ ¬ U a ∧ OwnL K H vs ds U)) := by
  rcases ho with rfl | rfl
  · obtain ⟨a, vs, e, s, h, l⟩ := r
    exact ⟨a, vs, e, h, s, l.length, .inl ⟨rfl, l⟩⟩
  · have r' : Own K H v (.lst ds) S := r
    cases r' with
    | lst h sa u nu l => exact ⟨_, _, rfl, h, sa, (l.is (A := noA) fun _ _ z => z).length, .inr ⟨rfl, _, u, nu, l⟩⟩
theorem cup_un_set {a : Addr} {S' X G : Set'} (z : cup (cup (un (setFp fp1 i S')) X) G a) : S' a ∨ cup (cup (un (fun j => if j = i then noA else fp1 j)) X) G a := by
  rcases z with (z | z) | z
  · rcases un_setFp z with z | ⟨j, hj, z⟩
    · exact .inl z
    · exact .inr (.inl (.inl ⟨j, by show (if j = i then noA else fp1 j) a; rw [if_neg hj]; exact z⟩))
  · exact .inr (.inl (.inr z))
  · exact .inr (.inr z)
theorem cup_un_sub {a : Addr} {X : Set'} (z : cup (cup (un (fun j => if j = i then noA else fp1 j)) (cup T X)) G a) (hX : ∀ a, X a → S1 a) : cup (cup (un fp1) (cup T S1)) G a := by
  rcases z with (⟨j, z⟩ | z | z) | z
  · by_cases hj : j = i
    · rw [if_pos hj] at z; exact z.elim
    · rw [if_neg hj] at z; exact .inl (.inl ⟨j, z⟩)
  · exact .inl (.inr (.inl z))
  · exact .inl (.inr (.inr (hX a z)))
  · exact .inr z
end
section
variable {X : Cx} {C : CallS} {pos apos p : Pos} {a b c : Expr} {ea eb ec : E} {xs : List Expr} {es : Es}
/-- items put behind those of a list in a slot -/
theorem push_core {K : PySem.W.Frag} {ρ ρ1 : Env} {σ : L2.St} {H H1 : Hp} {fp fp1 : Fp} {T G S1 : Set'} {i : Nat} {oi k : Ow} {ds es : List D} {ws : List V} {Q : VK} (R : RepS K ρ σ H fp T G) (st : StepE H fp T H1 fp1 S1) (R1 : RepS K ρ1 σ H1 fp1 (cup T S1) G)
    (kl : Kids K H1 k ws es S1 (cup (cup (un fp1) T) G)) (hi : ρ1[i]? = some (some (oi, .lst ds))) (ho : oi = .one ∨ oi = .all)
    (q : PostE K σ H fp T G Q .all .non (ρ1.set i (some (if oi = .all ∧ k = .all then .all else .one, .lst (ds ++ es))))) :
    ∃ l vs, σ[i]? = some (some (.ref l)) ∧ H1 l = some (.lst vs) ∧ vs.length = ds.length ∧ ws.length = es.length ∧ Q .non (upd H1 l (.lst (vs ++ ws))) := by
  obtain ⟨v, ev, nt, r⟩ := R1.slot i oi _ hi
  obtain ⟨l, vs, rfl, h, sl, n, cs⟩ := own_lst r ho
  have nw := (kl.isL (A' := noA) (fun _ _ z => z) fun _ z => z.elim).length
  refine ⟨l, vs, ev, h, n, nw, ?_⟩
  have kL : Keep (sgl l) H1 (upd H1 l (.lst (vs ++ ws))) := fun a o e ne => by rw [upd_ne ne]; exact e
  have mL : MutS (sgl l) H1 := fun a z => by rw [z]; exact ⟨_, h, rfl⟩
  have nS1 : ¬ S1 l := fun z => R1.disT l ⟨i, sl⟩ (.inr z)
  by_cases hk : oi = .all ∧ k = .all
  · rw [if_pos hk] at q
    obtain ⟨rfl, rfl⟩ := hk
    rcases cs with ⟨e, _⟩ | ⟨_, U, hU, nU, lU⟩
    · cases e
    rcases kl with ⟨_, lw⟩ | ⟨e, _⟩
    · have dUS : ∀ a, U a → ¬ S1 a := fun a u s => R1.disT a ⟨i, hU a u⟩ (.inr s)
      obtain ⟨s1, s2⟩ := slot_write (S' := cup (fp1 i) S1) (T1 := noA) (x := (.all, .lst (ds ++ es))) (ho := .lst (vs ++ ws)) R st R1 ev sl rfl (fun a z => z) (fun _ z => z.elim) (fun _ _ z => z) ⟨(by decide : Ow.all ≠ .tra), (by decide : Ow.all ≠ .tra1)⟩ fun _ =>
        .lst (U := cup U S1) upd_same (.inl sl) (fun a z => z.elim (fun z => .inl (hU a z)) .inr) (fun z => z.elim nU nS1)
          (OwnL.append (S1 := U) (fun a u s => dUS a u s) (lU.step kL mL fun a u z => nU (z ▸ u)) (fun _ z => z) (lw.step kL mL fun a s z => nS1 (z ▸ s)))
      exact PostE.solid (K := K) q rfl s1 s2 (A := noA) .non
    · cases e
  · rw [if_neg hk] at q
    have nl : ∀ {X : Set'}, (∀ a, X a → S1 a) → ¬ cup (cup (un (fun j => if j = i then noA else fp1 j)) (cup T X)) G l := fun {X} hX z => by
      rcases z with (⟨j, z⟩ | z | z) | z
      · by_cases hj : j = i
        · rw [if_pos hj] at z; exact z
        · rw [if_neg hj] at z; exact hj (R1.dis _ _ _ z sl)
      · exact R1.disT l ⟨i, sl⟩ (.inl z)
      · exact nS1 (hX _ z)
      · exact R1.disG l (.inl ⟨i, sl⟩) z
    obtain ⟨s1, s2⟩ := slot_write (S' := sgl l) (T1 := noA) (x := (.one, .lst (ds ++ es))) (ho := .lst (vs ++ ws)) R st R1 ev sl rfl (fun a z => by rw [z]; exact .inl sl) (fun _ z => z.elim) (fun _ _ z => z) ⟨(by decide : Ow.one ≠ .tra), (by decide : Ow.one ≠ .tra1)⟩ fun _ => by
      refine ⟨l, _, rfl, rfl, upd_same, IsL.append ?_ ?_⟩
      · rcases cs with ⟨_, lo⟩ | ⟨_, U, hU, nU, lU⟩
        · -- the root was ours
          refine IsL.step (F := sgl l) (A := cup (cup (un fp1) (cup T S1)) G) kL mL (fun a z => by rw [z]; exact .inl (.inl ⟨i, sl⟩)) (fun a z => .inl ?_) lo
          rcases cup_un_set z with z | z
          · rw [z]; exact .inl (.inl ⟨i, sl⟩)
          · exact cup_un_sub z fun _ z => z.elim
        · refine OwnL.is (lU.step kL mL fun a u z => nU (z ▸ u)) fun a u z => ?_
          rcases cup_un_set z with z | z
          · exact nU (z ▸ u)
          · rcases z with (⟨j, z⟩ | z | z) | z
            · by_cases hj : j = i
              · rw [if_pos hj] at z; exact z
              · rw [if_neg hj] at z; exact hj (R1.dis _ _ _ z (hU a u))
            · exact R1.disT a ⟨i, hU a u⟩ (.inl z)
            · exact z
            · exact R1.disG a (.inl ⟨i, hU a u⟩) z
      · have lw : IsL K (cup (cup (un fp1) T) G) H1 ws es := kl.isL (apart st R1) fun _ z => z
        refine IsL.step (F := sgl l) (A := cup (cup (un fp1) T) G) kL mL (fun a z => by rw [z]; exact .inl (.inl ⟨i, sl⟩)) (fun a z => .inl ?_) lw
        rcases cup_un_set z with z | z
        · rw [z]; exact .inl (.inl ⟨i, sl⟩)
        · rcases z with (⟨j, z⟩ | z | z) | z
          · by_cases hj : j = i
            · rw [if_pos hj] at z; exact z.elim
            · rw [if_neg hj] at z; exact .inl (.inl ⟨j, z⟩)
          · exact .inl (.inr z)
          · exact z.elim
          · exact .inr z
    exact PostE.solid (K := K) q rfl s1 s2 (A := noA) .non
theorem list_there {K : PySem.W.Frag} {ρ : Env} {σ : L2.St} {H : Hp} {fp : Fp} {T G : Set'} {i : Nat} {o : Ow} {xs : List D} (R : RepS K ρ σ H fp T G) (e : ρ[i]? = some (some (o, .lst xs))) : ∃ l vs, σ[i]? = some (some (.ref l)) ∧ SqL K H l vs := by
  obtain ⟨v, ev, _, r⟩ := R.slot i o _ e
  obtain ⟨l, vs, rfl, _, h, _⟩ := r.now.inv_lst
  exact ⟨l, vs, ev, SqL.of h⟩
theorem v_app (hC : MonoC C) {i : Nat} {x : Str} (hN : X.N[i]? = some x) (hv : Vis X.env.scope x) (hd : (x == ("__debug__" : Str)) = false) (hcd : (x == ("__classdict__" : Str)) = false) (ha : PEv X C a ea)
    (hline : (apos.endLine == pos.line) = true) (hst : noStar a = true) :
    PEv X C (.Call (.Attribute (.Name x p) "append" apos) [a] [] pos) (.app i ea) := by
  refine (pe_bm PySem.F.plainAttrs_list PySem.F.slot_list_append PySem.F.type_list_append mt_append (pe_var hN hv hd hcd) (pa_cons ha pa_nil (star_cons hst)) rfl (few_one hst) hline (star_cons hst) (star_any (xs := []) rfl)).imp fun σ H Q ⟨ρ, fp, T, G, R, ⟨o0, xs0, e0⟩, w⟩ => ?_
  obtain ⟨l0, vs0, ev0, sq0⟩ := list_there R e0
  refine ⟨_, ev0, .inl ⟨rfl, vs0, sq0⟩, ?_⟩
  refine tE_of hC R w fun o d ρ1 y H1 fp1 S1 ⟨k, ds, oi, ek, hi, ho, z, q⟩ st R1 r1 => ?_
  obtain ⟨l, vs, ev, h, n, _, q⟩ := push_core (ws := [y]) R st R1 (kid_one r1 ek (apart st R1) (lessG (K := X.K))) hi ho q
  have el : l0 = l := V.ref.inj (Option.some.inj (Option.some.inj (ev0.symm.trans ev)))
  subst el
  exact ⟨l0, vs, y, rfl, rfl, h, by rw [n]; exact z, q⟩
theorem v_ext (hC : MonoC C) {i : Nat} {x : Str} (hN : X.N[i]? = some x) (hv : Vis X.env.scope x) (hd : (x == ("__debug__" : Str)) = false) (hcd : (x == ("__classdict__" : Str)) = false) (ha : PEv X C a ea)
    (hline : (apos.endLine == pos.line) = true) (hst : noStar a = true) :
    PEv X C (.Call (.Attribute (.Name x p) "extend" apos) [a] [] pos) (.ext i ea) := by
  refine (pe_bm PySem.F.plainAttrs_list PySem.F.slot_list_extend PySem.F.type_list_extend mt_extend (pe_var hN hv hd hcd) (pa_cons ha pa_nil (star_cons hst)) rfl (few_one hst) hline (star_cons hst) (star_any (xs := []) rfl)).imp fun σ H Q ⟨ρ, fp, T, G, R, ⟨o0, xs0, e0⟩, w⟩ => ?_
  obtain ⟨l0, vs0, ev0, sq0⟩ := list_there R e0
  refine ⟨_, ev0, .inl ⟨rfl, vs0, sq0⟩, ?_⟩
  refine tE_of hC R w fun o d ρ1 y H1 fp1 S1 ⟨es, k, ds, oi, ed, ek, hi, ho, z, q⟩ st R1 r1 => ?_
  subst ed
  obtain ⟨b, ws, rfl, hb, kl⟩ := kids_lst r1 ek
  obtain ⟨l, vs, ev, h, n, nw, q⟩ := push_core R st R1 kl.lower hi ho q
  have el : l0 = l := V.ref.inj (Option.some.inj (Option.some.inj (ev0.symm.trans ev)))
  subst el
  exact ⟨l0, b, vs, ws, rfl, rfl, h, hb, by rw [n, nw]; exact z, q⟩
end
end VH
namespace VH
open PySem PySem.Spec PyProof.Rows L2

section
variable {K : PySem.W.Frag} {H : Hp}
theorem OwnL.split : ∀ {vs : List V} {ds : List D} {U : Set'} {k : Nat} {d : D}, OwnL K H vs ds U → ds[k]? = some d →
    ∃ y U1 U2, vs[k]? = some y ∧ Own K H y d U2 ∧ OwnL K H (vs.eraseIdx k) (ds.eraseIdx k) U1 ∧ (∀ a, U1 a → ¬ U2 a) ∧ (∀ a, U1 a → U a) ∧ (∀ a, U2 a → U a)
  | _, _, _, _, _, .nil, e => by simp at e
  | _, _, _, 0, _, .cons x l dj t u, e => by
    simp at e; subst e
    exact ⟨_, _, _, rfl, x, l, fun a z q => dj a q z, u, t⟩
  | _, _, _, k + 1, d, .cons (T := T) x l dj t u, e => by
    obtain ⟨y, U1, U2, e1, h1, h2, h3, h4, h5⟩ := OwnL.split (k := k) (d := d) l (by simpa using e)
    exact ⟨y, cup T U1, U2, by simpa using e1, h1, .cons x h2 (fun a z q => dj a z (h4 a q)) (fun a z => .inl z) (fun a z => .inr z),
      fun a z q => z.elim (fun z => dj a z (h5 a q)) fun z => h3 a z q, fun a z => z.elim (t a) fun z => u a (h4 a z), fun a z => u a (h5 a z)⟩
end
section
variable {X : Cx} {C : CallS} {pos apos p : Pos} {a b c : Expr} {ea eb ec : E} {xs : List Expr} {es : Es}
theorem pop_core {K : PySem.W.Frag} {ρ ρ1 : Env} {σ : L2.St} {H H1 : Hp} {fp fp1 : Fp} {T G S1 : Set'} {i k : Nat} {oi : Ow} {ds : List D} {d : D} {Q : VK} (R : RepS K ρ σ H fp T G) (st : StepE H fp T H1 fp1 S1) (R1 : RepS K ρ1 σ H1 fp1 (cup T S1) G)
    (hi : ρ1[i]? = some (some (oi, .lst ds))) (ho : oi = .one ∨ oi = .all) (hk : ds[k]? = some d)
    (q : PostE K σ H fp T G Q (kidO oi d) d (ρ1.set i (some (oi, .lst (ds.eraseIdx k))))) :
    ∃ l vs y, σ[i]? = some (some (.ref l)) ∧ H1 l = some (.lst vs) ∧ vs.length = ds.length ∧ vs[k]? = some y ∧ Q y (upd H1 l (.lst (vs.eraseIdx k))) := by
  obtain ⟨v, ev, nt, r⟩ := R1.slot i oi _ hi
  obtain ⟨l, vs, rfl, h, sl, n, cs⟩ := own_lst r ho
  have kL : Keep (sgl l) H1 (upd H1 l (.lst (vs.eraseIdx k))) := fun a o e ne => by rw [upd_ne ne]; exact e
  have mL : MutS (sgl l) H1 := fun a z => by rw [z]; exact ⟨_, h, rfl⟩
  rcases cs with ⟨rfl, lo⟩ | ⟨rfl, U, hU, nU, lU⟩
  · obtain ⟨y, ey, iy⟩ := lo.get hk
    refine ⟨l, vs, y, ev, h, n, ey, ?_⟩
    have gA : ∀ {a}, cup (cup (un (setFp fp1 i (fp1 i))) (cup T noA)) G a → cup (cup (un fp1) (cup T S1)) G a := fun {a} z => by
      rcases cup_un_set z with z | z
      · exact .inl (.inl ⟨i, z⟩)
      · exact cup_un_sub z fun _ z => z.elim
    have stp : ∀ {v : V} {d : D}, Is K (cup (cup (un fp1) (cup T S1)) G) H1 v d → Is K (cup (cup (un (setFp fp1 i (fp1 i))) (cup T noA)) G) (upd H1 l (.lst (vs.eraseIdx k))) v d := fun h => Is.step (F := sgl l) kL mL (fun a z => by rw [z]; exact .inl (.inl ⟨i, sl⟩)) (fun a z => .inl (gA z)) h
    obtain ⟨s1, s2⟩ := slot_write (S' := fp1 i) (T1 := noA) (x := (.one, .lst (ds.eraseIdx k))) (ho := .lst (vs.eraseIdx k)) R st R1 ev sl rfl (fun a z => .inl z) (fun _ z => z.elim) (fun _ _ z => z) ⟨(by decide : Ow.one ≠ .tra), (by decide : Ow.one ≠ .tra1)⟩ fun _ =>
      ⟨l, _, rfl, sl, upd_same, IsL.step (F := sgl l) kL mL (fun a z => by rw [z]; exact .inl (.inl ⟨i, sl⟩)) (fun a z => .inl (gA z)) (lo.eraseIdx k)⟩
    refine q y _ _ noA s1 s2 ?_
    unfold kidO
    have i' := stp iy
    by_cases hs : VH.solid d = true
    · rw [nrm_solid hs]; exact RepV.solid hs i'
    · rw [nrm_not hs]; exact i'
  · obtain ⟨y, U1, U2, ey, oy, l1, dj, g1, g2⟩ := lU.split hk
    refine ⟨l, vs, y, ev, h, n, ey, ?_⟩
    have nU1 : ¬ U1 l := fun z => nU (g1 _ z)
    have nU2 : ¬ U2 l := fun z => nU (g2 _ z)
    obtain ⟨s1, s2⟩ := slot_write (S' := cup (sgl l) U1) (T1 := U2) (x := (.all, .lst (ds.eraseIdx k))) (ho := .lst (vs.eraseIdx k)) R st R1 ev sl rfl
      (fun a z => z.elim (fun z => by rw [z]; exact .inl sl) fun z => .inl (hU a (g1 a z))) (fun a z => .inl (hU a (g2 a z))) (fun a z q => z.elim (fun z => nU2 (by rw [← z]; exact q)) fun z => dj a z q) ⟨(by decide : Ow.all ≠ .tra), (by decide : Ow.all ≠ .tra1)⟩ fun _ =>
      .lst (U := U1) upd_same (.inl rfl) (fun a z => .inr z) nU1 (l1.step kL mL fun a u z => nU1 (by rw [← z]; exact u))
    refine q y _ _ U2 s1 s2 ?_
    unfold kidO
    have o' : Own K (upd H1 l (.lst (vs.eraseIdx k))) y d U2 := oy.step kL mL fun a u z => nU2 (by rw [← z]; exact u)
    by_cases hs : VH.solid d = true
    · rw [nrm_solid hs]; exact o'
    · rw [nrm_not hs]; exact o'
theorem v_popAt (hC : MonoC C) {i : Nat} {x : Str} (hN : X.N[i]? = some x) (hv : Vis X.env.scope x) (hd : (x == ("__debug__" : Str)) = false) (hcd : (x == ("__classdict__" : Str)) = false) (ha : PEv X C a ea)
    (hline : (apos.endLine == pos.line) = true) (hst : noStar a = true) :
    PEv X C (.Call (.Attribute (.Name x p) "pop" apos) [a] [] pos) (.popAt i ea) := by
  refine (pe_bm PySem.F.plainAttrs_list PySem.F.slot_list_pop PySem.F.type_list_pop mt_popAt (pe_var hN hv hd hcd) (pa_cons ha pa_nil (star_cons hst)) rfl (few_one hst) hline (star_cons hst) (star_any (xs := []) rfl)).imp fun σ H Q ⟨ρ, fp, T, G, R, ⟨o0, xs0, e0⟩, w⟩ => ?_
  obtain ⟨l0, vs0, ev0, sq0⟩ := list_there R e0
  refine ⟨_, ev0, .inl ⟨rfl, vs0, sq0⟩, ?_⟩
  refine tE_of hC R w fun o de ρ1 y H1 fp1 S1 ⟨j, k, ds, d, oi, ed, hi, ho, z1, z2, ek, hk, q⟩ st R1 r1 => ?_
  subst ed
  obtain ⟨l, vs, w, ev, h, n, ew, q⟩ := pop_core R st R1 hi ho hk q
  have el : l0 = l := V.ref.inj (Option.some.inj (Option.some.inj (ev0.symm.trans ev)))
  subst el
  exact ⟨l0, vs, j, k, w, rfl, by rw [r1.now.inv_int], h, z1, z2, by rw [n]; exact ek, ew, q⟩
theorem v_pop (hC : MonoC C) {i : Nat} {x : Str} (hN : X.N[i]? = some x) (hv : Vis X.env.scope x) (hd : (x == ("__debug__" : Str)) = false) (hcd : (x == ("__classdict__" : Str)) = false)
    (hline : (apos.endLine == pos.line) = true) : PEv X C (.Call (.Attribute (.Name x p) "pop" apos) [] [] pos) (.pop i) := by
  refine (pe_bm0 PySem.F.plainAttrs_list PySem.F.slot_list_pop PySem.F.type_list_pop mt_pop (pe_var hN hv hd hcd) rfl hline).imp fun σ H Q ⟨ρ, fp, T, G, R, w⟩ => ?_
  obtain ⟨ds, d, oi, hi, ho, q⟩ := w
  have ek : (ds ++ [d])[ds.length]? = some d := by simp
  have ee : (ds ++ [d]).eraseIdx ds.length = ds := by
    rw [List.eraseIdx_append_of_length_le (Nat.le_refl _)]; simp
  obtain ⟨l, vs, y, ev, h, n, ey, q⟩ := pop_core (k := ds.length) R StepE.refl (by rw [cup_noA]; exact R) hi ho ek (by rw [ee]; exact q)
  have nl : vs.length - 1 = ds.length := by rw [n]; simp
  have ed : vs.eraseIdx ds.length = vs.dropLast := by rw [← nl]; exact List.eraseIdx_length_sub_one
  rw [ed] at q
  exact ⟨_, ev, .inl ⟨rfl, vs, SqL.of h⟩, l, vs, y, rfl, rfl, h, by rw [nl]; exact ey, q⟩
end
end VH
namespace VH
open PySem PySem.Spec PyProof.Rows L2

section
variable {K : PySem.W.Frag} {ρ ρ' ρ1 : Env} {σ σ' : L2.St} {H H' H1 : Hp} {fp fp' fp1 : Fp} {T T' G S S1 A A' B B' : Set'} {o : Ow} {v : V} {d : D} {vs : List V} {ds : List D}
theorem RepV.fewer (r : RepV K H o v d S B A) (gB : ∀ a, B' a → B a) (gA : ∀ a, A' a → A a) : RepV K H o v d S B' A' := r.still Keep.refl (fun a z => .inl (gB a z)) fun a z => .inl (gA a z)
/-- fewer slots known -/
theorem RepS.slots (R : RepS K ρ σ H fp T G) (hl : σ'.length = ρ'.length)
    (h : ∀ (i : Nat) (o : Ow) (d : D), ρ'[i]? = some (some (o, d)) → (ρ[i]? = some (some (o, d)) ∧ σ'[i]? = σ[i]?) ∨ (VH.solid d = true ∧ o = .all ∧ ∃ v, σ'[i]? = some (some v) ∧ Is K noA H v d)) : RepS K ρ' σ' H fp T G where
  len := hl
  slot := fun i o d e => by
    rcases h i o d e with ⟨e1, e2⟩ | ⟨hs, rfl, v, e2, hv⟩
    · obtain ⟨v, e3, nt, r⟩ := R.slot i o d e1
      exact ⟨v, by rw [e2]; exact e3, nt, r⟩
    · exact ⟨v, e2, ⟨by decide, by decide⟩, RepV.solid hs hv⟩
  dis := R.dis
  disT := R.disT
  disG := R.disG
  wr := R.wr

def lenTs : Tgs → Nat
  | .nil => 0
  | .cons _ ts => lenTs ts + 1
mutual
def gT (K : PySem.W.Frag) : Tg → TG
  | .nm i => gName i
  | .tp ts => gTup K (lenTs ts) (gTs K ts)
def gTs (K : PySem.W.Frag) : Tgs → TGs
  | .nil => gNil
  | .cons t ts => gCons (gT K t) (gTs K ts)
end
/-- the parts of a tuple -/
def RepL (K : PySem.W.Frag) (H : Hp) (o : Ow) (vs : List V) (ds : List D) (S B A : Set') : Prop := (o = .all ∧ OwnL K H vs ds S) ∨ (o = .bor ∧ IsL K B H vs ds) ∨ (o = .sh ∧ IsL K A H vs ds)
theorem RepL.length (r : RepL K H o vs ds S B A) : vs.length = ds.length := by
  rcases r with ⟨_, r⟩ | ⟨_, r⟩ | ⟨_, r⟩
  · exact (r.is (A := noA) fun _ _ z => z).length
  · exact r.length
  · exact r.length
theorem bindTs_len : ∀ {ts : Tgs} {o : Ow} {ds : List D} {ρ ρ' : Env}, bindTs ts o ds ρ = some ρ' → ds.length = lenTs ts
  | .nil, o, ds, ρ, ρ', e => by
    cases ds with
    | nil => rfl
    | cons d ds => simp [bindTs] at e
  | .cons t ts, o, ds, ρ, ρ', e => by
    cases ds with
    | nil => simp [bindTs] at e
    | cons d ds =>
      simp only [bindTs] at e
      cases q : bindT t o d ρ with
      | none => rw [q] at e; cases e
      | some ρ1 =>
        rw [q] at e
        have := bindTs_len (show bindTs ts o ds ρ1 = some ρ' from e)
        simp [lenTs, this]
mutual
theorem bind_ok : ∀ (t : Tg) {o : Ow} {d : D} {v : V} {S T G B A : Set'} {ρ ρ' : Env} {σ : L2.St} {H : Hp} {fp : Fp}, RepS K ρ σ H fp (cup T S) G → RepV K H o v d S B A → (o ≠ .tra ∧ o ≠ .tra1) →
    (∀ a, cup (un fp) (cup T S) a → B a) → (∀ a, cup (cup (un fp) (cup T S)) G a → A a) → (∀ a, S a → ¬ T a) → bindT t o d ρ = some ρ' → ∀ {Q : L2.St → Hp → Prop},
    (∀ σ' fp', RepS K ρ' σ' H fp' T G → (∀ a, un fp' a → un fp a ∨ S a) → (∀ j, j ∉ tgs t → σ'[j]? = σ[j]?) → σ'.length = σ.length → Q σ' H) → gT K t v σ H Q
  | .nm i, o, d, v, S, T, G, B, A, ρ, ρ', σ, H, fp, R, r, nt, gB, gA, dT, e, Q, q => by
    simp only [bindT, Option.some.injEq] at e
    subst e
    have sub : ∀ a, un (setFp fp i S) a → un fp a ∨ S a := fun a z => by
      rcases un_setFp z with z | ⟨j, _, z⟩
      · exact .inr z
      · exact .inl ⟨j, z⟩
    refine q (σ.set i (some v)) (setFp fp i S) (R.put Keep.refl (by simp) (fun j hj => List.getElem?_set_ne (Ne.symm hj)) (fun o' d' e' hlt => ?_) (fun a z => .inr (.inl (.inr z))) (fun a z => .inr (.inl (.inl z))) dT fun a z => ?_) sub (fun j hj => List.getElem?_set_ne (by intro h; subst h; simp [tgs] at hj)) (by simp)
    · cases e'
      refine ⟨v, List.getElem?_set_self (by rw [R.len]; exact hlt), ?_, ?_⟩
      · unfold nrm; split
        · exact ⟨by decide, by decide⟩
        · exact nt
      · refine (RepV.nrm (r.fewer (fun a z => gB a ?_) fun a z => gA a ?_))
        · rcases z with z | z
          · exact (sub a z).elim .inl fun z => .inr (.inr z)
          · exact .inr (.inl z)
        · rcases z with (z | z) | z
          · exact (sub a z).elim (fun z => .inl (.inl z)) fun z => .inl (.inr (.inr z))
          · exact .inl (.inr (.inl z))
          · exact .inr z
    · rcases z with z | z
      · exact R.wr a (.inl (.inr (.inr z)))
      · exact R.wr a (.inl (.inr (.inl z)))
  | .tp ts, o, d, v, S, T, G, B, A, ρ, ρ', σ, H, fp, R, r, nt, gB, gA, dT, e, Q, q => by
    cases d <;> simp only [bindT] at e <;> try cases e
    rename_i ds
    have hl : ∃ a xs, v = .ref a ∧ SqT K H a xs ∧ RepL K H (tupO o) xs ds S B A := by
      cases o with
      | tra => exact (nt.1 rfl).elim
      | tra1 => exact (nt.2 rfl).elim
      | bor => obtain ⟨a, vs, e1, h, l⟩ := Is.inv_tup r; exact ⟨a, vs, e1, h, .inr (.inl ⟨rfl, l⟩)⟩
      | sh => obtain ⟨a, vs, e1, h, l⟩ := Is.inv_tup r; exact ⟨a, vs, e1, h, .inr (.inr ⟨rfl, l⟩)⟩
      | bor1 => obtain ⟨a, vs, e1, h, l⟩ := Is.inv_tup (show Is K A H v (.tup ds) from r); exact ⟨a, vs, e1, h, .inr (.inr ⟨rfl, l⟩)⟩
      | one => obtain ⟨a, vs, e1, h, l⟩ := Is.inv_tup (show Is K A H v (.tup ds) from r); exact ⟨a, vs, e1, h, .inr (.inr ⟨rfl, l⟩)⟩
      | all =>
        have r' : Own K H v (.tup ds) S := r
        cases r' with
        | tup h l => exact ⟨_, _, rfl, h, .inl ⟨rfl, l⟩⟩
    obtain ⟨a, xs, e1, h, l⟩ := hl
    refine ⟨a, xs, e1, h, ?_, bind_oks ts R l gB gA dT e q⟩
    rw [l.length]; exact bindTs_len e
theorem bind_oks : ∀ (ts : Tgs) {o : Ow} {ds : List D} {vs : List V} {S T G B A : Set'} {ρ ρ' : Env} {σ : L2.St} {H : Hp} {fp : Fp}, RepS K ρ σ H fp (cup T S) G → RepL K H o vs ds S B A →
    (∀ a, cup (un fp) (cup T S) a → B a) → (∀ a, cup (cup (un fp) (cup T S)) G a → A a) → (∀ a, S a → ¬ T a) → bindTs ts o ds ρ = some ρ' → ∀ {Q : L2.St → Hp → Prop},
    (∀ σ' fp', RepS K ρ' σ' H fp' T G → (∀ a, un fp' a → un fp a ∨ S a) → (∀ j, j ∉ tgss ts → σ'[j]? = σ[j]?) → σ'.length = σ.length → Q σ' H) → gTs K ts vs σ H Q
  | .nil, o, ds, vs, S, T, G, B, A, ρ, ρ', σ, H, fp, R, r, gB, gA, dT, e, Q, q => by
    cases ds with
    | cons d ds => simp [bindTs] at e
    | nil =>
      simp only [bindTs, Option.some.injEq] at e
      subst e
      exact ⟨List.length_eq_zero_iff.mp r.length, q σ fp (R.lessT fun a z => .inl z) (fun _ z => .inl z) (fun _ _ => rfl) rfl⟩
  | .cons t ts, o, ds, vs, S, T, G, B, A, ρ, ρ', σ, H, fp, R, r, gB, gA, dT, e, Q, q => by
    cases ds with
    | nil => simp [bindTs] at e
    | cons d ds =>
      simp only [bindTs] at e
      cases e1 : bindT t o d ρ with
      | none => rw [e1] at e; cases e
      | some ρ1 =>
        rw [e1] at e
        have e : bindTs ts o ds ρ1 = some ρ' := e
        -- the head's part and the rest's
        have hl : ∃ v vs' T0 U, vs = v :: vs' ∧ RepV K H o v d T0 B A ∧ RepL K H o vs' ds U B A ∧ (∀ a, T0 a → S a) ∧ (∀ a, U a → S a) ∧ (∀ a, T0 a → ¬ U a) ∧ (o ≠ .tra ∧ o ≠ .tra1) := by
          rcases r with ⟨rfl, r⟩ | ⟨rfl, r⟩ | ⟨rfl, r⟩
          · cases r with
            | cons x l dj t u => exact ⟨_, _, _, _, rfl, x, .inl ⟨rfl, l⟩, t, u, dj, by decide, by decide⟩
          · cases r with
            | cons x l => exact ⟨_, _, noA, noA, rfl, x, .inr (.inl ⟨rfl, l⟩), fun _ z => z.elim, fun _ z => z.elim, fun _ z => z.elim, by decide, by decide⟩
          · cases r with
            | cons x l => exact ⟨_, _, noA, noA, rfl, x, .inr (.inr ⟨rfl, l⟩), fun _ z => z.elim, fun _ z => z.elim, fun _ z => z.elim, by decide, by decide⟩
        obtain ⟨v, vs', T0, U, rfl, rv, rl, hT0, hU, dj, nt⟩ := hl
        have R1 : RepS K ρ σ H fp (cup (cup T U) T0) G := R.lessT fun a z => by
          rcases z with (z | z) | z
          · exact .inl z
          · exact .inr (hU a z)
          · exact .inr (hT0 a z)
        refine ⟨v, vs', rfl, bind_ok t R1 rv nt (fun a z => gB a ?_) (fun a z => gA a ?_) (fun a z z' => z'.elim (dT a (hT0 a z)) (dj a z)) e1 fun σ1 fp1 R2 g1 h1 n1 => ?_⟩
        · rcases z with z | (z | z) | z
          · exact .inl z
          · exact .inr (.inl z)
          · exact .inr (.inr (hU a z))
          · exact .inr (.inr (hT0 a z))
        · rcases z with (z | (z | z) | z) | z
          · exact .inl (.inl z)
          · exact .inl (.inr (.inl z))
          · exact .inl (.inr (.inr (hU a z)))
          · exact .inl (.inr (.inr (hT0 a z)))
          · exact .inr z
        · refine bind_oks ts R2 rl (fun a z => gB a ?_) (fun a z => gA a ?_) (fun a z => dT a (hU a z)) e fun σ2 fp2 R3 g2 h2 n2 => q σ2 fp2 R3 (fun a z => ?_) (fun j hj => ?_) (n2.trans n1)
          · rcases z with z | z | z
            · exact (g1 a z).elim .inl fun z => .inr (.inr (hT0 a z))
            · exact .inr (.inl z)
            · exact .inr (.inr (hU a z))
          · rcases z with (z | z | z) | z
            · exact (g1 a z).elim (fun z => .inl (.inl z)) fun z => .inl (.inr (.inr (hT0 a z)))
            · exact .inl (.inr (.inl z))
            · exact .inl (.inr (.inr (hU a z)))
            · exact .inr z
          · rcases g2 a z with z | z
            · exact (g1 a z).elim .inl fun z => .inr (hT0 a z)
            · exact .inr (hU a z)
          · simp only [tgss, List.mem_append, not_or] at hj
            rw [h2 j hj.2, h1 j hj.1]
end
/-- a slot that is no target -/
theorem bindT_get {t : Tg} {o : Ow} {d : D} {ρ ρ' : Env} (e : bindT t o d ρ = some ρ') {j : Nat} (hj : j ∉ tgs t) : ρ'[j]? = ρ[j]? := by
  have both : (∀ t o d ρ ρ', bindT t o d ρ = some ρ' → j ∉ tgs t → ρ'[j]? = ρ[j]?) := by
    intro t
    refine Tg.rec (motive_1 := fun t => ∀ o d ρ ρ', bindT t o d ρ = some ρ' → j ∉ tgs t → ρ'[j]? = ρ[j]?) (motive_2 := fun ts => ∀ o ds ρ ρ', bindTs ts o ds ρ = some ρ' → j ∉ tgss ts → ρ'[j]? = ρ[j]?) ?_ ?_ ?_ ?_ t
    · intro i o d ρ ρ' e hj
      simp only [bindT, Option.some.injEq] at e
      subst e
      exact List.getElem?_set_ne (by intro h; subst h; simp [tgs] at hj)
    · intro ts ih o d ρ ρ' e hj
      cases d <;> simp only [bindT] at e <;> try cases e
      exact ih _ _ _ _ e hj
    · intro o ds ρ ρ' e hj
      cases ds with
      | nil => simp only [bindTs, Option.some.injEq] at e; rw [e]
      | cons d ds => simp [bindTs] at e
    · intro t ts ih1 ih2 o ds ρ ρ' e hj
      cases ds with
      | nil => simp [bindTs] at e
      | cons d ds =>
        simp only [bindTs] at e
        simp only [tgss, List.mem_append, not_or] at hj
        cases e1 : bindT t o d ρ with
        | none => rw [e1] at e; cases e
        | some ρ1 =>
          rw [e1] at e
          rw [ih2 _ _ _ _ (show bindTs ts o ds ρ1 = some ρ' from e) hj.2, ih1 _ _ _ _ e1 hj.1]
  exact both t o d ρ ρ' e hj
theorem bindT_len {t : Tg} {o : Ow} {d : D} {ρ ρ' : Env} (e : bindT t o d ρ = some ρ') : ρ'.length = ρ.length := by
  have both : (∀ t o d ρ ρ', bindT t o d ρ = some ρ' → ρ'.length = ρ.length) := by
    intro t
    refine Tg.rec (motive_1 := fun t => ∀ o d ρ ρ', bindT t o d ρ = some ρ' → ρ'.length = ρ.length) (motive_2 := fun ts => ∀ o ds ρ ρ', bindTs ts o ds ρ = some ρ' → ρ'.length = ρ.length) ?_ ?_ ?_ ?_ t
    · intro i o d ρ ρ' e
      simp only [bindT, Option.some.injEq] at e
      subst e
      simp
    · intro ts ih o d ρ ρ' e
      cases d <;> simp only [bindT] at e <;> try cases e
      exact ih _ _ _ _ e
    · intro o ds ρ ρ' e
      cases ds with
      | nil => simp only [bindTs, Option.some.injEq] at e; rw [e]
      | cons d ds => simp [bindTs] at e
    · intro t ts ih1 ih2 o ds ρ ρ' e
      cases ds with
      | nil => simp [bindTs] at e
      | cons d ds =>
        simp only [bindTs] at e
        cases e1 : bindT t o d ρ with
        | none => rw [e1] at e; cases e
        | some ρ1 =>
          rw [e1] at e
          rw [ih2 _ _ _ _ (show bindTs ts o ds ρ1 = some ρ' from e), ih1 _ _ _ _ e1]
  exact both t o d ρ ρ' e

theorem wipeE_len : ∀ vs : List Nat, (wipeE ρ vs).length = ρ.length
  | [] => rfl
  | v :: vs => by unfold wipeE; rw [List.length_set, wipeE_len vs]
theorem wipeE_get {i : Nat} {p : Ow × D} : ∀ {vs : List Nat}, (wipeE ρ vs)[i]? = some (some p) → ρ[i]? = some (some p) ∧ i ∉ vs
  | [], h => ⟨h, by simp⟩
  | v :: vs, h => by
    unfold wipeE at h
    by_cases e : v = i
    · subst e
      by_cases hl : v < (wipeE ρ vs).length
      · rw [List.getElem?_set_self hl] at h; cases h
      · rw [List.getElem?_eq_none (by rw [List.length_set]; omega)] at h; cases h
    · rw [List.getElem?_set_ne e] at h
      obtain ⟨h1, h2⟩ := wipeE_get h
      exact ⟨h1, by simp [h2, Ne.symm e]⟩
theorem wipe_get {i : Nat} : ∀ {vs : List Nat}, i ∉ vs → (wipe σ vs)[i]? = σ[i]?
  | [], _ => rfl
  | v :: vs, h => by
    simp only [List.mem_cons, not_or] at h
    unfold wipe
    rw [List.getElem?_set_ne (Ne.symm h.1)]
    exact wipe_get h.2
theorem wipe_eq {σ2 : L2.St} (hl : σ2.length = σ.length) : ∀ {vs : List Nat}, (∀ j, j ∉ vs → σ2[j]? = σ[j]?) → wipe σ2 vs = wipe σ vs := fun {vs} h => by
  apply List.ext_getElem?
  intro j
  by_cases hj : j ∈ vs
  · have key : ∀ (τ : L2.St) (ws : List Nat), j ∈ ws → (wipe τ ws)[j]? = if j < τ.length then some none else none := by
      intro τ ws
      induction ws with
      | nil => intro h; simp at h
      | cons w ws ih =>
        intro h
        unfold wipe
        by_cases e : w = j
        · subst e
          by_cases hw : w < τ.length
          · rw [if_pos hw, List.getElem?_set_self (by rw [wipe_length]; exact hw)]
          · rw [if_neg hw]; exact List.getElem?_eq_none (by rw [List.length_set, wipe_length]; omega)
        · rw [List.getElem?_set_ne e]
          exact ih (by simpa [Ne.symm e] using h)
    rw [key _ _ hj, key _ _ hj, hl]
  · rw [wipe_get hj, wipe_get hj, h j hj]
theorem RepS.wipe (R : RepS K ρ σ H fp T G) (vs : List Nat) : RepS K (wipeE ρ vs) (L2.wipe σ vs) H fp T G :=
  R.slots (by rw [wipe_length, wipeE_len]; exact R.len) fun i o d e => by
    obtain ⟨e1, hn⟩ := wipeE_get e
    exact .inl ⟨e1, wipe_get hn⟩
theorem backE_len : ∀ vs : List Nat, (backE ρ ρ' vs).length = ρ'.length
  | [] => rfl
  | v :: vs => by unfold backE; rw [List.length_set, backE_len vs]
theorem backE_get {i : Nat} {p : Ow × D} : ∀ {vs : List Nat}, (backE ρ ρ' vs)[i]? = some (some p) → (i ∉ vs ∧ ρ'[i]? = some (some p)) ∨ (∃ o, ρ[i]? = some (some (o, p.2)) ∧ VH.solid p.2 = true ∧ p.1 = .all)
  | [], h => .inl ⟨by simp, h⟩
  | v :: vs, h => by
    unfold backE at h
    by_cases e : v = i
    · subst e
      by_cases hl : v < (backE ρ ρ' vs).length
      · rw [List.getElem?_set_self hl] at h
        have h := Option.some.inj h
        cases q : ρ[v]? with
        | none => rw [q] at h; cases h
        | some x =>
          rw [q] at h
          cases x with
          | none => cases h
          | some y =>
            obtain ⟨o, d⟩ := y
            simp only [Option.getD_some, solOf] at h
            split at h
            · rename_i hs
              cases h
              exact .inr ⟨o, rfl, hs, rfl⟩
            · cases h
      · rw [List.getElem?_eq_none (by rw [List.length_set]; omega)] at h; cases h
    · rw [List.getElem?_set_ne e] at h
      rcases backE_get h with ⟨h1, h2⟩ | h1
      · exact .inl ⟨by simp [h1, Ne.symm e], h2⟩
      · exact .inr h1
end
end VH
namespace VH
open PySem PySem.Spec PyProof.Rows L2

section
variable {X : Cx} {tg : Expr}
def iSeq (K : PySem.W.Frag) (tl : TE) : TI := fun σ H R => tl σ H fun x H1 => ∃ a, x = .ref a ∧ (((∃ xs, SqL K H1 a xs) ∧ R (Itl K a) H1) ∨ ((∃ xs, SqT K H1 a xs) ∧ R (Itt K a) H1))
theorem pi_seq {l : Expr} {tl : TE} (hl : PE X l tl) : PI X tg l (iSeq X.K tl) := by
  refine ⟨fun pins s σ H R I h => ?_⟩
  refine thn (hl.run pins s σ H _ I h) fun v s1 ⟨x, H1, I1, r1, q1⟩ => ?_
  obtain ⟨a, e, q⟩ := q1
  subst e
  cases r1
  rcases q with ⟨⟨xs, hq⟩, q⟩ | ⟨⟨xs, hq⟩, q⟩
  · obtain ⟨its, rv, p, hz⟩ := I1.list hq
    refine wpAny_pyIter_list p.isList ?_
    refine ⟨s1.heap.objs.size, [s1.heap.objs.size], _, _, H1, rfl, I1.kept (t' := s1.toks) fun b o e => Heap.get?_push_of_some _ e, turn_list a _, ⟨_, Heap.get?_push_size _ rfl, rfl, rfl⟩, fun b hb => ?_, q⟩
    have e : b = s1.heap.objs.size := by simpa using hb
    subst e
    exact I1.fpOk (Nat.le_refl _) (I1.hok.fresh (Nat.le_refl _))
  · obtain ⟨its, rv, p, hz⟩ := I1.tuple hq
    refine wpAny_pyIter_tuple (show s1.heap.IsTuple a its.toArray from p) ?_
    refine ⟨s1.heap.objs.size, [s1.heap.objs.size], _, _, H1, rfl, I1.kept (t' := s1.toks) fun b o e => Heap.get?_push_of_some _ e, turn_tuple a _, ⟨_, Heap.get?_push_size _ rfl, rfl, rfl⟩, fun b hb => ?_, q⟩
    have e : b = s1.heap.objs.size := by simpa using hb
    subst e
    exact I1.fpOk (Nat.le_refl _) (I1.hok.fresh (Nat.le_refl _))
theorem _root_.L2.PI.imp {x : Expr} {t t' : TI} (h : PI X tg x t) (w : ∀ σ H Q, t' σ H Q → t σ H Q) : PI X tg x t' := ⟨fun pins s σ H R I q => h.run pins s σ H R I (w σ H R q)⟩
end

abbrev HL := List (Ow × V × D)
def HeldL (K : PySem.W.Frag) (H : Hp) (L : HL) (B A : Set') : Prop := ∀ h ∈ L, RepV K H h.1 h.2.1 h.2.2 noA B A
def FeedOk (K : PySem.W.Frag) (J : L2.It) (o : Ow) (ds : List D) (L : HL) : Prop := ∀ H B A, HeldL K H L B A → (∀ i, ds.length ≤ i → J.stop i H) ∧
  ∀ (i : Nat) (d : D), ds[i]? = some d → J.go i H ∧ ∀ x H', J.yld i H x H' → Keep noA H H' ∧ RepV K H' (nrm (itmO o) d) x d noA (if o = .tra then noA else B) A
def tI (K : PySem.W.Frag) (C : CallS) (it : It) : TI := fun σ H R => ∃ ρ fp T G, RepS K ρ σ H fp T G ∧ wpIt C it ρ fun o ds ρ1 =>
  ∀ J H1 fp1 L, StepE H fp T H1 fp1 noA → RepS K ρ1 σ H1 fp1 T G → (o ≠ .tra → o ≠ .tra1 → ∀ h ∈ L, h.1 ≠ .tra ∧ h.1 ≠ .tra1) →
    HeldL K H1 L (cup (un fp1) T) (cup (cup (un fp1) T) G) → FeedOk K J o ds L → R J H1
abbrev PIv (X : Cx) (C : CallS) (tg x : Expr) (it : It) : Prop := PI X tg x (tI X.K C it)

section
variable {K : PySem.W.Frag} {ρ ρ1 : Env} {σ : L2.St} {H H1 H' : Hp} {fp fp1 : Fp} {T G S1 A B : Set'} {o : Ow} {d : D} {v : V} {ds : List D}
theorem freeze (st : StepE H fp T H1 fp1 S1) (R1 : RepS K ρ1 σ H1 fp1 (cup T S1) G) (r : RepV K H1 o v d S1 (cup (un fp1) (cup T S1)) (cup (cup (un fp1) (cup T S1)) G)) :
    StepE H fp T H1 fp1 noA ∧ RepS K ρ1 σ H1 fp1 T G ∧ RepV K H1 (frzO o) v d noA (cup (un fp1) T) (cup (cup (un fp1) T) G) := by
  have ap := apart st R1
  have gB : ∀ a, cup (un fp1) T a → cup (un fp1) (cup T S1) a := fun a z => z.elim .inl fun z => .inr (.inl z)
  refine ⟨st.less fun _ z => z.elim, R1.lessT fun a z => .inl z, ?_⟩
  cases o with
  | one => exact One.is ap (lessG (K := K)) r
  | all => exact Own.is r ap
  | tra => exact r
  | tra1 => exact r.fewer gB (lessG (K := K))
  | bor => exact Is.less r gB
  | bor1 => exact r.fewer gB (lessG (K := K))
  | sh => exact Is.less r (lessG (K := K))
theorem itm_of (r : RepV K H (frzO o) v (.lst ds) noA B A) : ∃ a vs, v = .ref a ∧ H a = some (.lst vs) ∧ vs.length = ds.length ∧
    ∀ (i : Nat) (d : D), ds[i]? = some d → ∃ y, vs[i]? = some y ∧ RepV K H (nrm (itmO o) d) y d noA (if o = .tra then noA else B) A := by
  have fin : ∀ {a : Addr} {vs : List V} {X : Set'} {o' : Ow}, v = .ref a → H a = some (.lst vs) → IsL K X H vs ds → itmO o = o' → (∀ {y d}, Is K X H y d → RepV K H o' y d noA (if o = .tra then noA else B) A) →
      ∃ a vs, v = .ref a ∧ H a = some (.lst vs) ∧ vs.length = ds.length ∧ ∀ (i : Nat) (d : D), ds[i]? = some d → ∃ y, vs[i]? = some y ∧ RepV K H (nrm (itmO o) d) y d noA (if o = .tra then noA else B) A := fun {a vs X o'} e h l eo hr => by
    refine ⟨a, vs, e, h, l.length, fun i d ed => ?_⟩
    obtain ⟨y, ey, iy⟩ := l.get ed
    refine ⟨y, ey, ?_⟩
    rw [eo]
    by_cases hs : VH.solid d = true
    · rw [nrm_solid hs]; exact RepV.solid hs iy
    · rw [nrm_not hs]; exact hr iy
  cases o with
  | tra => obtain ⟨a, vs, e, _, h, l⟩ := Is.inv_lst r; exact fin e h l rfl fun i => i
  | bor => obtain ⟨a, vs, e, _, h, l⟩ := Is.inv_lst r; exact fin e h l rfl fun i => i
  | sh => obtain ⟨a, vs, e, _, h, l⟩ := Is.inv_lst r; exact fin e h l rfl fun i => i
  | one => obtain ⟨a, vs, e, _, h, l⟩ := Is.inv_lst r; exact fin e h l rfl fun i => i
  | all => obtain ⟨a, vs, e, _, h, l⟩ := Is.inv_lst r; exact fin e h l rfl fun i => i
  | tra1 => obtain ⟨a, vs, e, _, h, l⟩ := r; exact fin e h l rfl fun i => i
  | bor1 => obtain ⟨a, vs, e, _, h, l⟩ := r; exact fin e h l rfl fun i => i
theorem itm_of_tup (r : RepV K H (frzO o) v (.tup ds) noA B A) : ∃ a vs, v = .ref a ∧ SqT K H a vs ∧ vs.length = ds.length ∧
    ∀ (i : Nat) (d : D), ds[i]? = some d → ∃ y, vs[i]? = some y ∧ RepV K H (nrm (itmO o) d) y d noA (if o = .tra then noA else B) A := by
  have fin : ∀ {a : Addr} {vs : List V} {X : Set'} {o' : Ow}, v = .ref a → SqT K H a vs → IsL K X H vs ds → itmO o = o' → (∀ {y d}, Is K X H y d → RepV K H o' y d noA (if o = .tra then noA else B) A) →
      ∃ a vs, v = .ref a ∧ SqT K H a vs ∧ vs.length = ds.length ∧ ∀ (i : Nat) (d : D), ds[i]? = some d → ∃ y, vs[i]? = some y ∧ RepV K H (nrm (itmO o) d) y d noA (if o = .tra then noA else B) A := fun {a vs X o'} e h l eo hr => by
    refine ⟨a, vs, e, h, l.length, fun i d ed => ?_⟩
    obtain ⟨y, ey, iy⟩ := l.get ed
    refine ⟨y, ey, ?_⟩
    rw [eo]
    by_cases hs : VH.solid d = true
    · rw [nrm_solid hs]; exact RepV.solid hs iy
    · rw [nrm_not hs]; exact hr iy
  cases o with
  | tra => obtain ⟨a, vs, e, h, l⟩ := Is.inv_tup r; exact fin e h l rfl fun i => i
  | bor => obtain ⟨a, vs, e, h, l⟩ := Is.inv_tup r; exact fin e h l rfl fun i => i
  | sh => obtain ⟨a, vs, e, h, l⟩ := Is.inv_tup r; exact fin e h l rfl fun i => i
  | one => obtain ⟨a, vs, e, h, l⟩ := Is.inv_tup r; exact fin e h l rfl fun i => i
  | all => obtain ⟨a, vs, e, h, l⟩ := Is.inv_tup r; exact fin e h l rfl fun i => i
  | tra1 => obtain ⟨a, vs, e, h, l⟩ := Is.inv_tup (show Is K A H v (.tup ds) from r); exact fin e h l rfl fun i => i
  | bor1 => obtain ⟨a, vs, e, h, l⟩ := Is.inv_tup (show Is K A H v (.tup ds) from r); exact fin e h l rfl fun i => i
theorem frz_nt (n1 : o ≠ .tra) (n2 : o ≠ .tra1) : frzO o ≠ .tra ∧ frzO o ≠ .tra1 := by
  cases o <;> first | exact absurd rfl n1 | exact absurd rfl n2 | exact ⟨by decide, by decide⟩
end

section
variable {X : Cx} {C : CallS} {tg : Expr} {pos p tpos : Pos} {a b : Expr} {ea eb : E} {elts : List Expr} {kk : Nat}
theorem held_one {K : PySem.W.Frag} {H : Hp} {o : Ow} {v : V} {d : D} {A B : Set'} (r : RepV K H o v d noA B A) : HeldL K H [(o, v, d)] B A := fun h hm => by
  rcases List.mem_cons.mp hm with rfl | hm
  · exact r
  · cases hm
theorem i_seq (hC : MonoC C) (ha : PEv X C a ea) : PIv X C tg a (.seq ea) := by
  refine (pi_seq ha).imp fun σ H R' ⟨ρ, fp, T, G, R, w⟩ => ?_
  refine tE_of hC R w fun o d ρ1 v H1 fp1 S1 q st R1 r => ?_
  obtain ⟨s0, R0, rf⟩ := freeze st R1 r
  have nt : o ≠ .tra → o ≠ .tra1 → ∀ h ∈ [(frzO o, v, d)], h.1 ≠ .tra ∧ h.1 ≠ .tra1 := fun n1 n2 h hm => by
    rcases List.mem_cons.mp hm with rfl | hm
    · exact frz_nt n1 n2
    · cases hm
  cases d <;> try exact False.elim q
  · rename_i ds
    obtain ⟨l, vs, e1, _, h1, _⟩ := r.now.inv_lst
    subst e1
    refine ⟨l, rfl, .inl ⟨⟨vs, SqL.of h1⟩, q (Itl X.K l) H1 fp1 [(frzO o, .ref l, .lst ds)] s0 R0 nt (held_one rf) fun H B A hh => ?_⟩⟩
    obtain ⟨l', vs', e2, h2, n2, it⟩ := itm_of (hh _ List.mem_cons_self)
    cases e2
    refine ⟨fun i hi => ⟨vs', SqL.of h2, by rw [n2]; exact hi⟩, fun i d ed => ?_⟩
    obtain ⟨y, ey, ry⟩ := it i d ed
    refine ⟨⟨vs', y, SqL.of h2, ey⟩, fun x H' yl => ?_⟩
    obtain ⟨rfl, yl⟩ := yl
    have e3 := yl vs' (SqL.of h2)
    rw [ey] at e3
    cases e3
    exact ⟨Keep.refl, ry⟩
  · rename_i ds
    obtain ⟨l, vs, e1, h1, _⟩ := r.now.inv_tup
    subst e1
    refine ⟨l, rfl, .inr ⟨⟨vs, h1⟩, q (Itt X.K l) H1 fp1 [(frzO o, .ref l, .tup ds)] s0 R0 nt (held_one rf) fun H B A hh => ?_⟩⟩
    obtain ⟨l', vs', e2, h2, n2, it⟩ := itm_of_tup (hh _ List.mem_cons_self)
    cases e2
    refine ⟨fun i hi => ⟨vs', h2, by rw [n2]; exact hi⟩, fun i d ed => ?_⟩
    obtain ⟨y, ey, ry⟩ := it i d ed
    refine ⟨⟨vs', y, h2, ey⟩, fun x H' yl => ?_⟩
    obtain ⟨rfl, yl⟩ := yl
    have e3 := yl vs' h2
    rw [ey] at e3
    cases e3
    exact ⟨Keep.refl, ry⟩
theorem i_enum (hC : MonoC C) (hg : Gl X "enumerate") (hm : X.mg "enumerate" = none) (ha : PEv X C a ea) (hst : noStar a = true) : PIv X C (.Tuple elts kk tpos) (.Call (.Name "enumerate" p) [a] [] pos) (.enum ea) := by
  refine (pi_enum hg hm (pa_cons ha pa_nil (star_cons hst)) (star_cons hst)).imp fun σ H R' ⟨ρ, fp, T, G, R, w⟩ => ?_
  refine tE_of hC R w fun o d ρ1 v H1 fp1 S1 q st R1 r => ?_
  obtain ⟨s0, R0, rf⟩ := freeze st R1 r
  have nt : o ≠ .tra → o ≠ .tra1 → ∀ h ∈ [(frzO o, v, d)], h.1 ≠ .tra ∧ h.1 ≠ .tra1 := fun n1 n2 h hm => by
    rcases List.mem_cons.mp hm with rfl | hm
    · exact frz_nt n1 n2
    · cases hm
  cases d <;> try exact False.elim q
  rename_i ds
  obtain ⟨l, vs, e1, _, h1, _⟩ := r.now.inv_lst
  subst e1
  refine ⟨l, vs, rfl, SqL.of h1, q (Ite X.K l) H1 fp1 [(frzO o, .ref l, .lst ds)] s0 R0 nt (held_one rf) fun H B A hh => ?_⟩
  obtain ⟨l', vs', e2, h2, n2, it⟩ := itm_of (hh _ List.mem_cons_self)
  cases e2
  refine ⟨fun i hi => ⟨vs', SqL.of h2, by rw [n2]; simpa using hi⟩, fun i d ed => ?_⟩
  rw [List.getElem?_mapIdx] at ed
  cases e4 : ds[i]? with
  | none => rw [e4] at ed; cases ed
  | some d0 =>
    rw [e4] at ed
    cases ed
    obtain ⟨y, ey, ry⟩ := it i d0 e4
    refine ⟨⟨vs', y, SqL.of h2, ey⟩, fun x H' yl => ?_⟩
    obtain ⟨t, y', rfl, ht, rfl, yl⟩ := yl
    have e3 := yl vs' (SqL.of h2)
    rw [ey] at e3
    cases e3
    have kp : Keep noA H (upd H t (.tup [.int (i : Nat), y])) := Keep.upd ht
    refine ⟨kp, ?_⟩
    have sq : SqT X.K (upd H t (.tup [.int (i : Nat), y])) t [.int (i : Nat), y] := .inl (.inl upd_same)
    have ry' := ry.still (B' := if o = .tra then noA else B) (A' := A) kp Grow.refl Grow.refl
    by_cases hs : VH.solid d0 = true
    · have hs2 : VH.solid (.tup [.int (i : Nat), d0]) = true := by simp [VH.solid, VH.solidL, hs]
      rw [nrm_solid hs2]
      exact RepV.solid hs2 (A' := noA) (.tup sq (.cons .int (.cons ry'.now .nil)))
    · have hs2 : ¬ VH.solid (.tup [.int (i : Nat), d0]) = true := by simp [VH.solid, VH.solidL, hs]
      rw [nrm_not hs] at ry'
      rw [nrm_not hs2]
      cases o <;> exact Is.tup sq (.cons .int (.cons ry' .nil))
theorem i_rng1 (hC : MonoC C) (hg : Gl X "range") (hm : X.mg "range" = none) (ha : PEv X C a ea) (hst : noStar a = true) : PIv X C tg (.Call (.Name "range" p) [a] [] pos) (.rng1 ea) := by
  refine (pi_range1 hg hm (pa_cons ha pa_nil (star_cons hst)) (star_cons hst)).imp fun σ H R' ⟨ρ, fp, T, G, R, w⟩ => ?_
  refine tE_of hC R w fun o d ρ1 v H1 fp1 S1 ⟨j, ed, z1, z2, q⟩ st R1 r => ?_
  subst ed
  rw [r.now.inv_int]
  refine ⟨j, rfl, z1, z2, q _ H1 fp1 [] (st.less fun _ z => z.elim) (R1.lessT fun a z => .inl z) (fun _ _ h hm => by cases hm) (fun h hm => by cases hm) fun H B A _ => ⟨fun i hi => by show j.toNat ≤ i; simpa only [List.length_map, List.length_range] using hi, fun i d ed => ?_⟩⟩
  rw [List.getElem?_map] at ed
  cases e4 : (List.range j.toNat)[i]? with
  | none => rw [e4] at ed; cases ed
  | some k =>
    rw [e4] at ed
    cases ed
    obtain ⟨h1, h2⟩ := List.getElem?_eq_some_iff.mp e4
    simp at h1 h2
    refine ⟨by show i < j.toNat; omega, fun x H' yl => ?_⟩
    obtain ⟨rfl, rfl⟩ := yl
    refine ⟨Keep.refl, ?_⟩
    have e5 : (0 : Int) + (i : Int) = Int.ofNat k := by rw [← h2]; simp
    rw [e5]
    exact RepV.solid rfl (A' := noA) .int
theorem i_rng2 (hC : MonoC C) (hg : Gl X "range") (hm : X.mg "range" = none) (ha : PEv X C a ea) (hb : PEv X C b eb) (hst : noStar a = true) (hst2 : noStar b = true) : PIv X C tg (.Call (.Name "range" p) [a, b] [] pos) (.rng2 ea eb) := by
  refine (pi_range2 hg hm (pa_cons ha (pa_cons hb pa_nil (star_cons hst2)) (star_cons hst)) (by rw [star_cons hst, star_cons hst2]; rfl) (star_cons hst2)).imp fun σ H R' ⟨ρ, fp, T, G, R, w⟩ => ?_
  refine tE_of hC R w fun o1 d1 ρ1 x H1 fp1 S1 ⟨i0, ed, p⟩ st R1 r1 => ?_
  subst ed
  refine tE_of hC (R1.lessT (T' := T) fun a z => .inl z) p fun o2 d2 ρ2 y H2 fp2 S2 ⟨j, ed2, z, q⟩ st2 R2 r2 => ?_
  subst ed2
  rw [r1.now.inv_int, r2.now.inv_int]
  refine ⟨i0, j, rfl, z, q _ H2 fp2 [] ((StepE.behind R st st2).less fun _ z => z.elim) (R2.lessT fun a z => .inl z) (fun _ _ h hm => by cases hm) (fun h hm => by cases hm) fun H B A _ => ⟨fun i hi => by show (j - i0).toNat ≤ i; simpa only [List.length_map, List.length_range] using hi, fun i d ed => ?_⟩⟩
  rw [List.getElem?_map] at ed
  cases e4 : (List.range (j - i0).toNat)[i]? with
  | none => rw [e4] at ed; cases ed
  | some k =>
    rw [e4] at ed
    cases ed
    obtain ⟨h1, h2⟩ := List.getElem?_eq_some_iff.mp e4
    simp at h1 h2
    refine ⟨by show i < (j - i0).toNat; omega, fun x H' yl => ?_⟩
    obtain ⟨rfl, rfl⟩ := yl
    refine ⟨Keep.refl, ?_⟩
    have e5 : i0 + (i : Int) = i0 + Int.ofNat k := by rw [← h2]; simp
    rw [e5]
    exact RepV.solid rfl (A' := noA) .int
end
end VH
namespace VH
open PySem PySem.Spec PyProof.Rows L2

def tCn (K : PySem.W.Frag) (C : CallS) (c : Eo) : TT := fun σ H Q => ∃ ρ fp T G, RepS K ρ σ H fp T G ∧ wpC C c ρ fun b ρ' => ∀ H' fp' S, StepE H fp T H' fp' S → RepS K ρ' σ H' fp' (cup T S) G → Q b H'
abbrev PTsv (X : Cx) (C : CallS) (ifs : List Expr) (c : Eo) : Prop := PTs X ifs (tCn X.K C c)
theorem _root_.L2.PTs.imp {X : Cx} {x : List Expr} {t t' : TT} (h : PTs X x t) (w : ∀ σ H Q, t' σ H Q → t σ H Q) : PTs X x t' := ⟨fun pins s σ H Q I q => h.run pins s σ H Q I (w σ H Q q)⟩
theorem c_nil {X : Cx} {C : CallS} : PTsv X C [] .nil := pts_nil.imp fun σ H Q ⟨ρ, fp, T, G, R, w⟩ => w H fp noA StepE.refl (by rw [cup_noA]; exact R)
theorem c_some {X : Cx} {C : CallS} {c : Expr} {ec : E} (h : PTv X C c ec) : PTsv X C [c] (.some ec) := (pts_one h).imp fun σ H Q ⟨ρ, fp, T, G, R, w⟩ => ⟨ρ, fp, T, G, R, w⟩

section
variable {K : PySem.W.Frag} {C : CallS} {ρ ρ1 ρ2 : Env} {σ : L2.St} {H H1 H2 H' : Hp} {fp fp1 fp2 : Fp} {T G S S1 S2 A A' B B' : Set'} {o k : Ow} {d : D} {v x : V} {vs : List V} {ds : List D} {D0 : Addr} {ho : HO}
theorem Kids.step {F : Set'} (h : Kids K H k vs ds S A) (kp : Keep F H H') (m : MutS F H) (hS : ∀ a, S a → ¬ F a) (hF : ∀ a, F a → A a) (g : Grow A A' H) : Kids K H' k vs ds S A' := by
  rcases h with ⟨e, h⟩ | ⟨e, h⟩
  · exact .inl ⟨e, h.step kp m hS⟩
  · exact .inr ⟨e, h.step kp m hF g⟩
/-- a temporary of ours is written -/
theorem RepS.writeT (R : RepS K ρ σ H fp T G) (hD : T D0) (hm : isMut ho = true) : RepS K ρ σ (upd H D0 ho) fp T G := by
  have kp : Keep (sgl D0) H (upd H D0 ho) := fun a o h n => by rw [upd_ne n]; exact h
  obtain ⟨o0, h0, m0⟩ := R.wr D0 (.inl (.inr hD))
  have mL : MutS (sgl D0) H := fun a z => by rw [z]; exact ⟨o0, h0, m0⟩
  refine ⟨R.len, fun i o d e => ?_, R.dis, R.disT, R.disG, fun a h => ?_⟩
  · obtain ⟨v, e1, nt, r⟩ := R.slot i o d e
    exact ⟨v, e1, nt, r.step kp mL nt (fun a z q => R.disT a ⟨i, z⟩ (by rw [q]; exact hD)) (fun a z => by rw [z]; exact .inr hD) (fun a z => by rw [z]; exact .inl (.inr hD)) Grow.refl Grow.refl⟩
  · by_cases e : a = D0
    · rw [e]; exact ⟨ho, upd_same, hm⟩
    · obtain ⟨o, h1, m⟩ := R.wr a h
      exact ⟨o, by rw [upd_ne e]; exact h1, m⟩
theorem turn_ok (hC : MonoC C) (R : RepS K ρ σ H fp T G) (rx : RepV K H o x d noA B A) (nt : o ≠ .tra ∧ o ≠ .tra1) (gB : ∀ a, cup (un fp) T a → B a) (gA : ∀ a, cup (cup (un fp) T) G a → A a)
    {t : Tg} {c : Eo} {e : E} (eb : bindT t o d (wipeE ρ (tgs t)) = some ρ2) {P : Option (Ow × D) → Env → Prop}
    (w : wpC C c ρ2 fun b ρ3 => if b = true then wpE C e ρ3 fun o' d' ρ4 => ∃ k, chO o' d' = some k ∧ P (some (k, d')) ρ4 else P none ρ3) {R1 : Option V → Hp → Prop}
    (h0 : ∀ ρ4 H' fp', P none ρ4 → StepE H fp T H' fp' noA → RepS K (backE ρ ρ4 (tgs t)) σ H' fp' T G → R1 none H')
    (h1 : ∀ k d' y ρ4 H' fp' S, P (some (k, d')) ρ4 → StepE H fp T H' fp' S → RepS K (backE ρ ρ4 (tgs t)) σ H' fp' (cup T S) G → Kids K H' k [y] [d'] S (cup (cup (un fp') T) G) → R1 (some y) H') :
    gT K t x (L2.wipe σ (tgs t)) H fun σ2 H2 => L2.wipe σ2 (tgs t) = L2.wipe σ (tgs t) ∧ tCn K C c σ2 H2 fun b H3 => if b = true then tE K C e σ2 H3 fun y H4 => R1 (some y) H4 else R1 none H3 := by
  have Rw := R.wipe (tgs t)
  refine bind_ok t (S := noA) (T := T) (by rw [cup_noA]; exact Rw) rx nt (by rw [cup_noA]; exact gB) (by rw [cup_noA]; exact gA) (fun _ z => z.elim) eb fun σ' fp' R' g1 hs hl => ?_
  have hsσ : ∀ j, j ∉ tgs t → σ'[j]? = σ[j]? := fun j hj => (hs j hj).trans (wipe_get hj)
  have hlσ : σ'.length = σ.length := hl.trans (wipe_length _ _)
  have st0 : StepE H fp T H fp' noA := ⟨Keep.refl, fun a z => z.elim (fun z => (g1 a z).elim .inl fun z => z.elim) fun z => z.elim, fun _ z => z.elim⟩
  refine ⟨wipe_eq hlσ hsσ, ρ2, fp', T, G, R', wpC_mono hC c _ _ _ (fun b ρ3 q H3 fp3 S3 st3 R3 => ?_) w⟩
  have s3 := StepE.behind R st0 st3
  -- back to the slots as they were
  have back : ∀ {ρ4 H4 fp4 S4}, StepE H fp T H4 fp4 S4 → RepS K ρ4 σ' H4 fp4 (cup T S4) G → RepS K (backE ρ ρ4 (tgs t)) σ H4 fp4 (cup T S4) G := fun {ρ4 H4 fp4 S4} st4 R4 =>
    R4.slots (by rw [backE_len, ← R4.len, hlσ]) fun i o d e => by
      rcases backE_get e with ⟨hi, e'⟩ | ⟨o', e', hsd, ho⟩
      · exact .inl ⟨e', (hsσ i hi).symm⟩
      · obtain ⟨v, ev, _, r⟩ := R.slot i o' d e'
        exact .inr ⟨hsd, ho, v, ev, (Own.step st4.keep R.wrF (Is.own hsd r.now) fun a z => z.elim).is fun a z => z.elim⟩
  cases b with
  | false =>
    rw [if_neg Bool.false_ne_true] at q
    show if false = true then tE K C e σ' H3 fun y H4 => R1 (some y) H4 else R1 none H3
    rw [if_neg Bool.false_ne_true]
    refine h0 ρ3 H3 fp3 q (s3.less fun _ z => z.elim) ?_
    have := (back s3 R3).lessT (T' := T) fun a z => .inl z
    exact this
  | true =>
    rw [if_pos rfl] at q
    show if true = true then tE K C e σ' H3 fun y H4 => R1 (some y) H4 else R1 none H3
    rw [if_pos rfl]
    refine ⟨ρ3, fp3, T, G, R3.lessT fun a z => .inl z, wpE_mono hC e _ _ _ (fun o' d' ρ4 ⟨k, ek, p⟩ y H4 fp4 S4 st4 R4 r4 => ?_) q⟩
    have s4 := StepE.behind R s3 st4
    exact h1 k d' y ρ4 H4 fp4 S4 p s4 (back s4 R4) (kid_one r4 ek (apart s4 R4) (lessG (K := K)))
theorem heldL_step {L : HL} {F : Set'} (h : HeldL K H L B A) (nt : ∀ h ∈ L, h.1 ≠ .tra ∧ h.1 ≠ .tra1) (kp : Keep F H H') (m : MutS F H) (hB : ∀ a, F a → B a) (hA : ∀ a, F a → A a) (gB : Grow B B' H) (gA : Grow A A' H) : HeldL K H' L B' A' :=
  fun p hm => (h p hm).step kp m (nt p hm) (fun _ z => z.elim) hB hA gB gA
theorem heldL_still {L : HL} (h : HeldL K H L B A) (kp : Keep noA H H') (gB : Grow B B' H) (gA : Grow A A' H) : HeldL K H' L B' A' := fun p hm => (h p hm).still kp gB gA

/-- what a thing gone over avoids: where nothing may be changed, the new list alone -/
def bset (p : Bool) (D0 : Addr) (Y : Set') : Set' := if p = true then sgl D0 else Y
/-- what holds between two turns of a comprehension -/
structure LcI (p : Bool) (K : PySem.W.Frag) (σ : L2.St) (H1 : Hp) (fp1 : Fp) (T G : Set') (L : HL) (D0 : Addr) (body : D → Env → (Option (Ow × D) → Env → Prop) → Prop) (ds : List D) (P : Ow → List D → Env → Prop) (i m : Nat) (H : Hp) (ρi : Env) (fpi : Fp) (ka : Ow) (da : List D) (va : List V) (Sa : Set') : Prop where
  le : i ≤ ds.length
  st : StepE H1 fp1 T H fpi (cup (sgl D0) Sa)
  rep : RepS K ρi σ H fpi (cup T (cup (sgl D0) Sa)) G
  at_ : H D0 = some (.lst va)
  nD : ¬ Sa D0
  few : va.length ≤ m
  kids : Kids K H ka va da Sa (cup (cup (un fpi) (cup T (sgl D0))) G)
  held : HeldL K H L (bset p D0 (cup (un fpi) (cup T (cup (sgl D0) Sa)))) (cup (cup (un fpi) (cup T (cup (sgl D0) Sa))) G)
  go : wpLcL body (ds.drop i) ρi fun k l ρ2 => P (minO ka k) (da ++ l) ρ2
variable {p : Bool} {L : HL} {body : D → Env → (Option (Ow × D) → Env → Prop) → Prop} {P : Ow → List D → Env → Prop} {i m m' : Nat} {ρi ρ' : Env} {fpi fp' : Fp} {ka k' : Ow} {da : List D} {va : List V} {Sa : Set'} {d' : D} {y : V}
theorem sub1 {fpi : Fp} {a : Addr} (z : cup (cup (un fpi) (cup T (sgl D0))) G a) : cup (cup (un fpi) (cup T (cup (sgl D0) Sa))) G a := by
  rcases z with (z | z | z) | z
  · exact .inl (.inl z)
  · exact .inl (.inr (.inl z))
  · exact .inl (.inr (.inr (.inl z)))
  · exact .inr z
/-- a turn that adds nothing -/
theorem LcI.skip (hm : m ≤ m') (I : LcI p K σ H1 fp1 T G L D0 body ds P i m H ρi fpi ka da va Sa) (hi : i < ds.length) (st : StepE H fpi (cup T (cup (sgl D0) Sa)) H2 fp' S2) (R2 : RepS K ρ' σ H2 fp' (cup (cup T (cup (sgl D0) Sa)) S2) G)
    (hT : ∀ a, T a → H1 a ≠ none) (hd : ∀ a, un fp1 a → ¬ T a)
    (held : HeldL K H2 L (bset p D0 (cup (un fp') (cup T (cup (sgl D0) Sa)))) (cup (cup (un fp') (cup T (cup (sgl D0) Sa))) G))
    (go : wpLcL body (ds.drop (i + 1)) ρ' fun k l ρ2 => P (minO ka k) (da ++ l) ρ2) : LcI p K σ H1 fp1 T G L D0 body ds P (i + 1) m' H2 ρ' fp' ka da va Sa where
  le := hi
  st := (I.st.trans st hT hd).less fun a z => .inl z
  rep := R2.lessT fun a z => .inl z
  at_ := st.keep _ _ I.at_ fun z => I.rep.disT D0 z (.inr (.inl rfl))
  nD := I.nD
  few := Nat.le_trans I.few hm
  kids := I.kids.step st.keep (fun a z => I.rep.wr a (.inl (.inl z))) (fun a z f => I.rep.disT a f (.inr (.inr z))) (fun a z => .inl (.inl z)) fun a z => by
    rcases z with (z | z) | z
    · exact (st.new a (.inl z)).elim (fun z => .inl (.inl (.inl z))) .inr
    · exact .inl (.inl (.inr z))
    · exact .inl (.inr z)
  held := held
  go := go
/-- a turn that adds one -/
theorem LcI.push (hm : m + 1 ≤ m') (I : LcI p K σ H1 fp1 T G L D0 body ds P i m H ρi fpi ka da va Sa) (hi : i < ds.length) (st : StepE H fpi (cup T (cup (sgl D0) Sa)) H2 fp' S2) (R2 : RepS K ρ' σ H2 fp' (cup (cup T (cup (sgl D0) Sa)) S2) G)
    (hT : ∀ a, T a → H1 a ≠ none) (hd : ∀ a, un fp1 a → ¬ T a) (hD : H1 D0 = none)
    (held : HeldL K H2 L (bset p D0 (cup (un fp') (cup T (cup (sgl D0) (cup Sa S2))))) (cup (cup (un fp') (cup T (cup (sgl D0) (cup Sa S2)))) G))
    (ntL : ∀ h ∈ L, h.1 ≠ .tra ∧ h.1 ≠ .tra1)
    (ky : Kids K H2 k' [y] [d'] S2 (cup (cup (un fp') (cup T (sgl D0))) G))
    (go : wpLcL body (ds.drop (i + 1)) ρ' fun k l ρ2 => P (minO ka (minO k' k)) (da ++ d' :: l) ρ2) :
    LcI p K σ H1 fp1 T G L D0 body ds P (i + 1) m' (upd H2 D0 (.lst (va ++ [y]))) ρ' fp' (minO ka k') (da ++ [d']) (va ++ [y]) (cup Sa S2) := by
  have atD : H2 D0 = some (.lst va) := st.keep _ _ I.at_ fun z => I.rep.disT D0 z (.inr (.inl rfl))
  have nS2 : ¬ S2 D0 := fun z => st.disS D0 z (.inr (.inl rfl))
  have dSa : ∀ a, Sa a → ¬ S2 a := fun a z q => st.disS a q (.inr (.inr z))
  have eT : cup (cup T (cup (sgl D0) Sa)) S2 = cup T (cup (sgl D0) (cup Sa S2)) := by rw [cup_assoc, cup_assoc]
  rw [eT] at R2
  have kL : Keep (sgl D0) H2 (upd H2 D0 (.lst (va ++ [y]))) := fun a o e ne => by rw [upd_ne ne]; exact e
  have mL : MutS (sgl D0) H2 := fun a z => by rw [z]; exact ⟨_, atD, rfl⟩
  have k1 : Kids K H2 ka va da Sa (cup (cup (un fp') (cup T (sgl D0))) G) := I.kids.step st.keep (fun a z => I.rep.wr a (.inl (.inl z))) (fun a z f => I.rep.disT a f (.inr (.inr z))) (fun a z => .inl (.inl z)) fun a z => by
    rcases z with (z | z) | z
    · exact (st.new a (.inl z)).elim (fun z => .inl (.inl (.inl z))) .inr
    · exact .inl (.inl (.inr z))
    · exact .inl (.inr z)
  have avoid : ∀ a, cup Sa S2 a → ¬ cup (cup (un fp') (cup T (sgl D0))) G a := fun a z q => by
    rcases q with (q | q | q) | q
    · exact R2.disT a q (.inr (.inr z))
    · rcases z with z | z
      · exact I.st.disS a (.inr z) q
      · exact st.disS a z (.inl q)
    · rw [q] at z; exact z.elim I.nD nS2
    · exact R2.disG a (.inr (.inr (.inr z))) q
  have k2 : Kids K H2 (minO ka k') (va ++ [y]) (da ++ [d']) (cup Sa S2) (cup (cup (un fp') (cup T (sgl D0))) G) := k1.append ky dSa (fun a z => avoid a (.inl z)) (fun a z => avoid a (.inr z)) fun _ z => z
  refine ⟨hi, ⟨fun a o h n => ?_, fun a z => ?_, fun a z => ?_⟩, R2.writeT (.inr (.inl rfl)) rfl, upd_same, fun z => z.elim I.nD nS2, ?_, k2.step kL mL (fun a z q => by rw [q] at z; exact z.elim I.nD nS2) (fun a z => by rw [z]; exact .inl (.inr (.inr rfl))) Grow.refl, fun q hm => ?_, ?_⟩
  · have st12 := I.st.trans st hT hd
    rw [upd_ne (ne_of_none h hD)]
    exact st12.keep a o h n
  · have st12 := I.st.trans st hT hd
    refine st12.new a ?_
    rcases z with z | z | z | z
    · exact .inl z
    · exact .inr (.inl (.inl z))
    · exact .inr (.inl (.inr z))
    · exact .inr (.inr z)
  · intro t
    rcases z with z | z | z
    · exact I.st.disS a (.inl z) t
    · exact I.st.disS a (.inr z) t
    · exact st.disS a z (.inl t)
  · rw [List.length_append]; exact Nat.le_trans (Nat.succ_le_succ I.few) hm
  · refine (held _ hm).step kL mL (ntL _ hm) (fun _ z => z.elim) (fun a z => ?_) (fun a z => by rw [z]; exact .inl (.inr (.inr (.inl rfl)))) Grow.refl Grow.refl
    rw [z]
    unfold bset
    split
    · exact rfl
    · exact .inr (.inr (.inl rfl))
  · have assoc : ∀ a b c : Ow, minO (minO a b) c = minO a (minO b c) := by
      intro a b c; cases a <;> cases b <;> cases c <;> rfl
    have e : (fun (k : Ow) (l : List D) (ρ2 : Env) => P (minO (minO ka k') k) (da ++ [d'] ++ l) ρ2) = fun k l ρ2 => P (minO ka (minO k' k)) (da ++ d' :: l) ρ2 := by
      funext k l ρ2
      rw [assoc, List.append_assoc]; rfl
    rw [e]
    exact go
end

section
variable {X : Cx} {C : CallS} {tg x elt : Expr} {ifs : List Expr} {it : It} {t : Tg} {c : Eo} {e : E}
theorem minO_left {k : Ow} (h : k = .all ∨ k = .sh) : minO .all k = k := by rcases h with rfl | rfl <;> rfl
theorem lc_ok (hC : MonoC C) {p : Bool} {K : PySem.W.Frag} {σ : L2.St} {H : Hp} {Q : VK} (w : tE K C (.lc p t it c e) σ H Q) : tLc (tI K C it) (gT K t) (tCn K C c) (tE K C e) (tgs t) σ H Q := by
  obtain ⟨ρ, fp, T, G, R, w⟩ := w
  refine ⟨ρ, fp, T, G, R, wpIt_mono hC it _ _ _ (fun o ds ρ1 ⟨hz, q⟩ J H1 fp1 L st1 R1 nt held feed D0 hD => ?_) w⟩
  have hT : ∀ a, T a → H1 a ≠ none := fun a z => R1.track (.inl (.inr z))
  have hd : ∀ a, un fp1 a → ¬ T a := fun a z => R1.disT a z
  have kp0 : Keep noA H1 (upd H1 D0 (.lst [])) := Keep.upd hD
  -- the body, the end
  let body : D → Env → (Option (Ow × D) → Env → Prop) → Prop := fun d ρ' K => if p = true then ∃ ρ2, bindT t (itmO o) d (wipeE (lock ρ') (tgs t)) = some ρ2 ∧ wpC C c ρ2 fun b ρ3 =>
          if b = true then wpE C e ρ3 fun o' d' _ => ∃ k, chO o' d' = some k ∧ K (some (k, d')) ρ' else K none ρ'
        else ∃ ρ2, bindT t (itmO o) d (wipeE ρ' (tgs t)) = some ρ2 ∧ wpC C c ρ2 fun b ρ3 =>
          if b = true then wpE C e ρ3 fun o' d' ρ4 => ∃ k, chO o' d' = some k ∧ K (some (k, d')) (backE ρ' ρ4 (tgs t)) else K none (backE ρ' ρ3 (tgs t))
  let P : Ow → List D → Env → Prop := fun k l ρ2 => PostE K σ H fp T G Q (rootO k) (.lst l) ρ2
  have hgo : wpLcL body ds ρ1 P := by
    cases p with
    | true => rw [if_pos rfl] at q; exact q
    | false => rw [if_neg Bool.false_ne_true] at q; exact q.2
  have hnt : p = false → o ≠ .tra ∧ o ≠ .tra1 := fun e => by
    subst e; rw [if_neg Bool.false_ne_true] at q; exact q.1
  -- what is gone over, as it is held through the turns
  have dn : ∃ L' : HL, (∀ h ∈ L', h.1 ≠ .tra ∧ h.1 ≠ .tra1) ∧ (∀ H A Y, HeldL K H L' (bset p D0 Y) A → HeldL K H L (bset p D0 Y) A) ∧ HeldL K H1 L' (bset p D0 (cup (un fp1) T)) (cup (cup (un fp1) T) G) := by
    cases p with
    | false => exact ⟨L, nt (hnt rfl).1 (hnt rfl).2, fun _ _ _ h => h, held⟩
    | true =>
      have gD : Grow noA (sgl D0) H1 := fun a z => by rw [z]; exact .inr hD
      refine ⟨L.map fun h => ((match h.1 with | .tra => .bor | .tra1 => .bor1 | o => o), h.2), fun h hm => ?_, fun H A Y hh h hm => ?_, fun h hm => ?_⟩
      · obtain ⟨⟨o, v, d⟩, hm, rfl⟩ := List.mem_map.mp hm
        cases o <;> exact ⟨fun e => Ow.noConfusion e, fun e => Ow.noConfusion e⟩
      · have := hh _ (List.mem_map.mpr ⟨h, hm, rfl⟩)
        obtain ⟨o, v, d⟩ := h
        cases o with
        | tra => exact Is.less this fun _ z => z.elim
        | tra1 => exact Is1.step (F := noA) Keep.refl (fun _ z => z.elim) (fun _ z => z.elim) (fun _ z => z.elim) (fun _ z => z.elim) Grow.refl this
        | _ => exact this
      · obtain ⟨⟨o, v, d⟩, hm2, rfl⟩ := List.mem_map.mp hm
        have := held _ hm2
        have m0 : MutS noA H1 := fun _ z => z.elim
        cases o with
        | tra => exact Is.step (F := noA) Keep.refl m0 (fun _ z => z.elim) gD this
        | tra1 => exact Is1.step (F := noA) Keep.refl m0 (fun _ z => z.elim) (fun _ z => z.elim) gD Grow.refl this
        | bor => exact Is.step (F := noA) Keep.refl m0 (fun _ z => z.elim) gD (Is.less this fun _ z => z.elim)
        | bor1 => exact Is1.step (F := noA) (B := noA) Keep.refl m0 (fun _ z => z.elim) (fun _ z => z.elim) gD Grow.refl (Is1.step (F := noA) Keep.refl m0 (fun _ z => z.elim) (fun _ z => z.elim) (fun _ z => z.elim) Grow.refl this)
        | _ => exact this
  obtain ⟨L', ntL, upL, held'⟩ := dn
  let Inv : Nat → Hp → Prop := fun i H => ∃ ρi fpi ka da va Sa, LcI p K σ H1 fp1 T G L' D0 body ds P i i H ρi fpi ka da va Sa
  have start : Inv 0 (upd H1 D0 (.lst [])) := by
    refine ⟨ρ1, fp1, .all, [], [], noA, Nat.zero_le _, ?_, ?_, upd_same, fun z => z, Nat.le_refl _, .inl ⟨rfl, .nil⟩, ?_, ?_⟩
    · have s := (StepE.refl (H := H1) (fp := fp1) (T := T)).grow (S2 := sgl D0) (by rw [cup_noA]; exact R1) kp0 fun a z => by rw [z]; exact hD
      have e0 : cup noA (sgl D0) = cup (sgl D0) noA := by funext a; simp [cup]
      rw [e0] at s; exact s
    · rw [cup_noA]
      exact R1.grow kp0 (fun a z => by rw [z]; exact hD) fun a z => by rw [z]; exact ⟨_, upd_same, rfl⟩
    · rw [cup_noA]
      refine heldL_still held' kp0 (fun a z => ?_) fun a z => ?_
      · unfold bset at z ⊢
        cases p with
        | true => exact .inl z
        | false =>
          rcases z with z | z | z
          · exact .inl (.inl z)
          · exact .inl (.inr z)
          · rw [z]; exact .inr hD
      · rcases z with (z | z | z) | z
        · exact .inl (.inl (.inl z))
        · exact .inl (.inl (.inr z))
        · rw [z]; exact .inr hD
        · exact .inl (.inr z)
    · have e1 : (fun (k : Ow) (l : List D) (ρ2 : Env) => P (minO .all k) ([] ++ l) ρ2) = P := by
        funext k l ρ2
        show PostE K σ H fp T G Q (rootO (minO .all k)) (.lst l) ρ2 = PostE K σ H fp T G Q (rootO k) (.lst l) ρ2
        have : rootO (minO .all k) = rootO k := by cases k <;> rfl
        rw [this]
      rw [e1]
      exact hgo
  refine ⟨fun i m H => m = ds.length - i ∧ Inv i H, ⟨ds.length, by simp, start⟩, ?_⟩
  rintro i m H2 ⟨rfl, ρi, fpi, ka, da, va, Sa, I⟩
  obtain ⟨stop, turn⟩ := feed H2 _ _ (upL _ _ _ I.held)
  by_cases hlt' : ds.length ≤ i
  · -- the end
    refine .inl ⟨stop i (by omega), ?_⟩
    have g := I.go
    rw [List.drop_of_length_le (by omega)] at g
    have g : P (minO ka .all) (da ++ []) ρi := g
    have ek : minO ka .all = ka := by
      rcases I.kids with ⟨rfl, _⟩ | ⟨rfl, _⟩ <;> rfl
    rw [List.append_nil, ek] at g
    have sB := StepE.behind (S1 := noA) R st1 I.st
    rcases I.kids with ⟨rfl, l⟩ | ⟨rfl, l⟩
    · exact g (.ref D0) H2 fpi (cup (sgl D0) Sa) sB I.rep (.lst I.at_ (.inl rfl) (fun a z => .inr z) I.nD l)
    · exact g (.ref D0) H2 fpi (sgl D0) (sB.less fun a z => .inl z) (I.rep.lessT fun a z => z.elim .inl fun z => .inr (.inl z)) ⟨D0, va, rfl, rfl, I.at_, l⟩
  · -- a turn
    have hlt : i < ds.length := by omega
    obtain ⟨go, yl⟩ := turn i ds[i] (List.getElem?_eq_getElem hlt)
    refine .inr ⟨go, fun H => Inv (i + 1) H, fun H' h => ⟨ds.length - (i + 1), by omega, rfl, h⟩, fun x H' hy => ?_⟩
    obtain ⟨kpx, rx⟩ := yl x H' hy
    have gx := I.go
    rw [List.drop_eq_getElem_cons hlt] at gx
    have RH : RepS K ρi σ H' fpi (cup T (cup (sgl D0) Sa)) G := by
      have := I.rep.grow (S := noA) kpx (fun _ z => z.elim) fun _ z => z.elim
      rw [cup_noA] at this; exact this
    have IH : LcI p K σ H1 fp1 T G L' D0 body ds P i i H' ρi fpi ka da va Sa :=
      ⟨I.le, by have := I.st.grow (S2 := noA) I.rep kpx fun _ z => z.elim
                rw [cup_noA] at this; exact this, RH, kpx _ _ I.at_ fun z => z, I.nD, I.few, I.kids.keep kpx, heldL_still I.held kpx Grow.refl Grow.refl, I.go⟩
    have rx' : RepV K H' (itmO o) x ds[i] noA (if o = .tra then noA else bset p D0 (cup (un fpi) (cup T (cup (sgl D0) Sa)))) (cup (cup (un fpi) (cup T (cup (sgl D0) Sa))) G) := by
      by_cases hs : VH.solid ds[i] = true
      · exact RepV.solid hs rx.now
      · rw [nrm_not hs] at rx; exact rx
    have hitm : itmO o ≠ .tra ∧ itmO o ≠ .tra1 := by cases o <;> exact ⟨by decide, by decide⟩
    let R1 : Option V → Hp → Prop := fun y H4 => match y with
      | none => Inv (i + 1) H4
      | some y => ∃ acc, H4 D0 = some (.lst acc) ∧ acc.length < sizeLine ∧ Inv (i + 1) (upd H4 D0 (.lst (acc ++ [y])))
    show gT K t x (L2.wipe σ (tgs t)) H' fun σ2 H2 => L2.wipe σ2 (tgs t) = L2.wipe σ (tgs t) ∧ tCn K C c σ2 H2 fun b H3 => if b = true then tE K C e σ2 H3 fun y H4 => R1 (some y) H4 else R1 none H3
    cases p with
    | false =>
      have ho := hnt rfl
      have gx : ∃ ρ2, bindT t (itmO o) ds[i] (wipeE ρi (tgs t)) = some ρ2 ∧ wpC C c ρ2 fun b ρ3 =>
          if b = true then wpE C e ρ3 fun o' d' ρ4 => ∃ k, chO o' d' = some k ∧ (wpLcL body (ds.drop (i + 1)) (backE ρi ρ4 (tgs t)) fun k2 l ρ2 => P (minO ka (minO k k2)) (da ++ d' :: l) ρ2)
          else (wpLcL body (ds.drop (i + 1)) (backE ρi ρ3 (tgs t)) fun k2 l ρ2 => P (minO ka k2) (da ++ l) ρ2) := gx
      obtain ⟨ρ2, eb, w2⟩ := gx
      rw [if_neg ho.1] at rx'
      refine turn_ok hC RH rx' hitm (fun _ z => z) (fun _ z => z) eb
        (P := fun r ρ4 => match r with
          | some (k, d') => wpLcL body (ds.drop (i + 1)) (backE ρi ρ4 (tgs t)) fun k2 l ρ2 => P (minO ka (minO k k2)) (da ++ d' :: l) ρ2
          | none => wpLcL body (ds.drop (i + 1)) (backE ρi ρ4 (tgs t)) fun k2 l ρ2 => P (minO ka k2) (da ++ l) ρ2) w2 ?_ ?_
      · intro ρ4 H4 fp4 p4 st4 R4
        have hl : HeldL K H4 L' (bset false D0 (cup (un fp4) (cup T (cup (sgl D0) Sa)))) (cup (cup (un fp4) (cup T (cup (sgl D0) Sa))) G) := heldL_step IH.held ntL st4.keep RH.wrF (fun a z => .inl z) (fun a z => .inl (.inl z))
          (fun a z => z.elim (fun z => (st4.new a (.inl z)).elim (fun z => .inl (.inl z)) .inr) fun z => .inl (.inr z))
          (fun a z => by
            rcases z with (z | z) | z
            · exact (st4.new a (.inl z)).elim (fun z => .inl (.inl (.inl z))) .inr
            · exact .inl (.inl (.inr z))
            · exact .inl (.inr z))
        exact ⟨_, fp4, ka, da, va, Sa, IH.skip (Nat.le_succ _) hlt st4 (S2 := noA) (by rw [cup_noA]; exact R4) hT hd hl p4⟩
      · intro k d' y ρ4 H4 fp4 S4 p4 st4 R4 ky
        have eT : cup (cup T (cup (sgl D0) Sa)) S4 = cup T (cup (sgl D0) (cup Sa S4)) := by rw [cup_assoc, cup_assoc]
        have hl : HeldL K H4 L' (bset false D0 (cup (un fp4) (cup T (cup (sgl D0) (cup Sa S4))))) (cup (cup (un fp4) (cup T (cup (sgl D0) (cup Sa S4)))) G) := by
          rw [← eT]
          exact heldL_step IH.held ntL st4.keep RH.wrF (fun a z => .inl z) (fun a z => .inl (.inl z))
            (fun a z => by
              rcases z with z | z | z
              · exact (st4.new a (.inl z)).elim (fun z => .inl (.inl z)) .inr
              · exact .inl (.inr z)
              · exact (st4.new a (.inr z)).elim (fun z => .inl (.inl z)) .inr)
            (fun a z => by
              rcases z with (z | z | z) | z
              · exact (st4.new a (.inl z)).elim (fun z => .inl (.inl (.inl z))) .inr
              · exact .inl (.inl (.inr z))
              · exact (st4.new a (.inr z)).elim (fun z => .inl (.inl (.inl z))) .inr
              · exact .inl (.inr z))
        have atD : H4 D0 = some (.lst va) := st4.keep _ _ IH.at_ fun z => RH.disT D0 z (.inr (.inl rfl))
        refine ⟨va, atD, Nat.lt_of_le_of_lt I.few (by omega), _, fp4, minO ka k, da ++ [d'], va ++ [y], cup Sa S4, IH.push (Nat.le_refl _) hlt st4 R4 hT hd hD hl ntL (ky.mono (fun _ z => z) fun a z => ?_) p4⟩
        · rcases z with (z | z | z) | z
          · exact .inl (.inl z)
          · exact .inl (.inr (.inl z))
          · exact .inl (.inr (.inr (.inl z)))
          · exact .inr z
    | true =>
      have gx : ∃ ρ2, bindT t (itmO o) ds[i] (wipeE (lock ρi) (tgs t)) = some ρ2 ∧ wpC C c ρ2 fun b ρ3 =>
          if b = true then wpE C e ρ3 fun o' d' ρ4 => ∃ k, chO o' d' = some k ∧ (wpLcL body (ds.drop (i + 1)) ρi fun k2 l ρ2 => P (minO ka (minO k k2)) (da ++ d' :: l) ρ2)
          else (wpLcL body (ds.drop (i + 1)) ρi fun k2 l ρ2 => P (minO ka k2) (da ++ l) ρ2) := gx
      obtain ⟨ρ2, eb, w2⟩ := gx
      have rl : RepV K H' (itmO o) x ds[i] noA noA (cup (cup (un fpi) (cup T (cup (sgl D0) Sa))) G) := rx'.fewer (fun _ z => z.elim) fun _ z => z
      have un0 : ∀ {a}, cup (un nofp) noA a → noA a := fun {a} z => by
        rcases z with ⟨_, z⟩ | z
        · exact z
        · exact z
      refine turn_ok hC RH.lock rl hitm (fun a z => un0 z) (fun a z => z.elim (fun z => (un0 z).elim) fun z => z) eb
        (P := fun r ρ4 => match r with
          | some (k, d') => wpLcL body (ds.drop (i + 1)) ρi fun k2 l ρ2 => P (minO ka (minO k k2)) (da ++ d' :: l) ρ2
          | none => wpLcL body (ds.drop (i + 1)) ρi fun k2 l ρ2 => P (minO ka k2) (da ++ l) ρ2) w2 ?_ ?_
      · intro ρ4 H4 fp4 p4 st4 R4
        have kp4 : Keep noA H' H4 := fun a o h n => st4.keep a o h (by rw [un_nofp]; exact n)
        have R5 := RH.grow (S := noA) kp4 (fun _ z => z.elim) fun _ z => z.elim
        have st5 : StepE H' fpi (cup T (cup (sgl D0) Sa)) H4 fpi noA := ⟨fun a o h n => kp4 a o h fun z => z, fun a z => z.elim .inl fun z => z.elim, fun _ z => z.elim⟩
        exact ⟨_, fpi, ka, da, va, Sa, IH.skip (Nat.le_succ _) hlt st5 R5 hT hd (heldL_still IH.held kp4 Grow.refl Grow.refl) p4⟩
      · intro k d' y ρ4 H4 fp4 S4 p4 st4 R4 ky
        have kp4 : Keep noA H' H4 := fun a o h n => st4.keep a o h (by rw [un_nofp]; exact n)
        have hn4 : ∀ a, S4 a → H' a = none := fun a z => (st4.new a (.inr z)).elim (fun q => by rw [un_nofp] at q; exact q.elim) id
        have hm4 : MutS S4 H4 := fun a z => R4.wr a (.inl (.inr (.inr z)))
        have R5 := RH.grow (S := S4) kp4 hn4 hm4
        have st5 : StepE H' fpi (cup T (cup (sgl D0) Sa)) H4 fpi S4 := ⟨fun a o h n => kp4 a o h fun z => z, fun a z => z.elim .inl fun z => .inr (hn4 a z), fun a z q => RH.track (.inl (.inr q)) (hn4 a z)⟩
        have eT : cup (cup T (cup (sgl D0) Sa)) S4 = cup T (cup (sgl D0) (cup Sa S4)) := by rw [cup_assoc, cup_assoc]
        have gA : Grow (cup (cup (un fpi) (cup T (cup (sgl D0) Sa))) G) (cup (cup (un fpi) (cup T (cup (sgl D0) (cup Sa S4)))) G) H' := fun a z => by
          rw [← eT] at z
          rcases z with (z | z | z) | z
          · exact .inl (.inl (.inl z))
          · exact .inl (.inl (.inr z))
          · exact .inr (hn4 a z)
          · exact .inl (.inr z)
        have hl := heldL_still (B' := bset true D0 (cup (un fpi) (cup T (cup (sgl D0) (cup Sa S4))))) IH.held kp4 (fun a z => .inl z) gA
        have atD : H4 D0 = some (.lst va) := kp4 _ _ IH.at_ fun z => z
        refine ⟨va, atD, Nat.lt_of_le_of_lt I.few (by omega), _, fpi, minO ka k, da ++ [d'], va ++ [y], cup Sa S4, IH.push (Nat.le_refl _) hlt st5 R5 hT hd hD hl ntL (ky.mono (fun _ z => z) fun a z => .inr (sub1 z)) p4⟩
end
end VH
namespace VH
open PySem PySem.Spec PyProof.Rows L2

/-- what is handed back is ours or frozen -/
def ResC (C : CallS) : Prop := ∀ f l Q, C f l Q → C f l fun o d outs => oursO o = true ∧ Q o d outs
/-- the promise of the def number f -/
def spC (K : PySem.W.Frag) (C : CallS) (f np : Nat) : Sp := fun vs H Q _ => vs.length = np ∧ ∃ (args : List (Ow × D)) (fp : Fp) (G : Set'), args.length = np ∧ RepS K (args.map some) (vs.map some) H fp noA G ∧
  C f args (PostE K (vs.map some) H fp noA G Q)
/-- the text's defs, by number: name, number of parameters; each keeps its promise -/
structure Defs (P : Program) (w : World) (K : PySem.W.Frag) (mg : Str → Option Value) (base : Heap) (C : CallS) (nm : Nat → Option (Str × Nat)) (k : Nat) : Prop where
  ok : ∀ f x np, nm f = some (x, np) → ∃ (a : Addr) (fd : FuncData) (ps : List Str), FnOk P w K mg base CX0 k a fd ps (spC K C f np) ∧ mg x = some (.ref a) ∧ PySem.W.keepIn K (.ref a) = true ∧ Binds K fd ps []

section
variable {K : PySem.W.Frag} {C : CallS} {ρ ρ1 : Env} {σ : L2.St} {H H' H1 : Hp} {fp fp1 : Fp} {T T' G S S1 A A' B B' : Set'} {o : Ow} {d : D} {v : V}
def consFp (S : Set') (fp : Fp) : Fp := fun i => match i with
  | 0 => S
  | i + 1 => fp i
theorem un_cons {a : Addr} : un (consFp S fp) a ↔ S a ∨ un fp a := by
  constructor
  · rintro ⟨i, h⟩
    cases i with
    | zero => exact .inl h
    | succ i => exact .inr ⟨i, h⟩
  · rintro (h | ⟨i, h⟩)
    · exact ⟨0, h⟩
    · exact ⟨i + 1, h⟩
/-- the arguments of a call that changes nothing: held as the callee's slots -/
def tArgs (K : PySem.W.Frag) (C : CallS) (es : Es) : TA := fun σ H R => ∃ ρ T G, RepS K ρ σ H nofp T G ∧ wpArgs C es ρ fun l => ∀ vs H' fpc, Keep noA H H' → (∀ a, un fpc a → H a = none) → RepS K (l.map some) (vs.map some) H' fpc T G → vs.length = l.length → R vs H'
abbrev PArgs (X : Cx) (C : CallS) (xs : List Expr) (es : Es) : Prop := PA X xs (tArgs X.K C es)
/-- one more slot in front -/
theorem RepS.front {ρ : Env} {σ : L2.St} (R : RepS K ρ σ H fp (cup T S) G) (nt : o ≠ .tra ∧ o ≠ .tra1) (hT : ∀ a, S a → ¬ T a)
    (r : RepV K H o v d S (cup (un (consFp S fp)) T) (cup (cup (un (consFp S fp)) T) G)) : RepS K (some (o, d) :: ρ) (some v :: σ) H (consFp S fp) T G where
  len := by simp [R.len]
  slot := fun i o' d' e => by
    cases i with
    | zero =>
      simp only [List.getElem?_cons_zero, Option.some.injEq, Prod.mk.injEq] at e
      obtain ⟨rfl, rfl⟩ := e
      exact ⟨v, rfl, nt, r⟩
    | succ i =>
      simp only [List.getElem?_cons_succ] at e
      obtain ⟨v', e1, nt', r'⟩ := R.slot i o' d' e
      refine ⟨v', by simpa using e1, nt', r'.fewer (fun a z => ?_) fun a z => ?_⟩
      · rcases z with z | z
        · exact (un_cons.mp z).elim (fun z => .inr (.inr z)) .inl
        · exact .inr (.inl z)
      · rcases z with (z | z) | z
        · exact (un_cons.mp z).elim (fun z => .inl (.inr (.inr z))) fun z => .inl (.inl z)
        · exact .inl (.inr (.inl z))
        · exact .inr z
  dis := fun i j a h1 h2 => by
    cases i with
    | zero =>
      cases j with
      | zero => rfl
      | succ j => exact (R.disT a ⟨j, h2⟩ (.inr h1)).elim
    | succ i =>
      cases j with
      | zero => exact (R.disT a ⟨i, h1⟩ (.inr h2)).elim
      | succ j => rw [R.dis i j a h1 h2]
  disT := fun a z t => (un_cons.mp z).elim (fun z => hT a z t) fun z => R.disT a z (.inl t)
  disG := fun a z g => by
    rcases z with z | z
    · exact (un_cons.mp z).elim (fun z => R.disG a (.inr (.inr z)) g) fun z => R.disG a (.inl z) g
    · exact R.disG a (.inr (.inl z)) g
  wr := fun a z => by
    rcases z with (z | z) | z
    · exact (un_cons.mp z).elim (fun z => R.wr a (.inl (.inr (.inr z)))) fun z => R.wr a (.inl (.inl z))
    · exact R.wr a (.inl (.inr (.inl z)))
    · exact R.wr a (.inr z)
theorem asgO_rep {o' : Ow} (r : RepV K H o v d S B A) (e : asgO o d = some o') : (o' ≠ .tra ∧ o' ≠ .tra1) ∧ RepV K H o' v d S B A := by
  unfold asgO at e
  split at e
  · rename_i hs
    cases e
    exact ⟨⟨by decide, by decide⟩, RepV.solid hs r.now⟩
  · cases o <;> simp at e <;> subst e <;> exact ⟨⟨by decide, by decide⟩, r⟩
end
section
variable {X : Cx} {C : CallS} {pos p : Pos} {a : Expr} {ea : E} {xs : List Expr} {es : Es} {as : As} {x : Str}
theorem g_nil : PArgs X C [] .nil := pa_nil.imp fun σ H R' ⟨ρ, T, G, R, w⟩ => w [] H nofp Keep.refl (fun a z => by rw [un_nofp] at z; exact z.elim)
  ⟨rfl, fun i o d e => by simp at e, fun _ _ _ z => z.elim, fun a z => by rw [un_nofp] at z; exact z.elim, R.disG, R.wr⟩ rfl
theorem g_cons (hC : MonoC C) (ha : PEv X C a ea) (hs : PArgs X C xs es) (hst : noStar a = true) : PArgs X C (a :: xs) (.cons ea es) := by
  refine (pa_cons ha hs (star_cons hst)).imp fun σ H R' ⟨ρ, T, G, R, w⟩ => ?_
  refine tE_of hC R w fun o d ρ1 v H1 fp1 S1 ⟨o', eo, p⟩ st R1 r1 => ?_
  have kp : Keep noA H H1 := fun a o h n => st.keep a o h (by rw [un_nofp]; exact n)
  have hn : ∀ a, S1 a → H a = none := fun a z => (st.new a (.inr z)).elim (fun q => by rw [un_nofp] at q; exact q.elim) id
  have RS := R.grow kp hn fun a z => R1.wr a (.inl (.inr (.inr z)))
  obtain ⟨nt, r1'⟩ := asgO_rep r1 eo
  refine ⟨ρ, cup T S1, G, RS, wpArgs_mono hC es _ _ _ (fun l q vs H2 fpc k2 hn2 R2 hl => ?_) p⟩
  have gB : Grow (cup (un fp1) (cup T S1)) (cup (un (consFp S1 fpc)) T) H1 := fun a z => by
    rcases z with z | z
    · exact (un_cons.mp z).elim (fun z => .inl (.inr (.inr z))) fun z => .inr (hn2 a z)
    · exact .inl (.inr (.inl z))
  have gA : Grow (cup (cup (un fp1) (cup T S1)) G) (cup (cup (un (consFp S1 fpc)) T) G) H1 := fun a z => z.elim (fun z => (gB a z).elim (fun z => .inl (.inl z)) .inr) fun z => .inl (.inr z)
  refine q (v :: vs) H2 (consFp S1 fpc) (fun a o h n => k2 a o (kp a o h n) n) (fun a z => ?_) (R2.front nt st.disS (r1'.still k2 gB gA)) (by simp [hl])
  rcases un_cons.mp z with z | z
  · exact hn a z
  · have h1 := hn2 a z
    cases e : H a with
    | none => rfl
    | some o => rw [kp a o e fun z => z] at h1; cases h1
theorem v_callP (hC : MonoC C) (hres : ResC C) {nm : Nat → Option (Str × Nat)} {k : Nat} (F : Defs X.prog X.w X.K X.mg X.base C nm k) (hr : Room k X.A) {f np : Nat} (hf : nm f = some (x, np)) (hg : Gl X x) (hdb : (x == ("__debug__" : Str)) = false)
    (hs : PArgs X C (a :: xs) es) (hst : noStar a = true) (hst2 : xs.all noStar = true) (hl : (a :: xs).length = np) (hes : ∀ {ρ Q}, wpArgs C es ρ Q → wpArgs C es ρ fun l => l.length = np ∧ Q l) : PEv X C (.Call (.Name x p) (a :: xs) [] pos) (.callP f es) := by
  obtain ⟨ad, fd, ps, Fn, hm, hk, hb⟩ := F.ok f x np hf
  refine (pe_call Fn hr hg hm hk hb .nil pass0 hs hdb (star_cons hst) (star_any hst2)).imp fun σ H Q ⟨ρ, fp, T, G, R, w⟩ => ?_
  refine ⟨lock ρ, noA, _, R.lock, wpArgs_mono hC es _ _ _ (fun l ⟨hl2, q⟩ vs H1 fpc k1 hn1 R1 hlv => ?_) (hes w)⟩
  refine ⟨by simp [hlv, hl2], l, fpc, _, hl2, by rw [List.append_nil]; exact R1, hC f l _ _ (fun o d outs ⟨ho, q⟩ v H2 fp2 S st R2 r => ?_) (hres f l _ q)⟩
  have kp : Keep noA H H2 := fun a u h n => st.keep a u (k1 a u h n) fun z => by
    rw [hn1 a z] at h; cases h
  have hn : ∀ a, S a → H a = none := fun a z => by
    have back : H1 a = none → H a = none := fun h1 => by
      cases e : H a with
      | none => rfl
      | some o => rw [k1 a o e fun z => z] at h1; cases h1
    exact (st.new a (.inr z)).elim (fun z => hn1 a z) back
  have RS := R.grow kp hn fun a z => R2.wr a (.inl (.inr (.inr z)))
  have sub : ∀ a, cup (cup (un fp) (cup T S)) G a → cup (cup (un fp2) (cup noA S)) (cup (cup (un fp) T) G) a := fun a z => by
    rcases z with (z | z | z) | z
    · exact .inr (.inl (.inl z))
    · exact .inr (.inl (.inr z))
    · exact .inl (.inr (.inr z))
    · exact .inr (.inr z)
  refine q v H2 fp S ⟨fun a u h n => kp a u h fun z => z, fun a z => z.elim .inl fun z => .inr (hn a z), fun a z t => R.track (.inl (.inr t)) (hn a z)⟩ RS ?_
  cases o with
  | sh => exact Is.less r sub
  | one => exact One.step (F := noA) Keep.refl (fun _ z => z.elim) (fun _ _ z => z) (fun _ z => z.elim) (fun a z => .inl (sub a z)) r
  | all => exact r
  | tra => cases ho
  | tra1 => cases ho
  | bor => cases ho
  | bor1 => cases ho
end
end VH
namespace VH
open PySem PySem.Spec PyProof.Rows L2

abbrev AL := List (Nat ⊕ (Ow × D))
section
variable {K : PySem.W.Frag} {C : CallS} {ρ ρ1 ρ2 : Env} {σ : L2.St} {H H' H1 : Hp} {fp fp1 : Fp} {T T' G S S1 A A' B B' : Set'} {o : Ow} {d : D} {v : V} {l : AL}
theorem mem_lends {i : Nat} : ∀ {l : AL} {p : Nat}, l[p]? = some (.inl i) → i ∈ lends l
  | [], _, h => by simp at h
  | .inl j :: r, 0, h => by simp at h; subst h; simp [lends]
  | .inr _ :: r, 0, h => by simp at h
  | .inl j :: r, p + 1, h => by simp at h; simp [lends, mem_lends h]
  | .inr _ :: r, p + 1, h => by simp at h; simp [lends, mem_lends h]
theorem lends_at {i : Nat} : ∀ {l : AL}, i ∈ lends l → ∃ p : Nat, l[p]? = some (.inl i)
  | [], h => by simp [lends] at h
  | .inl j :: r, h => by
    simp only [lends, List.mem_cons] at h
    rcases h with rfl | h
    · exact ⟨0, rfl⟩
    · obtain ⟨p, e⟩ := lends_at h; exact ⟨p + 1, by simpa using e⟩
  | .inr _ :: r, h => by
    obtain ⟨p, e⟩ := lends_at (l := r) h; exact ⟨p + 1, by simpa using e⟩
theorem lends_inj {i : Nat} : ∀ {l : AL} {p q : Nat}, (lends l).Nodup → l[p]? = some (.inl i) → l[q]? = some (.inl i) → p = q
  | [], _, _, _, h, _ => by simp at h
  | .inl j :: r, 0, 0, _, _, _ => rfl
  | .inl j :: r, 0, q + 1, n, h1, h2 => by
    simp at h1 h2; subst h1
    simp only [lends, List.nodup_cons] at n
    exact (n.1 (mem_lends h2)).elim
  | .inl j :: r, p + 1, 0, n, h1, h2 => by
    simp at h1 h2; subst h2
    simp only [lends, List.nodup_cons] at n
    exact (n.1 (mem_lends h1)).elim
  | .inl j :: r, p + 1, q + 1, n, h1, h2 => by
    simp at h1 h2
    simp only [lends, List.nodup_cons] at n
    rw [lends_inj n.2 h1 h2]
  | .inr _ :: r, 0, _, _, h1, _ => by simp at h1
  | .inr _ :: r, p + 1, 0, _, _, h2 => by simp at h2
  | .inr _ :: r, p + 1, q + 1, n, h1, h2 => by
    simp at h1 h2
    rw [lends_inj (l := r) n h1 h2]
theorem resolve_get : ∀ {l : AL} {args : List (Ow × D)}, resolve ρ l = some args → args.length = l.length ∧ (∀ (p i : Nat), l[p]? = some (.inl i) → ∃ q : Ow × D, ρ[i]? = some (some q) ∧ oursO q.1 = true ∧ args[p]? = some q) ∧ ∀ (p : Nat) (q : Ow × D), l[p]? = some (.inr q) → args[p]? = some q
  | [], args, h => by simp [resolve] at h; subst h; simp
  | .inl i :: r, args, h => by
    unfold resolve at h
    cases e : ρ[i]? with
    | none => rw [e] at h; cases h
    | some x =>
      rw [e] at h
      cases x with
      | none => cases h
      | some p =>
        simp only at h
        split at h
        · rename_i ho
          cases e2 : resolve ρ r with
          | none => rw [e2] at h; cases h
          | some as =>
            rw [e2] at h
            cases h
            obtain ⟨h1, h2, h3⟩ := resolve_get e2
            refine ⟨by simp [h1], fun q j hq => ?_, fun q x hq => ?_⟩
            · cases q with
              | zero => simp at hq; subst hq; exact ⟨p, e, ho, rfl⟩
              | succ q => exact h2 q j (by simpa using hq)
            · cases q with
              | zero => simp at hq
              | succ q => exact h3 q x (by simpa using hq)
        · cases h
  | .inr p :: r, args, h => by
    unfold resolve at h
    cases e2 : resolve ρ r with
    | none => rw [e2] at h; cases h
    | some as =>
      rw [e2] at h
      cases h
      obtain ⟨h1, h2, h3⟩ := resolve_get e2
      refine ⟨by simp [h1], fun q j hq => ?_, fun q x hq => ?_⟩
      · cases q with
        | zero => simp at hq
        | succ q => exact h2 q j (by simpa using hq)
      · cases q with
        | zero => simp at hq; subst hq; rfl
        | succ q => exact h3 q x (by simpa using hq)
theorem giveBack_get : ∀ {l : AL} {outs : List (Option (Ow × D))} {ρ2 : Env}, giveBack l outs ρ = some ρ2 → ρ2.length = ρ.length ∧
    ∀ (j : Nat) (q : Ow × D), ρ2[j]? = some (some q) → (∃ p : Nat, l[p]? = some (.inl j) ∧ outs[p]? = some (some q) ∧ oursO q.1 = true) ∨ (j ∉ lends l ∧ ρ[j]? = some (some q))
  | [], outs, ρ2, h => by
    simp [giveBack] at h; subst h
    exact ⟨rfl, fun j q e => .inr ⟨by simp [lends], e⟩⟩
  | .inl i :: r, [], ρ2, h => by simp [giveBack] at h
  | .inl i :: r, none :: outs, ρ2, h => by simp [giveBack] at h
  | .inl i :: r, some p :: outs, ρ2, h => by
    unfold giveBack at h
    split at h
    · rename_i ho
      cases e : giveBack r outs ρ with
      | none => rw [e] at h; cases h
      | some ρ' =>
        rw [e] at h
        cases h
        obtain ⟨h1, h2⟩ := giveBack_get e
        refine ⟨by simp [h1], fun j q hq => ?_⟩
        by_cases hj : i = j
        · subst hj
          have hlt : i < ρ'.length := by
            have := (List.getElem?_eq_some_iff.mp hq).1
            rwa [List.length_set] at this
          rw [List.getElem?_set_self hlt] at hq
          have hq := Option.some.inj (Option.some.inj hq)
          subst hq
          exact .inl ⟨0, rfl, rfl, ho⟩
        · rw [List.getElem?_set_ne hj] at hq
          rcases h2 j q hq with ⟨p', a, b, c⟩ | ⟨a, b⟩
          · exact .inl ⟨p' + 1, by simpa using a, by simpa using b, c⟩
          · exact .inr ⟨by simp [lends, a, Ne.symm hj], b⟩
    · cases h
  | .inr _ :: r, [], ρ2, h => by simp [giveBack] at h
  | .inr _ :: r, x :: outs, ρ2, h => by
    have h : giveBack r outs ρ = some ρ2 := by cases x <;> simpa [giveBack] using h
    obtain ⟨h1, h2⟩ := giveBack_get h
    refine ⟨h1, fun j q hq => ?_⟩
    rcases h2 j q hq with ⟨p', a, b, c⟩ | ⟨a, b⟩
    · exact .inl ⟨p' + 1, by simpa using a, by simpa using b, c⟩
    · exact .inr ⟨by simpa [lends] using a, b⟩
theorem ours_any (ho : oursO o = true) (r : RepV K H o v d S B A) (g : ∀ a, A' a → A a) : RepV K H o v d S B' A' := by
  cases o with
  | sh => exact Is.less r g
  | one => exact One.step (F := noA) Keep.refl (fun _ z => z.elim) (fun _ _ z => z) (fun _ z => z.elim) (fun a z => .inl (g a z)) r
  | all => exact r
  | tra => cases ho
  | tra1 => cases ho
  | bor => cases ho
  | bor1 => cases ho
/-- the arguments as they are held: lent slots, temporaries -/
structure ItemsOk (K : PySem.W.Frag) (σ : L2.St) (H : Hp) (l : AL) (vs : List V) (Sv : Fp) (B A : Set') : Prop where
  len : vs.length = l.length
  lent : ∀ (p i : Nat), l[p]? = some (.inl i) → ∃ v, vs[p]? = some v ∧ σ[i]? = some (some v)
  val : ∀ (p : Nat) (o : Ow) (d : D), l[p]? = some (.inr (o, d)) → ∃ v, vs[p]? = some v ∧ (o ≠ .tra ∧ o ≠ .tra1) ∧ RepV K H o v d (Sv p) B A
  dj : ∀ (p q : Nat) (a : Addr), Sv p a → Sv q a → p = q
def tAs (K : PySem.W.Frag) (C : CallS) (as : As) : TA := fun σ H R => ∃ ρ fp T G, RepS K ρ σ H fp T G ∧ wpAs C as ρ fun l ρ1 => ∀ vs H' fp' Sv, StepE H fp T H' fp' (un Sv) → RepS K ρ1 σ H' fp' (cup T (un Sv)) G →
  ItemsOk K σ H' l vs Sv (cup (un fp') (cup T (un Sv))) (cup (cup (un fp') (cup T (un Sv))) G) → R vs H'
end
abbrev PAs (X : Cx) (C : CallS) (xs : List Expr) (as : As) : Prop := PA X xs (tAs X.K C as)
section
variable {X : Cx} {C : CallS} {pos p : Pos} {a : Expr} {ea : E} {xs : List Expr} {as : As} {x : Str}
theorem s_nil : PAs X C [] .nil := pa_nil.imp fun σ H R' ⟨ρ, fp, T, G, R, w⟩ => w [] H fp nofp (by rw [un_nofp]; exact StepE.refl) (by rw [un_nofp, cup_noA]; exact R)
  ⟨rfl, fun p i h => by simp at h, fun p o d h => by simp at h, fun _ _ _ z => z.elim⟩
theorem s_lend {i : Nat} {x : Str} (hC : MonoC C) (hN : X.N[i]? = some x) (hv : Vis X.env.scope x) (hd : (x == ("__debug__" : Str)) = false) (hcd : (x == ("__classdict__" : Str)) = false) (hs : PAs X C xs as) : PAs X C (.Name x p :: xs) (.lend i as) := by
  refine (pa_cons (pe_var hN hv hd hcd) hs (star_cons rfl)).imp fun σ H R' ⟨ρ, fp, T, G, R, ⟨⟨o0, d0⟩, e0⟩, w⟩ => ?_
  obtain ⟨v, ev, _, _⟩ := R.slot i o0 d0 e0
  refine ⟨v, ev, ρ, fp, T, G, R, wpAs_mono hC as _ _ _ (fun l ρ1 q vs H' fp' Sv st R1 it => ?_) w⟩
  have eu : un (consFp noA Sv) = un Sv := by funext a; exact propext ⟨fun z => (un_cons.mp z).elim (fun z => z.elim) id, fun z => un_cons.mpr (.inr z)⟩
  refine q (v :: vs) H' fp' (consFp noA Sv) (by rw [eu]; exact st) (by rw [eu]; exact R1) ⟨by simp [it.len], fun p j h => ?_, fun p o d h => ?_, fun p q a h1 h2 => ?_⟩
  · cases p with
    | zero => simp at h; subst h; exact ⟨v, rfl, ev⟩
    | succ p => exact it.lent p j (by simpa using h)
  · rw [eu]
    cases p with
    | zero => simp at h
    | succ p => exact it.val p o d (by simpa using h)
  · cases p with
    | zero => exact h1.elim
    | succ p =>
      cases q with
      | zero => exact h2.elim
      | succ q => rw [it.dj p q a h1 h2]
theorem s_val (hC : MonoC C) (ha : PEv X C a ea) (hs : PAs X C xs as) (hst : noStar a = true) : PAs X C (a :: xs) (.val ea as) := by
  refine (pa_cons ha hs (star_cons hst)).imp fun σ H R' ⟨ρ, fp, T, G, R, w⟩ => ?_
  refine tE_of hC R w fun o d ρ1 v H1 fp1 S1 ⟨o', eo, p⟩ st R1 r1 => ?_
  obtain ⟨nt, r1'⟩ := asgO_rep r1 eo
  refine ⟨ρ1, fp1, cup T S1, G, R1, wpAs_mono hC as _ _ _ (fun l ρ2 q vs H2 fp2 Sv st2 R2 it => ?_) p⟩
  have eu : un (consFp S1 Sv) = cup S1 (un Sv) := by funext a; exact propext un_cons
  rw [cup_assoc, ← eu] at R2 it
  have st12 := st.trans st2 (fun a z => R.track (.inl (.inr z))) fun a z => R.disT a z
  rw [← eu] at st12
  have r2 := RepV.over R1 st2 nt r1'
  rw [← eu] at r2
  refine q (v :: vs) H2 fp2 (consFp S1 Sv) st12 R2 ⟨by simp [it.len], fun p j h => ?_, fun p o'' d' h => ?_, fun p q a h1 h2 => ?_⟩
  · cases p with
    | zero => simp at h
    | succ p => exact it.lent p j (by simpa using h)
  · cases p with
    | zero =>
      simp at h
      obtain ⟨rfl, rfl⟩ := h
      exact ⟨v, rfl, nt, r2⟩
    | succ p => exact it.val p o'' d' (by simpa using h)
  · cases p with
    | zero =>
      cases q with
      | zero => rfl
      | succ q => exact (st2.disS a ⟨q, h2⟩ (.inr h1)).elim
    | succ p =>
      cases q with
      | zero => exact (st2.disS a ⟨p, h1⟩ (.inr h2)).elim
      | succ q => rw [it.dj p q a h1 h2]
theorem v_callX (hC : MonoC C) (hres : ResC C) {nm : Nat → Option (Str × Nat)} {k : Nat} (F : Defs X.prog X.w X.K X.mg X.base C nm k) (hr : Room k X.A) {f np : Nat} (hf : nm f = some (x, np)) (hg : Gl X x) (hdb : (x == ("__debug__" : Str)) = false)
    (hs : PAs X C (a :: xs) as) (hst : noStar a = true) (hst2 : xs.all noStar = true) (hes : ∀ {ρ Q}, wpAs C as ρ Q → wpAs C as ρ fun l ρ1 => l.length = np ∧ Q l ρ1) : PEv X C (.Call (.Name x p) (a :: xs) [] pos) (.callX f as) := by
  obtain ⟨ad, fd, ps, Fn, hm, hk, hb⟩ := F.ok f x np hf
  refine (pe_call Fn hr hg hm hk hb .nil pass0 hs hdb (star_cons hst) (star_any hst2)).imp fun σ H Q ⟨ρ, fp, T, G, R, w⟩ => ?_
  refine ⟨ρ, fp, T, G, R, wpAs_mono hC as _ _ _ (fun l ρ1 ⟨hl, hnd, args, ea, q⟩ vs H1 fp1 Sv st R1 it => ?_) (hes w)⟩
  obtain ⟨hla, rl, rv⟩ := resolve_get ea
  rw [List.append_nil]
  -- the callee's slots
  let fpc : Fp := fun p => match l[p]? with
    | some (.inl i) => fp1 i
    | _ => Sv p
  let fpn : Fp := fun j => fun a => j ∉ lends l ∧ fp1 j a
  let Gc : Set' := cup (cup (un fpn) T) G
  have fpc_cases : ∀ (p : Nat) (a : Addr), fpc p a → (∃ i, l[p]? = some (.inl i) ∧ fp1 i a) ∨ Sv p a := fun p a z => by
    cases e : l[p]? with
    | none =>
      have z' : (match l[p]? with | some (.inl i) => fp1 i | _ => Sv p) a := z
      rw [e] at z'; exact .inr z'
    | some y =>
      have z' : (match l[p]? with | some (.inl i) => fp1 i | _ => Sv p) a := z
      rw [e] at z'
      cases y with
      | inl i => exact .inl ⟨i, rfl, z'⟩
      | inr q => exact .inr z'
  have fpc_lent : ∀ (p i : Nat), l[p]? = some (.inl i) → fpc p = fp1 i := fun p i e => by
    show (match l[p]? with | some (.inl i) => fp1 i | _ => Sv p) = fp1 i
    rw [e]
  have fpc_val : ∀ (p : Nat) (q : Ow × D), l[p]? = some (.inr q) → fpc p = Sv p := fun p q e => by
    show (match l[p]? with | some (.inl i) => fp1 i | _ => Sv p) = Sv p
    rw [e]
  have un_fpc : ∀ a, un fpc a → un fp1 a ∨ un Sv a := fun a ⟨p, z⟩ => by
    rcases fpc_cases p a z with ⟨i, _, z⟩ | z
    · exact .inl ⟨i, z⟩
    · exact .inr ⟨p, z⟩
  have dTS : ∀ a, un Sv a → ¬ T a := st.disS
  have subG : ∀ a, Gc a → cup (cup (un fp1) (cup T (un Sv))) G a := fun a z => by
    rcases z with (⟨j, z⟩ | z) | z
    · exact .inl (.inl ⟨j, z.2⟩)
    · exact .inl (.inr (.inl z))
    · exact .inr z
  have RC : RepS X.K (args.map some) (vs.map some) H1 fpc noA Gc := by
    refine ⟨by simp [hla, it.len], fun p o d e => ?_, fun p q a h1 h2 => ?_, fun _ _ z => z, fun a z g => ?_, fun a z => ?_⟩
    · rw [List.getElem?_map] at e
      have hlt : p < l.length := by
        cases e2 : args[p]? with
        | none => rw [e2] at e; cases e
        | some y => rw [← hla]; exact (List.getElem?_eq_some_iff.mp e2).1
      have gB : ∀ a, cup (un fpc) noA a → cup (un fp1) (cup T (un Sv)) a := fun a z => z.elim (fun z => (un_fpc a z).elim .inl fun z => .inr (.inr z)) fun z => z.elim
      have gA : ∀ a, cup (cup (un fpc) noA) Gc a → cup (cup (un fp1) (cup T (un Sv))) G a := fun a z => z.elim (fun z => .inl (gB a z)) (subG a)
      cases e3 : l[p]? with
      | none => exact absurd (List.getElem?_eq_none_iff.mp e3) (by omega)
      | some y =>
        cases y with
        | inl i =>
          obtain ⟨q, e4, ho, e5⟩ := rl p i e3
          rw [e5] at e
          cases e
          obtain ⟨v, ev, es⟩ := it.lent p i e3
          obtain ⟨v', ev', nt, r⟩ := R1.slot i o d e4
          rw [es] at ev'; cases ev'
          exact ⟨v, by rw [List.getElem?_map, ev]; rfl, nt, by rw [fpc_lent p i e3]; exact r.fewer gB gA⟩
        | inr q =>
          have e5 := rv p q e3
          rw [e5] at e
          cases e
          obtain ⟨v, ev, nt, r⟩ := it.val p o d e3
          exact ⟨v, by rw [List.getElem?_map, ev]; rfl, nt, by rw [fpc_val p _ e3]; exact r.fewer gB gA⟩
    · rcases fpc_cases p a h1 with ⟨i, e1, z1⟩ | z1
      · rcases fpc_cases q a h2 with ⟨j, e2, z2⟩ | z2
        · have := R1.dis i j a z1 z2
          subst this
          exact lends_inj hnd e1 e2
        · exact (R1.disT a ⟨i, z1⟩ (.inr ⟨q, z2⟩)).elim
      · rcases fpc_cases q a h2 with ⟨j, e2, z2⟩ | z2
        · exact (R1.disT a ⟨j, z2⟩ (.inr ⟨p, z1⟩)).elim
        · exact it.dj p q a z1 z2
    · rcases z with ⟨p, z⟩ | z
      · rcases fpc_cases p a z with ⟨i, e1, z⟩ | z
        · rcases g with (⟨j, hj, g⟩ | g) | g
          · have := R1.dis i j a z g
            subst this
            exact hj (mem_lends e1)
          · exact R1.disT a ⟨i, z⟩ (.inl g)
          · exact R1.disG a (.inl ⟨i, z⟩) g
        · rcases g with (⟨j, hj, g⟩ | g) | g
          · exact R1.disT a ⟨j, g⟩ (.inr ⟨p, z⟩)
          · exact dTS a ⟨p, z⟩ g
          · exact R1.disG a (.inr (.inr ⟨p, z⟩)) g
      · exact z
    · rcases z with (z | z) | z
      · exact R1.wr a ((un_fpc a z).elim (fun z => .inl (.inl z)) fun z => .inl (.inr (.inr z)))
      · exact z.elim
      · exact R1.wr a (subG a z)
  refine ⟨by rw [it.len, hl], args, fpc, Gc, by rw [hla, hl], RC, hC f args _ _ (fun o d outs ⟨ho, ρ2, eg, q⟩ v H2 fp2 S st2 R2 r => ?_) (hres f args _ q)⟩
  obtain ⟨hl2, gb⟩ := giveBack_get eg
  let fpF : Fp := fun j a => (∃ p : Nat, l[p]? = some (.inl j) ∧ fp2 p a) ∨ (j ∉ lends l ∧ fp1 j a)
  have back : ∀ a, un fpc a ∨ H1 a = none → un fp a ∨ H a = none := fun a z => by
    rcases z with z | z
    · exact st.new a ((un_fpc a z).elim .inl .inr)
    · by_cases hx : un fp a
      · exact .inl hx
      · cases e : H a with
        | none => exact .inr rfl
        | some u => have := st.keep a u e hx; rw [z] at this; cases this
  have gGc : ∀ {a}, un fp2 a ∨ S a → ¬ Gc a := fun {a} z g => R2.disG a (z.elim .inl fun z => .inr (.inr z)) g
  have nl : ∀ {a j}, j ∉ lends l → fp1 j a → Gc a := fun {a j} hj z => .inl (.inl ⟨j, hj, z⟩)
  have subA : ∀ a, cup (cup (un fpF) (cup T S)) G a → cup (cup (un fp2) (cup noA S)) Gc a := fun a z => by
    rcases z with (⟨j, z⟩ | z | z) | z
    · rcases z with ⟨p, _, z⟩ | ⟨hj, z⟩
      · exact .inl (.inl ⟨p, z⟩)
      · exact .inr (nl hj z)
    · exact .inr (.inl (.inr z))
    · exact .inl (.inr (.inr z))
    · exact .inr (.inr z)
  have keepF : Keep (un fp) H H2 := fun a u h n => st2.keep a u (st.keep a u h n) fun z => by
    rcases back a (.inl z) with q | q
    · exact n q
    · rw [h] at q; cases q
  have newF : ∀ a, cup (un fpF) S a → un fp a ∨ H a = none := fun a z => by
    rcases z with ⟨j, z⟩ | z
    · rcases z with ⟨p, _, z⟩ | ⟨_, z⟩
      · exact back a (st2.new a (.inl ⟨p, z⟩))
      · exact st.new a (.inl ⟨j, z⟩)
    · exact back a (st2.new a (.inr z))
  have stF : StepE H fp T H2 fpF S := ⟨keepF, newF, fun a z t => gGc (.inr z) (.inl (.inr t))⟩
  have RF : RepS X.K ρ2 σ H2 fpF (cup T S) G := by
    refine ⟨by rw [hl2]; exact R1.len, fun j o d e => ?_, fun i j a h1 h2 => ?_, fun a z t => ?_, fun a z g => ?_, fun a z => ?_⟩
    · rcases gb j (o, d) e with ⟨p, e1, e2, ho⟩ | ⟨hj, e1⟩
      · obtain ⟨v', ev', nt, r'⟩ := R2.slot p o d e2
        obtain ⟨v, ev, es⟩ := it.lent p j e1
        rw [List.getElem?_map, ev] at ev'
        have ev2 : v = v' := Option.some.inj (Option.some.inj ev')
        subst ev2
        exact ⟨v, es, nt, RepV.mono (ours_any (B' := cup (un fpF) (cup T S)) ho r' subA) fun a z => Or.inl ⟨p, e1, z⟩⟩
      · obtain ⟨v, ev, nt, r'⟩ := R1.slot j o d e1
        refine ⟨v, ev, nt, RepV.mono (S := fp1 j) ?_ fun a z => .inr ⟨hj, z⟩⟩
        have gB : Grow (cup (un fp1) (cup T (un Sv))) (cup (un fpF) (cup T S)) H1 := fun a z => by
          have b1 : un fpc a ∨ H1 a = none → cup (un fp1) (cup T (un Sv)) a ∨ H1 a = none := fun z => z.elim (fun z => .inl ((un_fpc a z).elim .inl fun z => .inr (.inr z))) .inr
          rcases z with ⟨j', z⟩ | z | z
          · rcases z with ⟨p, _, z⟩ | ⟨_, z⟩
            · exact b1 (st2.new a (.inl ⟨p, z⟩))
            · exact .inl (.inl ⟨j', z⟩)
          · exact .inl (.inr (.inl z))
          · exact b1 (st2.new a (.inr z))
        refine r'.step st2.keep (fun a z => R1.wr a ((un_fpc a z).elim (fun z => .inl (.inl z)) fun z => .inl (.inr (.inr z)))) nt (fun a z f => ?_) (fun a z => (un_fpc a z).elim .inl fun z => .inr (.inr z)) (fun a z => .inl ((un_fpc a z).elim .inl fun z => .inr (.inr z))) gB fun a z => z.elim (fun z => (gB a z).elim (fun z => .inl (.inl z)) .inr) fun z => .inl (.inr z)
        exact RC.disG a (.inl f) (nl hj z)
    · rcases h1 with ⟨p, e1, z1⟩ | ⟨hi, z1⟩
      · rcases h2 with ⟨q, e2, z2⟩ | ⟨hj, z2⟩
        · have := R2.dis p q a z1 z2
          subst this
          rw [e1] at e2; cases e2; rfl
        · exact (gGc (.inl ⟨p, z1⟩) (nl hj z2)).elim
      · rcases h2 with ⟨q, e2, z2⟩ | ⟨hj, z2⟩
        · exact (gGc (.inl ⟨q, z2⟩) (nl hi z1)).elim
        · exact R1.dis i j a z1 z2
    · obtain ⟨j, z⟩ := z
      rcases z with ⟨p, _, z⟩ | ⟨hj, z⟩
      · rcases t with t | t
        · exact gGc (.inl ⟨p, z⟩) (.inl (.inr t))
        · exact R2.disT a ⟨p, z⟩ (.inr t)
      · rcases t with t | t
        · exact R1.disT a ⟨j, z⟩ (.inl t)
        · exact gGc (.inr t) (nl hj z)
    · rcases z with ⟨j, z⟩ | z | z
      · rcases z with ⟨p, _, z⟩ | ⟨hj, z⟩
        · exact gGc (.inl ⟨p, z⟩) (.inr g)
        · exact R1.disG a (.inl ⟨j, z⟩) g
      · exact R1.disG a (.inr (.inl z)) g
      · exact gGc (.inr z) (.inr g)
    · exact R2.wr a (subA a z)
  exact q v H2 fpF S stF RF (ours_any ho r subA)
end
end VH
namespace VH
open PySem PySem.Spec PyProof.Rows L2

mutual
inductive Sm where
  | asg (i : Nat) (e : E) | asgT (t : Tg) (e : E)
  | set (i : Nat) (b e : E)
  | aug (i : Nat) (op : Operator) (e : E) | augS (i : Nat) (b : E) (op : Operator) (e : E)
  | ex (e : E)
  | ite (c : E) (a b : Sms)
  | fr (t : Tg) (it : It) (body : Sms)
  | wh (c : E) (body : Sms)
  | ret (e : E) | ret0 | brk | cnt | pas
  | nev
  | dset (i : Nat) (b e : E)
  | lkd (S : List Nat) (s : Sm)
inductive Sms where
  | nil | cons (s : Sm) (ss : Sms)
end
structure De where
  nx : Env → Prop
  rt : Ow → D → Env → Prop
  bk : Env → Prop
  ct : Env → Prop
def De.le (A B : De) : Prop := (∀ ρ, A.nx ρ → B.nx ρ) ∧ (∀ o d ρ, A.rt o d ρ → B.rt o d ρ) ∧ (∀ ρ, A.bk ρ → B.bk ρ) ∧ (∀ ρ, A.ct ρ → B.ct ρ)
def augI (op : Operator) (i j : Int) (Q : Int → Prop) : Prop :=
  match op with
  | .Add => Q (i + j)
  | .Sub => Q (i - j)
  | .BitAnd => Q (Builtin.bitAnd i j)
  | .BitOr => Q (Builtin.bitOr i j)
  | .BitXor => Q (Builtin.bitXor i j)
  | _ => False
theorem augI_mono {op : Operator} {i j : Int} {Q Q' : Int → Prop} (h : ∀ i, Q i → Q' i) : augI op i j Q → augI op i j Q' := by
  unfold augI
  split <;> first | exact h _ | exact fun x => x
def wpFor (body : Env → De → Prop) (bind : D → Env → Option Env) (A : De) : List D → Env → Prop
  | [], ρ => A.nx ρ
  | d :: ds, ρ => ∃ ρ1, bind d ρ = some ρ1 ∧ body ρ1 ⟨fun ρ2 => wpFor body bind A ds ρ2, A.rt, A.nx, fun ρ2 => wpFor body bind A ds ρ2⟩
def wpWh (test : Env → (Bool → Env → Prop) → Prop) (body : Env → De → Prop) (A : De) : Nat → Env → Prop
  | 0, _ => False
  | n + 1, ρ => test ρ fun t ρ1 => if t = true then body ρ1 ⟨wpWh test body A n, A.rt, A.nx, wpWh test body A n⟩ else A.nx ρ1
/-- what an item's place in a list becomes -/
def setOw (oi k : Ow) : Ow := if oi = .all ∧ k = .all then .all else .one
/-- the ends of a statement run with all else held fast: its own slots are forgotten -/
def lkdD (A : De) (ρ : Env) (S : List Nat) : De where
  nx := fun ρ1 => ρ1.length = ρ.length ∧ A.nx (wipeE ρ S)
  rt := fun o d ρ1 => ρ1.length = ρ.length ∧ o = .all ∧ A.rt .all d (wipeE ρ S)
  bk := fun ρ1 => ρ1.length = ρ.length ∧ A.bk (wipeE ρ S)
  ct := fun ρ1 => ρ1.length = ρ.length ∧ A.ct (wipeE ρ S)
theorem lkdD_le {A B : De} {ρ : Env} {S : List Nat} (h : De.le A B) : De.le (lkdD A ρ S) (lkdD B ρ S) :=
  ⟨fun _ q => ⟨q.1, h.1 _ q.2⟩, fun _ _ _ q => ⟨q.1, q.2.1, h.2.1 _ _ _ q.2.2⟩, fun _ q => ⟨q.1, h.2.2.1 _ q.2⟩, fun _ q => ⟨q.1, h.2.2.2 _ q.2⟩⟩
mutual
def wpS (C : CallS) (lk : Nat → Bool) : Sm → Env → De → Prop
  | .asg i e, ρ, A => lk i = false ∧ wpE C e ρ fun o d ρ1 => ∃ o', asgO o d = some o' ∧ A.nx (ρ1.set i (some (o', d)))
  | .asgT t e, ρ, A => ((tgs t).all fun i => !lk i) = true ∧ wpE C e ρ fun o d ρ1 => ∃ o' ρ2, asgO o d = some o' ∧ bindT t o' d ρ1 = some ρ2 ∧ A.nx ρ2
  | .set i b e, ρ, A => wpE C e ρ fun o d ρ1 => ∃ k, chO o d = some k ∧ (∃ p, ρ1[i]? = some (some p)) ∧ wpE C b ρ1 fun _ db ρ2 => ∃ oi ds j n, db = .int j ∧ ρ2[i]? = some (some (oi, .lst ds)) ∧ (oi = .one ∨ oi = .all) ∧
      ixN ds.length j = some n ∧ A.nx (ρ2.set i (some (setOw oi k, .lst (ds.set n d))))
  | .aug i op e, ρ, A => lk i = false ∧ ∃ o n, ρ[i]? = some (some (o, .int n)) ∧ wpE C e ρ fun _ d ρ1 => ∃ m, d = .int m ∧ augI op n m fun r => A.nx (ρ1.set i (some (.all, .int r)))
  | .augS i b op e, ρ, A => (∃ p, ρ[i]? = some (some p)) ∧ wpE C b ρ fun _ db ρ1 => ∃ o1 ds1 j n x, db = .int j ∧ ρ1[i]? = some (some (o1, .lst ds1)) ∧ ixN ds1.length j = some n ∧ ds1[n]? = some (.int x) ∧
      wpE C e ρ1 fun _ d ρ2 => ∃ m oi ds, d = .int m ∧ ρ2[i]? = some (some (oi, .lst ds)) ∧ (oi = .one ∨ oi = .all) ∧ ixN ds.length j = some n ∧ augI op x m fun r => A.nx (ρ2.set i (some (oi, .lst (ds.set n (.int r)))))
  | .ex e, ρ, A => wpE C e ρ fun _ _ ρ1 => A.nx ρ1
  | .ite c a b, ρ, A => wpE C c ρ fun _ d ρ1 => ∃ t, truth d = some t ∧ if t = true then wpSs C lk a ρ1 A else wpSs C lk b ρ1 A
  | .fr t it body, ρ, A => ((tgs t).all fun i => !lk i) = true ∧ wpIt C it ρ fun o ds ρ1 => (o ≠ .tra ∧ o ≠ .tra1) ∧ wpFor (fun ρ A => wpSs C lk body ρ A) (bindT t (itmO o)) A ds ρ1
  | .wh c body, ρ, A => ∃ n, wpWh (fun ρ Q => wpE C c ρ fun _ d ρ1 => ∃ t, truth d = some t ∧ Q t ρ1) (fun ρ A => wpSs C lk body ρ A) A n ρ
  | .ret e, ρ, A => wpE C e ρ A.rt
  | .ret0, ρ, A => A.rt .all .non ρ
  | .brk, ρ, A => A.bk ρ
  | .cnt, ρ, A => A.ct ρ
  | .pas, ρ, A => A.nx ρ
  | .nev, _, _ => False
  | .dset i b e, ρ, A => wpE C e ρ fun o d ρ1 => ∃ k oi kvs key, chO o d = some k ∧ ρ1[i]? = some (some (oi, .dK kvs)) ∧ (oi = .one ∨ oi = .all) ∧ (wpE C b (lock ρ1) fun _ dk _ => keyOf dk = some key) ∧
      kvs.length < sizeLine ∧ (oi = .all → k = .all → (kvs.map (·.1)).Nodup) ∧ A.nx (ρ1.set i (some (setOw oi k, .dK (putD kvs key d))))
  | .lkd S s, ρ, A => (S.all fun i => !lk i) = true ∧ wpS C (fun i => !S.contains i) s (lock ρ) (lkdD A ρ S)
def wpSs (C : CallS) (lk : Nat → Bool) : Sms → Env → De → Prop
  | .nil, ρ, A => A.nx ρ
  | .cons s ss, ρ, A => wpS C lk s ρ ⟨fun ρ1 => wpSs C lk ss ρ1 A, A.rt, A.bk, A.ct⟩
end
theorem lk_all {lk : Nat → Bool} {l : List Nat} (h : (l.all fun i => !lk i) = true) : ∀ i ∈ l, lk i = false := fun i hi => by
  have := List.all_eq_true.mp h i hi
  simpa using this
theorem wpFor_mono {body body' : Env → De → Prop} {bind : D → Env → Option Env} (hb : ∀ ρ A B, De.le A B → body ρ A → body' ρ B) {A B : De} (h : De.le A B) : ∀ (ds : List D) (ρ : Env), wpFor body bind A ds ρ → wpFor body' bind B ds ρ
  | [], ρ, w => h.1 _ w
  | d :: ds, ρ, ⟨ρ1, e, w⟩ => ⟨ρ1, e, hb _ ⟨fun ρ2 => wpFor body bind A ds ρ2, A.rt, A.nx, fun ρ2 => wpFor body bind A ds ρ2⟩ ⟨fun ρ2 => wpFor body' bind B ds ρ2, B.rt, B.nx, fun ρ2 => wpFor body' bind B ds ρ2⟩ ⟨fun _ q => wpFor_mono hb h ds _ q, h.2.1, h.1, fun _ q => wpFor_mono hb h ds _ q⟩ w⟩
theorem wpWh_mono {test test' : Env → (Bool → Env → Prop) → Prop} {body body' : Env → De → Prop} (ht : ∀ ρ (Q Q' : Bool → Env → Prop), (∀ b ρ, Q b ρ → Q' b ρ) → test ρ Q → test' ρ Q') (hb : ∀ ρ A B, De.le A B → body ρ A → body' ρ B) {A B : De} (h : De.le A B) :
    ∀ (n : Nat) (ρ : Env), wpWh test body A n ρ → wpWh test' body' B n ρ
  | 0, _, w => w
  | n + 1, ρ, w => ht _ _ _ (fun b ρ1 q => by
      cases b with
      | true => exact hb _ ⟨wpWh test body A n, A.rt, A.nx, wpWh test body A n⟩ ⟨wpWh test' body' B n, B.rt, B.nx, wpWh test' body' B n⟩ ⟨fun _ q => wpWh_mono ht hb h n _ q, h.2.1, h.1, fun _ q => wpWh_mono ht hb h n _ q⟩ q
      | false => exact h.1 _ q) w
mutual
theorem wpS_mono {C : CallS} (hC : MonoC C) {lk : Nat → Bool} : ∀ (s : Sm) (ρ : Env) (A B : De), De.le A B → wpS C lk s ρ A → wpS C lk s ρ B
  | .asg i e, ρ, A, B, h, w => ⟨w.1, wpE_mono hC e _ _ _ (fun _ _ _ ⟨o', e, q⟩ => ⟨o', e, h.1 _ q⟩) w.2⟩
  | .asgT t e, ρ, A, B, h, w => ⟨w.1, wpE_mono hC e _ _ _ (fun _ _ _ ⟨o', ρ2, e, e2, q⟩ => ⟨o', ρ2, e, e2, h.1 _ q⟩) w.2⟩
  | .set i b e, ρ, A, B, h, w => wpE_mono hC e _ _ _ (fun _ _ _ ⟨k, e1, e2, q⟩ => ⟨k, e1, e2, wpE_mono hC b _ _ _ (fun _ _ _ ⟨oi, ds, j, n, a, b, c, d, q⟩ => ⟨oi, ds, j, n, a, b, c, d, h.1 _ q⟩) q⟩) w
  | .aug i op e, ρ, A, B, h, w => by
    obtain ⟨l, o, n, e1, w⟩ := w
    exact ⟨l, o, n, e1, wpE_mono hC e _ _ _ (fun _ _ _ ⟨m, e, q⟩ => ⟨m, e, augI_mono (fun _ => h.1 _) q⟩) w⟩
  | .augS i b op e, ρ, A, B, h, w => ⟨w.1, wpE_mono hC b _ _ _ (fun _ _ _ ⟨o1, ds1, j, n, x, a1, a2, a3, a4, q⟩ => ⟨o1, ds1, j, n, x, a1, a2, a3, a4, wpE_mono hC e _ _ _ (fun _ _ _ ⟨m, oi, ds, b1, b2, b3, b4, q⟩ => ⟨m, oi, ds, b1, b2, b3, b4, augI_mono (fun _ => h.1 _) q⟩) q⟩) w.2⟩
  | .ex e, ρ, A, B, h, w => wpE_mono hC e _ _ _ (fun _ _ _ q => h.1 _ q) w
  | .ite c a b, ρ, A, B, h, w => wpE_mono hC c _ _ _ (fun _ _ _ ⟨t, e, q⟩ => ⟨t, e, by
      cases t with
      | true => exact wpSs_mono hC a _ _ _ h q
      | false => exact wpSs_mono hC b _ _ _ h q⟩) w
  | .fr t it body, ρ, A, B, h, w => ⟨w.1, wpIt_mono hC it _ _ _ (fun _ _ _ ⟨nt, q⟩ => ⟨nt, wpFor_mono (fun ρ A B h w => wpSs_mono hC body ρ A B h w) h _ _ q⟩) w.2⟩
  | .wh c body, ρ, A, B, h, w => by
    obtain ⟨n, w⟩ := w
    exact ⟨n, wpWh_mono (test := fun ρ Q => wpE C c ρ fun _ d ρ1 => ∃ t, truth d = some t ∧ Q t ρ1) (test' := fun ρ Q => wpE C c ρ fun _ d ρ1 => ∃ t, truth d = some t ∧ Q t ρ1) (body := fun ρ A => wpSs C lk body ρ A) (body' := fun ρ A => wpSs C lk body ρ A) (fun ρ Q Q' h w => wpE_mono hC c _ _ _ (fun _ d ρ1 (q : ∃ t, truth d = some t ∧ Q t ρ1) => (by obtain ⟨t, e, q⟩ := q; exact ⟨t, e, h _ _ q⟩)) w) (fun ρ A B h w => wpSs_mono hC body ρ A B h w) h _ _ w⟩
  | .ret e, ρ, A, B, h, w => wpE_mono hC e _ _ _ h.2.1 w
  | .ret0, ρ, A, B, h, w => h.2.1 _ _ _ w
  | .brk, ρ, A, B, h, w => h.2.2.1 _ w
  | .cnt, ρ, A, B, h, w => h.2.2.2 _ w
  | .pas, ρ, A, B, h, w => h.1 _ w
  | .nev, ρ, A, B, h, w => False.elim w
  | .dset i b e, ρ, A, B, h, w => wpE_mono hC e _ _ _ (fun _ _ _ ⟨k, oi, kvs, key, e1, e2, e3, e4, e5, e6, q⟩ => ⟨k, oi, kvs, key, e1, e2, e3, e4, e5, e6, h.1 _ q⟩) w
  | .lkd S s, ρ, A, B, h, w => ⟨w.1, wpS_mono hC s (lock ρ) _ _ (lkdD_le h) w.2⟩
theorem wpSs_mono {C : CallS} (hC : MonoC C) {lk : Nat → Bool} : ∀ (ss : Sms) (ρ : Env) (A B : De), De.le A B → wpSs C lk ss ρ A → wpSs C lk ss ρ B
  | .nil, ρ, A, B, h, w => h.1 _ w
  | .cons s ss, ρ, A, B, h, w => wpS_mono hC s ρ ⟨fun ρ1 => wpSs C lk ss ρ1 A, A.rt, A.bk, A.ct⟩ ⟨fun ρ1 => wpSs C lk ss ρ1 B, B.rt, B.bk, B.ct⟩ ⟨fun ρ1 q => wpSs_mono hC ss ρ1 A B h q, h.2.1, h.2.2.1, h.2.2.2⟩ w
end

def LkS (lk : Nat → Bool) (σ σ' : L2.St) : Prop := ∀ i, lk i = true → σ'[i]? = σ[i]?
theorem LkS.refl {lk : Nat → Bool} {σ : L2.St} : LkS lk σ σ := fun _ _ => rfl
theorem LkS.trans {lk : Nat → Bool} {σ σ1 σ2 : L2.St} (a : LkS lk σ σ1) (b : LkS lk σ1 σ2) : LkS lk σ σ2 := fun i h => (b i h).trans (a i h)
def PostS (K : PySem.W.Frag) (lk : Nat → Bool) (σ : L2.St) (H : Hp) (fp : Fp) (T G : Set') (A : Ends) : De where
  nx := fun ρ' => ∀ σ' H' fp', LkS lk σ σ' → StepE H fp T H' fp' noA → RepS K ρ' σ' H' fp' T G → A.nx σ' H'
  rt := fun o d ρ' => ∀ v σ' H' fp' S, LkS lk σ σ' → StepE H fp T H' fp' S → RepS K ρ' σ' H' fp' (cup T S) G → RepV K H' o v d S (cup (un fp') (cup T S)) (cup (cup (un fp') (cup T S)) G) → A.rt v H'
  bk := fun ρ' => ∀ σ' H' fp', LkS lk σ σ' → StepE H fp T H' fp' noA → RepS K ρ' σ' H' fp' T G → A.bk σ' H'
  ct := fun ρ' => ∀ σ' H' fp', LkS lk σ σ' → StepE H fp T H' fp' noA → RepS K ρ' σ' H' fp' T G → A.ct σ' H'
def tS (K : PySem.W.Frag) (C : CallS) (lk : Nat → Bool) (s : Sm) : TS := fun A σ H => ∃ ρ fp T G, RepS K ρ σ H fp T G ∧ wpS C lk s ρ (PostS K lk σ H fp T G A)
def tSs (K : PySem.W.Frag) (C : CallS) (lk : Nat → Bool) (s : Sms) : TS := fun A σ H => ∃ ρ fp T G, RepS K ρ σ H fp T G ∧ wpSs C lk s ρ (PostS K lk σ H fp T G A)
abbrev PSv (X : Cx) (C : CallS) (lk : Nat → Bool) (x : Stmt) (s : Sm) : Prop := PS X x (tS X.K C lk s)
abbrev PSsv (X : Cx) (C : CallS) (lk : Nat → Bool) (x : List Stmt) (s : Sms) : Prop := PSs X x (tSs X.K C lk s)
theorem _root_.L2.PS.imp {X : Cx} {x : Stmt} {t t' : TS} (h : PS X x t) (w : ∀ A σ H, t' A σ H → t A σ H) : PS X x t' := ⟨fun pins s σ H A I q => h.run pins s σ H A I (w A σ H q)⟩
theorem _root_.L2.PSs.imp {X : Cx} {x : List Stmt} {t t' : TS} (h : PSs X x t) (w : ∀ A σ H, t' A σ H → t A σ H) : PSs X x t' := ⟨fun pins s σ H A I q => h.run pins s σ H A I (w A σ H q)⟩
section
variable {K : PySem.W.Frag} {C : CallS} {lk : Nat → Bool} {ρ ρ1 : Env} {σ σ1 : L2.St} {H H1 : Hp} {fp fp1 : Fp} {T G S1 : Set'} {A : Ends}
theorem postS_behind (R : RepS K ρ σ H fp T G) (l : LkS lk σ σ1) (st : StepE H fp T H1 fp1 S1) : De.le (PostS K lk σ H fp T G A) (PostS K lk σ1 H1 fp1 T G A) :=
  ⟨fun _ q σ' H' fp' l2 st2 R2 => q σ' H' fp' (l.trans l2) (StepE.behind R st st2) R2, fun _ _ _ q v σ' H' fp' S l2 st2 R2 r2 => q v σ' H' fp' S (l.trans l2) (StepE.behind R st st2) R2 r2,
    fun _ q σ' H' fp' l2 st2 R2 => q σ' H' fp' (l.trans l2) (StepE.behind R st st2) R2, fun _ q σ' H' fp' l2 st2 R2 => q σ' H' fp' (l.trans l2) (StepE.behind R st st2) R2⟩
theorem tSs_then (hC : MonoC C) {ss : Sms} (R : RepS K ρ σ H fp T G) (l : LkS lk σ σ1) (st : StepE H fp T H1 fp1 S1) (R1 : RepS K ρ1 σ1 H1 fp1 (cup T S1) G) (w : wpSs C lk ss ρ1 (PostS K lk σ H fp T G A)) : tSs K C lk ss A σ1 H1 :=
  ⟨ρ1, fp1, T, G, R1.lessT fun a z => .inl z, wpSs_mono hC ss _ _ _ (postS_behind R l st) w⟩
end
section
variable {X : Cx} {C : CallS} {lk : Nat → Bool} {pos : Pos} {x y : Stmt} {xs : List Stmt} {s : Sm} {ss : Sms} {e : Expr} {ee : E}
theorem q_nil : PSsv X C lk [] .nil := pss_nil.imp fun A σ H ⟨ρ, fp, T, G, R, w⟩ => w σ H fp LkS.refl StepE.refl R
theorem q_cons (hC : MonoC C) (h1 : PSv X C lk x s) (h2 : PSsv X C lk xs ss) : PSsv X C lk (x :: xs) (.cons s ss) := by
  refine (pss_cons h1 h2).imp fun A σ H ⟨ρ, fp, T, G, R, w⟩ => ?_
  refine ⟨ρ, fp, T, G, R, wpS_mono hC s ρ ⟨fun ρ1 => wpSs C lk ss ρ1 (PostS X.K lk σ H fp T G A), (PostS X.K lk σ H fp T G A).rt, (PostS X.K lk σ H fp T G A).bk, (PostS X.K lk σ H fp T G A).ct⟩ _ ⟨fun ρ1 q => ?_, fun _ _ _ q => q, fun _ q => q, fun _ q => q⟩ w⟩
  intro σ' H' fp' l st R1
  exact tSs_then (S1 := noA) hC R l st (by rw [cup_noA]; exact R1) q
theorem q_pas : PSv X C lk (.Pass pos) .pas := ps_pass.imp fun A σ H ⟨ρ, fp, T, G, R, w⟩ => w σ H fp LkS.refl StepE.refl R
theorem q_brk : PSv X C lk (.Break pos) .brk := ps_break.imp fun A σ H ⟨ρ, fp, T, G, R, w⟩ => w σ H fp LkS.refl StepE.refl R
theorem q_cnt : PSv X C lk (.Continue pos) .cnt := ps_continue.imp fun A σ H ⟨ρ, fp, T, G, R, w⟩ => w σ H fp LkS.refl StepE.refl R
theorem q_nev : PSv X C lk x .nev := ps_never.imp fun A σ H ⟨ρ, fp, T, G, R, w⟩ => False.elim w
theorem q_ret0 : PSv X C lk (.Return none pos) .ret0 := ps_retN.imp fun A σ H ⟨ρ, fp, T, G, R, w⟩ => w .non σ H fp noA LkS.refl StepE.refl (by rw [cup_noA]; exact R) .non
theorem q_ret (hC : MonoC C) (h : PEv X C e ee) : PSv X C lk (.Return (some e) pos) (.ret ee) := (ps_ret h).imp fun A σ H ⟨ρ, fp, T, G, R, w⟩ =>
  ⟨ρ, fp, T, G, R, wpE_mono hC ee _ _ _ (fun o d ρ1 q v H1 fp1 S1 st R1 r => q v σ H1 fp1 S1 LkS.refl st R1 r) w⟩
theorem q_ex (hC : MonoC C) (h : PEv X C e ee) (hs : swapsWith e none pos.line X.env = pure false) : PSv X C lk (.Expr e pos) (.ex ee) := (ps_expr h hs).imp fun A σ H ⟨ρ, fp, T, G, R, w⟩ =>
  ⟨ρ, fp, T, G, R, wpE_mono hC ee _ _ _ (fun o d ρ1 q v H1 fp1 S1 st R1 r => q σ H1 fp1 LkS.refl (st.less fun _ z => z.elim) (R1.lessT fun a z => .inl z)) w⟩
theorem q_ite (hC : MonoC C) {a b : List Stmt} {sa sb : Sms} (hc : PTv X C e ee) (ha : PSsv X C lk a sa) (hb : PSsv X C lk b sb) : PSv X C lk (.If e a b pos) (.ite ee sa sb) := by
  refine (ps_if hc ha hb).imp fun A σ H ⟨ρ, fp, T, G, R, w⟩ => ?_
  refine tT_of hC R w fun o d ρ1 ⟨t, et, q⟩ => ⟨t, et, fun H1 fp1 S1 st R1 => ?_⟩
  cases t with
  | true => exact tSs_then hC R LkS.refl st R1 q
  | false => exact tSs_then hC R LkS.refl st R1 q
end
end VH
namespace VH
open PySem PySem.Spec PyProof.Rows L2

section
variable {K : PySem.W.Frag} {C : CallS} {lk : Nat → Bool} {ρ ρ1 ρ2 : Env} {σ σ1 : L2.St} {H H1 H2 : Hp} {fp fp1 fp2 : Fp} {T G S S1 S2 A' B : Set'} {A : Ends} {o k : Ow} {d : D} {v : V} {e : E} {t : Tg} {ds : List D} {vs : List V}
theorem asg_core (hC : MonoC C) (R : RepS K ρ σ H fp T G) (hl : ∀ i ∈ tgs t, lk i = false)
    (w : wpE C e ρ fun o d ρ1 => ∃ o' ρ2, asgO o d = some o' ∧ bindT t o' d ρ1 = some ρ2 ∧ (PostS K lk σ H fp T G A).nx ρ2) : tAsg (tE K C e) (gT K t) A σ H := by
  refine tE_of hC R w fun o d ρ1 v H1 fp1 S1 ⟨o', ρ2, eo, eb, q⟩ st R1 r => ?_
  obtain ⟨nt, r'⟩ := asgO_rep r eo
  refine bind_ok t R1 r' nt (fun a z => z) (fun a z => z) st.disS eb fun σ' fp' R2 sub hj hlen => ?_
  refine q σ' H1 fp' (fun i hi => hj i fun hm => ?_) ⟨st.keep, fun a z => ?_, fun _ z => z.elim⟩ R2
  · rw [hl i hm] at hi; cases hi
  · rcases z with z | z
    · rcases sub a z with z | z
      · exact st.new a (.inl z)
      · exact st.new a (.inr z)
    · exact z.elim
theorem asg_nm {i : Nat} {P : Env → Prop} : (∃ o', asgO o d = some o' ∧ P (ρ1.set i (some (o', d)))) → ∃ o' ρ2, asgO o d = some o' ∧ bindT (.nm i) o' d ρ1 = some ρ2 ∧ P ρ2 := by
  rintro ⟨o', e, q⟩
  refine ⟨o', _, e, rfl, ?_⟩
  have : nrm o' d = o' := by
    unfold nrm
    split
    · rename_i hs
      unfold asgO at e
      rw [if_pos hs] at e
      exact Option.some.inj e
    · rfl
  rw [this]
  exact q

theorem OwnL.setO {H : Hp} (h : Own K H v d S2) : ∀ {vs : List V} {ds : List D} {U : Set'} (n : Nat), OwnL K H vs ds U → (∀ a, U a → ¬ S2 a) → OwnL K H (vs.set n v) (ds.set n d) (cup U S2)
  | _, _, _, _, .nil, _ => .nil
  | _, _, U, 0, .cons (T := T) (U := U0) x l dj t u, g => .cons h l (fun a z q => g a (u a q) z) (fun a z => .inr z) fun a z => .inl (u a z)
  | _, _, U, n + 1, .cons (T := T) (U := U0) x l dj t u, g => .cons x (OwnL.setO h n l fun a z => g a (u a z)) (fun a z q => q.elim (dj a z) fun q => g a (t a z) q) (fun a z => .inl (t a z)) fun a z => z.elim (fun z => .inl (u a z)) .inr
theorem Kids.one {H : Hp} (h : Kids K H k [v] [d] S A') : (k = .all ∧ Own K H v d S) ∨ (k = .sh ∧ Is K A' H v d) := by
  rcases h with ⟨e, h⟩ | ⟨e, h⟩
  · cases h with
    | cons x _ _ t _ => exact .inl ⟨e, x.mono t⟩
  · cases h with
    | cons x _ => exact .inr ⟨e, x⟩
theorem set_core {i n : Nat} {oi : Ow} {P : Hp → Prop} (R : RepS K ρ σ H fp T G) (st : StepE H fp T H1 fp1 S1) (R1 : RepS K ρ1 σ H1 fp1 (cup T S1) G)
    (kl : Kids K H1 k [v] [d] S1 (cup (cup (un fp1) T) G)) (hi : ρ1[i]? = some (some (oi, .lst ds))) (ho : oi = .one ∨ oi = .all)
    (q : ∀ H2 fp2, StepE H fp T H2 fp2 noA → RepS K (ρ1.set i (some (setOw oi k, .lst (ds.set n d)))) σ H2 fp2 T G → P H2) :
    ∃ l vs, σ[i]? = some (some (.ref l)) ∧ H1 l = some (.lst vs) ∧ vs.length = ds.length ∧ P (upd H1 l (.lst (vs.set n v))) := by
  obtain ⟨w, ev, nt, r⟩ := R1.slot i oi _ hi
  obtain ⟨l, vs, rfl, h, sl, hn, cs⟩ := own_lst r ho
  refine ⟨l, vs, ev, h, hn, ?_⟩
  have kL : Keep (sgl l) H1 (upd H1 l (.lst (vs.set n v))) := fun a o e ne => by rw [upd_ne ne]; exact e
  have mL : MutS (sgl l) H1 := fun a z => by rw [z]; exact ⟨_, h, rfl⟩
  have nS1 : ¬ S1 l := fun z => R1.disT l ⟨i, sl⟩ (.inr z)
  have fin : ∀ {H2 fp2}, StepE H fp T H2 fp2 noA → RepS K (ρ1.set i (some (setOw oi k, .lst (ds.set n d)))) σ H2 fp2 (cup T noA) G → P H2 := fun {H2 fp2} a b => q H2 fp2 a (by rw [cup_noA] at b; exact b)
  unfold setOw at fin
  by_cases hk : oi = .all ∧ k = .all
  · rw [if_pos hk] at fin
    obtain ⟨rfl, rfl⟩ := hk
    rcases cs with ⟨e, _⟩ | ⟨_, U, hU, nU, lU⟩
    · cases e
    rcases kl.one with ⟨_, lw⟩ | ⟨e, _⟩
    · have dUS : ∀ a, U a → ¬ S1 a := fun a u s => R1.disT a ⟨i, hU a u⟩ (.inr s)
      obtain ⟨s1, s2⟩ := slot_write (S' := cup (fp1 i) S1) (T1 := noA) (x := (.all, .lst (ds.set n d))) (ho := .lst (vs.set n v)) R st R1 ev sl rfl (fun a z => z) (fun _ z => z.elim) (fun _ _ z => z) ⟨(by decide : Ow.all ≠ .tra), (by decide : Ow.all ≠ .tra1)⟩ fun _ =>
        .lst (U := cup U S1) upd_same (.inl sl) (fun a z => z.elim (fun z => .inl (hU a z)) .inr) (fun z => z.elim nU nS1)
          (OwnL.setO (lw.step kL mL fun a s z => nS1 (z ▸ s)) n (lU.step kL mL fun a u z => nU (z ▸ u)) fun a u s => dUS a u s)
      exact fin s1 s2
    · cases e
  · rw [if_neg hk] at fin
    obtain ⟨s1, s2⟩ := slot_write (S' := sgl l) (T1 := noA) (x := (.one, .lst (ds.set n d))) (ho := .lst (vs.set n v)) R st R1 ev sl rfl (fun a z => by rw [z]; exact .inl sl) (fun _ z => z.elim) (fun _ _ z => z) ⟨(by decide : Ow.one ≠ .tra), (by decide : Ow.one ≠ .tra1)⟩ fun _ => by
      refine ⟨l, _, rfl, rfl, upd_same, IsL.set ?_ n ?_⟩
      · have lw : Is K (cup (cup (un fp1) T) G) H1 v d := by
          rcases kl.one with ⟨_, x⟩ | ⟨_, x⟩
          · exact x.is (apart st R1)
          · exact x
        refine Is.step (F := sgl l) (A := cup (cup (un fp1) T) G) kL mL (fun a z => by rw [z]; exact .inl (.inl ⟨i, sl⟩)) (fun a z => .inl ?_) lw
        rcases cup_un_set z with z | z
        · rw [z]; exact .inl (.inl ⟨i, sl⟩)
        · rcases z with (⟨j, z⟩ | z | z) | z
          · by_cases hj : j = i
            · rw [if_pos hj] at z; exact z.elim
            · rw [if_neg hj] at z; exact .inl (.inl ⟨j, z⟩)
          · exact .inl (.inr z)
          · exact z.elim
          · exact .inr z
      · rcases cs with ⟨_, lo⟩ | ⟨_, U, hU, nU, lU⟩
        · refine IsL.step (F := sgl l) (A := cup (cup (un fp1) (cup T S1)) G) kL mL (fun a z => by rw [z]; exact .inl (.inl ⟨i, sl⟩)) (fun a z => .inl ?_) lo
          rcases cup_un_set z with z | z
          · rw [z]; exact .inl (.inl ⟨i, sl⟩)
          · exact cup_un_sub z fun _ z => z.elim
        · refine OwnL.is (lU.step kL mL fun a u z => nU (z ▸ u)) fun a u z => ?_
          rcases cup_un_set z with z | z
          · exact nU (z ▸ u)
          · rcases z with (⟨j, z⟩ | z | z) | z
            · by_cases hj : j = i
              · rw [if_pos hj] at z; exact z
              · rw [if_neg hj] at z; exact hj (R1.dis _ _ _ z (hU a u))
            · exact R1.disT a ⟨i, hU a u⟩ (.inl z)
            · exact z
            · exact R1.disG a (.inl ⟨i, hU a u⟩) z
    exact fin s1 s2
end

def getL (K : PySem.W.Frag) : V → V → Hp → VK → Prop := fun x y H Q => ∃ p xs i v, x = .ref p ∧ y = .int i ∧ SqL K H p xs ∧ atI xs i = some v ∧ Q v H
theorem get_lst {X : Cx} : PGet X (getL X.K) := by
  intro pins s σ H x y v u Q I rx ry h
  obtain ⟨p, xs, i, z, rfl, rfl, hq, he, q⟩ := h
  cases rx
  obtain ⟨t, rfl⟩ := ry
  obtain ⟨its, r, pl, hz⟩ := I.list hq
  obtain ⟨j, h1, h2, h3, h4, h5⟩ := atI_get he
  obtain ⟨w, ew, rw'⟩ := r.get h2
  have hl := r.length
  have hn := line63
  have fin : EP X pins σ Q w s := ⟨z, H, I, rw', q⟩
  by_cases h0 : 0 ≤ i
  · have hj : i.toNat = j := by
      rw [seqIndex_of h0 h5] at h1
      exact Option.some.inj h1
    exact wpAny_getItem_list pl.isList h0 (by omega) (by rw [hj]; simpa using ew) fin
  · have hj : (i + (its.toArray.size : Int)).toNat = j := by
      rw [seqIndex_neg (by omega) h4] at h1
      rw [List.size_toArray, ← hl]
      exact Option.some.inj h1
    exact wpAny_getItem_list_neg pl.isList (by omega) (by rw [List.size_toArray] <;> omega) (by omega) (by rw [hj]; simpa using ew) fin
/-- a op= b on ints -/
def augP (op : Operator) : TIp := fun x y H Q => ∃ i j, x = .int i ∧ y = .int j ∧ augI op i j fun r => Q (.int r) H
theorem aug_ok {X : Cx} {op : Operator} : PIp X op (augP op) := by
  intro pins s σ H x y v u Q I r1 r2 h
  obtain ⟨i, j, e1, e2, q⟩ := h
  unfold augI at q
  subst e1; subst e2
  obtain ⟨t, rfl⟩ := r1
  obtain ⟨t', rfl⟩ := r2
  split at q
  · exact iadd_int ⟨.int _, H, I.tok _, ⟨_, rfl⟩, q⟩
  · exact isub_int ⟨.int _, H, I.tok _, ⟨_, rfl⟩, q⟩
  · exact iand_int ⟨.int _, H, I.tok _, ⟨_, rfl⟩, q⟩
  · exact ior_int ⟨.int _, H, I.tok _, ⟨_, rfl⟩, q⟩
  · exact ixor_int ⟨.int _, H, I.tok _, ⟨_, rfl⟩, q⟩
  · exact q.elim

section
variable {X : Cx} {C : CallS} {lk : Nat → Bool} {pos pos' p : Pos} {x y : Stmt} {xs : List Stmt} {s : Sm} {ss : Sms} {e tg b : Expr} {ee eb : E} {n : Str} {i : Nat}
theorem q_asg (hC : MonoC C) (hN : X.N.Nodup) (hi : X.N[i]? = some n) (hx : Loc X.env.scope n) (h : PEv X C e ee) (hs : swapsWith e (some (.Name n pos')) pos.line X.env = pure false) (hf : X.fn n = true ∨ X.env.scope.names.lookup n = some .local) :
    PSv X C lk (.Assign [.Name n pos'] e pos) (.asg i ee) := (ps_set hN hi hx h hs hf).imp fun A σ H ⟨ρ, fp, T, G, R, l, w⟩ =>
  asg_core (t := .nm i) hC R (fun j hj => by simp [tgs] at hj; rw [hj]; exact l) (wpE_mono hC ee _ _ _ (fun o d ρ1 q => asg_nm q) w)
theorem q_asgT (hC : MonoC C) {t : Tg} (h : PEv X C e ee) (hg : PG X tg (gT X.K t)) (hs : swapsWithSole [tg] e pos.line X.env = pure false) (hw : swappedStores [tg] e X.env = pure none)
    (h1 : (assignEach [tg] X.env).map (·.2) = [assign tg X.env]) : PSv X C lk (.Assign [tg] e pos) (.asgT t ee) := (ps_asg h hg hs hw h1).imp fun A σ H ⟨ρ, fp, T, G, R, l, w⟩ =>
  asg_core hC R (lk_all l) (wpE_mono hC ee _ _ _ (fun o d ρ1 q => q) w)
theorem q_set (hC : MonoC C) (hi : X.N[i]? = some n) (hv : Vis X.env.scope n) (hd : (n == ("__debug__" : Str)) = false) (hcd : (n == ("__classdict__" : Str)) = false) (h : PEv X C e ee) (hb : PEv X C b eb)
    (hs : swapsWithSole [.Subscript (.Name n p) b pos'] e pos.line X.env = pure false) (hw : swappedStores [.Subscript (.Name n p) b pos'] e X.env = pure none)
    (h1 : (assignEach [.Subscript (.Name n p) b pos'] X.env).map (·.2) = [assign (.Subscript (.Name n p) b pos') X.env])
    (ha : ∀ v, assign (.Subscript (.Name n p) b pos') X.env v = (do
      let ov ← holding [v] (eval (.Name n p) X.env)
      let iv ← holding [v, ov] (eval b X.env)
      standAt pos'
      holding [v, ov, iv] (setItem ov iv v)
      release [v, ov, iv] [])) :
    PSv X C lk (.Assign [.Subscript (.Name n p) b pos'] e pos) (.set i eb ee) := by
  refine (ps_asg h (pg_sub (pe_var hi hv hd hcd) hb set_list ha) hs hw h1).imp fun A σ H ⟨ρ, fp, T, G, R, w⟩ => ?_
  refine tE_of hC R w fun o d ρ1 v H1 fp1 S1 ⟨k, ek, ⟨p0, hp0⟩, wb⟩ st R1 r => ?_
  obtain ⟨v0, ev0, _, _⟩ := R1.slot i p0.1 p0.2 hp0
  refine ⟨v0, ev0, ?_⟩
  refine tE_of hC R1 wb fun ob db ρ2 vb H2 fp2 S2 ⟨oi, ds, j, m, eb, hi2, ho, hix, q⟩ st2 R2 rb => ?_
  have nt : VH.solid d = true ∨ (o ≠ .tra ∧ o ≠ .tra1) := by
    rcases chO_cases ek with ⟨hs, _⟩ | ⟨_, ⟨rfl, _⟩ | ⟨rfl | rfl, _⟩⟩
    · exact .inl hs
    · exact .inr ⟨by decide, by decide⟩
    · exact .inr ⟨by decide, by decide⟩
    · exact .inr ⟨by decide, by decide⟩
  have r2 : RepV X.K H2 o v d S1 (cup (un fp2) (cup T S1)) (cup (cup (un fp2) (cup T S1)) G) := by
    rcases nt with hs | nt
    · exact RepV.solid (A' := noA) hs ((Own.step st2.keep (fun a z => R1.wr a (.inl (.inl z))) (Is.own hs r.now) fun a z => z.elim).is fun a z => z.elim)
    · exact (RepV.over R1 st2 nt r).fewer (fun a z => z.elim .inl fun z => .inr (z.elim .inl fun z => .inr (.inl z))) fun a z => z.elim (fun z => .inl (z.elim .inl fun z => .inr (z.elim .inl fun z => .inr (.inl z)))) .inr
  have st' : StepE H fp T H2 fp2 S1 := (st.trans st2 (fun a z => R.track (.inl (.inr z))) fun a z => R.disT a z).less fun a z => .inl z
  have R2' : RepS X.K ρ2 σ H2 fp2 (cup T S1) G := R2.lessT fun a z => .inl z
  obtain ⟨l, vs, ev, hl, hn, q⟩ := set_core (n := m) (P := fun H3 => A.nx σ H3) R st' R2' (kid_one r2 ek (apart st' R2') (lessG (K := X.K))) hi2 ho fun H3 fp3 st3 R3 => q σ H3 fp3 LkS.refl st3 R3
  rw [eb] at rb
  have e0 : v0 = .ref l := Option.some.inj (Option.some.inj (ev0.symm.trans ev))
  exact ⟨l, vs, j, m, e0, rb.now.inv_int, hl, by rw [hn]; exact hix, q⟩
theorem q_aug (hC : MonoC C) {op : Operator} (hN : X.N.Nodup) (hi : X.N[i]? = some n) (hx : Loc X.env.scope n) (h : PEv X C e ee) (hf : X.fn n = true ∨ X.env.scope.names.lookup n = some .local) : PSv X C lk (.AugAssign (.Name n pos') op e pos) (.aug i op ee) := by
  refine (ps_aug hN hi hx h aug_ok hf).imp fun A σ H ⟨ρ, fp, T, G, R, l, o, m, e1, w⟩ => ?_
  obtain ⟨v, ev, _, r⟩ := R.slot i _ _ e1
  refine ⟨v, ev, ?_⟩
  refine tE_of hC R w fun o2 d ρ1 y H1 fp1 S1 ⟨j, ed, q⟩ st R1 r1 => ?_
  subst ed
  refine ⟨m, j, r.now.inv_int, r1.now.inv_int, augI_mono (fun z q => ?_) q⟩
  have st0 : StepE H fp T H1 fp1 noA := st.less fun _ z => z.elim
  have R0 : RepS X.K ρ1 σ H1 fp1 (cup T noA) G := R1.lessT fun a z => z.elim .inl fun z => z.elim
  refine show gT X.K (.nm i) (.int z) σ H1 A.nx from bind_ok (.nm i) (o := .all) (d := .int z) (v := .int z) (S := noA) (B := cup (un fp1) (cup T noA)) (A := cup (cup (un fp1) (cup T noA)) G) R0 .int ⟨by decide, by decide⟩ (fun a z => z) (fun a z => z) (fun _ z => z.elim) rfl fun σ' fp' R2 sub hj hlen => ?_
  exact q _ H1 fp' (fun j hj2 => hj j fun hm => by simp [tgs] at hm; subst hm; rw [l] at hj2; cases hj2) ⟨st0.keep, fun a z => z.elim (fun z => (sub a z).elim (fun z => st0.new a (.inl z)) fun z => z.elim) fun z => z.elim, fun _ z => z.elim⟩ R2
theorem q_augS (hC : MonoC C) {op : Operator} (hi : X.N[i]? = some n) (hv : Vis X.env.scope n) (hd : (n == ("__debug__" : Str)) = false) (hcd : (n == ("__classdict__" : Str)) = false) (h : PEv X C e ee) (hb : PEv X C b eb)
    (ha : ∀ ov iv new, augStore b ov iv new = (do holding [new, ov, iv] (setItem ov iv new); release [new, ov, iv] []; pure .next)) : PSv X C lk (.AugAssign (.Subscript (.Name n p) b pos') op e pos) (.augS i eb op ee) := by
  refine (ps_augS (pe_var hi hv hd hcd) hb get_lst h aug_ok set_list ha).imp fun A σ H ⟨ρ, fp, T, G, R, ⟨p0, hp0⟩, w⟩ => ?_
  obtain ⟨v0, ev0, _, _⟩ := R.slot i p0.1 p0.2 hp0
  refine ⟨v0, ev0, ?_⟩
  refine tE_of hC R w fun ob db ρ1 vb H1 fp1 S1 ⟨o1, ds1, j, m, x, eb, hi1, hix1, hx, we⟩ st R1 rb => ?_
  subst eb
  obtain ⟨l0, vs0, ev1, sq0⟩ := list_there R1 hi1
  obtain ⟨w1, ev2, _, r1⟩ := R1.slot i _ _ hi1
  have e0 : v0 = .ref l0 := Option.some.inj (Option.some.inj (ev0.symm.trans ev1))
  obtain ⟨l1, vs1, e2, _, h1, il⟩ := r1.now.inv_lst
  have e3 : w1 = .ref l0 := Option.some.inj (Option.some.inj (ev2.symm.trans ev1))
  obtain ⟨y, ey, iy⟩ := il.get hx
  have e4 : l1 = l0 := V.ref.inj (e2.symm.trans e3)
  subst e4
  refine ⟨l1, vs1, j, y, e0, rb.now.inv_int, SqL.of h1, atI_of hix1 il.length ey, ?_⟩
  have R1' : RepS X.K ρ1 σ H1 fp1 T G := R1.lessT fun a z => .inl z
  have st1 : StepE H fp T H1 fp1 noA := st.less fun _ z => z.elim
  refine tE_of hC R1' we fun oe de ρ2 ve H2 fp2 S2 ⟨m2, oi, ds, ed, hi2, ho, hix, q⟩ st2 R2 re => ?_
  subst ed
  refine ⟨x, m2, iy.inv_int, re.now.inv_int, augI_mono (fun z q => ?_) q⟩
  have st' : StepE H fp T H2 fp2 noA := (StepE.behind R st1 st2).less fun _ z => z.elim
  have R2' : RepS X.K ρ2 σ H2 fp2 (cup T noA) G := R2.lessT fun a z => z.elim .inl fun z => z.elim
  have eo : setOw oi .all = oi := by rcases ho with rfl | rfl <;> rfl
  obtain ⟨l, vs, ev, hl, hn, q⟩ := set_core (n := m) (k := .all) (v := .int z) (d := .int z) (P := fun H3 => A.nx σ H3) R st' R2' (.inl ⟨rfl, .cons .int .nil (T := noA) (U := noA) (fun _ z => z.elim) (fun _ z => z) fun _ z => z⟩) hi2 ho fun H3 fp3 st3 R3 => q σ H3 fp3 LkS.refl st3 (by rw [eo] at R3; exact R3)
  have e5 : v0 = .ref l := Option.some.inj (Option.some.inj (ev0.symm.trans ev))
  exact ⟨l, vs, j, m, e5, rb.now.inv_int, hl, by rw [hn]; exact hix, q⟩
end
section
variable {X : Cx} {C : CallS} {lk : Nat → Bool} {pos : Pos} {body : List Stmt} {sb : Sms} {e tg iter : Expr} {ee : E}
theorem unnrm {K : PySem.W.Frag} {H : Hp} {o : Ow} {v : V} {d : D} {S B A : Set'} (r : RepV K H (nrm o d) v d S B A) : RepV K H o v d S B A := by
  by_cases hs : VH.solid d = true
  · exact RepV.solid hs r.now
  · rw [nrm_not hs] at r; exact r
theorem q_fr (hC : MonoC C) (hp : PassesOwn (model X.prog X.w) X.A X.env X.xe) (hcalm : X.calm = true) {t : Tg} {it : VH.It} (hi : PIv X C tg iter it) (hg : PG X tg (gT X.K t)) (hb : PSsv X C lk body sb) (hs : ∀ x, foldedSetIterable iter X.env x = pure x) :
    PSv X C lk (.For tg iter body [] pos) (.fr t it sb) := by
  refine (ps_for hp hcalm hi hg hb hs).imp fun A σ H ⟨ρ, fp, T, G, R, l, w⟩ => ?_
  refine ⟨ρ, fp, T, G, R, wpIt_mono hC it _ _ _ (fun o ds ρ1 ⟨nto, w⟩ J H1 fp1 L st R1 ntL hh fo => ?_) w⟩
  refine ⟨fun i m σ' H' => m + i = ds.length ∧ ∃ ρ' fp', LkS lk σ σ' ∧ StepE H fp T H' fp' noA ∧ RepS X.K ρ' σ' H' fp' T G ∧ HeldL X.K H' L (cup (un fp') T) (cup (cup (un fp') T) G) ∧
    wpFor (fun ρ A => wpSs C lk sb ρ A) (bindT t (itmO o)) (PostS X.K lk σ H fp T G A) (ds.drop i) ρ', ⟨ds.length, by simp, ρ1, fp1, LkS.refl, st, R1, hh, w⟩, ?_⟩
  rintro i m σ' H' ⟨hm, ρ', fp', lks, st', R', hh', w'⟩
  obtain ⟨stop, go⟩ := fo H' _ _ hh'
  by_cases hi : i < ds.length
  · obtain ⟨d, hd⟩ : ∃ d, ds[i]? = some d := ⟨_, List.getElem?_eq_getElem hi⟩
    obtain ⟨g1, yl⟩ := go i d hd
    rw [List.drop_eq_getElem_cons hi, (List.getElem?_eq_some_iff.mp hd).2] at w'
    obtain ⟨ρ2, eb, wb⟩ := w'
    refine .inr ⟨g1, fun σ2 H2 => (m - 1) + (i + 1) = ds.length ∧ ∃ ρ' fp', LkS lk σ σ2 ∧ StepE H fp T H2 fp' noA ∧ RepS X.K ρ' σ2 H2 fp' T G ∧ HeldL X.K H2 L (cup (un fp') T) (cup (cup (un fp') T) G) ∧
      wpFor (fun ρ A => wpSs C lk sb ρ A) (bindT t (itmO o)) (PostS X.K lk σ H fp T G A) (ds.drop (i + 1)) ρ', fun σ2 H2 q => ⟨m - 1, by omega, q⟩, fun x H2 y => ?_⟩
    obtain ⟨kp, rx⟩ := yl x H2 y
    rw [if_neg nto.1] at rx
    have rx := unnrm rx
    have R2 : RepS X.K ρ' σ' H2 fp' (cup T noA) G := R'.grow kp (fun _ z => z.elim) fun _ z => z.elim
    have nti : itmO o ≠ .tra ∧ itmO o ≠ .tra1 := by cases o <;> exact ⟨by decide, by decide⟩
    refine bind_ok t (B := cup (un fp') T) (A := cup (cup (un fp') T) G) R2 rx nti (fun a z => ?_) (fun a z => ?_) (fun _ z => z.elim) eb fun σ3 fp3 R3 sub hj hlen => ?_
    · rw [cup_noA] at z; exact z
    · rw [cup_noA] at z; exact z
    have st3 : StepE H fp T H2 fp3 noA := ⟨fun a o h n => kp a o (st'.keep a o h n) fun z => z, fun a z => z.elim (fun z => (sub a z).elim (fun z => st'.new a (.inl z)) fun z => z.elim) fun z => z.elim, fun _ z => z.elim⟩
    have lk3 : LkS lk σ σ3 := lks.trans fun j hj2 => hj j fun hm => by rw [lk_all l j hm] at hj2; cases hj2
    have hh3 : HeldL X.K H2 L (cup (un fp3) T) (cup (cup (un fp3) T) G) := heldL_still hh' kp (fun a z => .inl (z.elim (fun z => (sub a z).elim .inl fun z => z.elim) .inr)) fun a z => .inl (z.elim (fun z => .inl (z.elim (fun z => (sub a z).elim .inl fun z => z.elim) .inr)) .inr)
    have pb := postS_behind (A := A) R lk3 st3
    have next : ∀ ρ4, wpFor (fun ρ A => wpSs C lk sb ρ A) (bindT t (itmO o)) (PostS X.K lk σ H fp T G A) (ds.drop (i + 1)) ρ4 → ∀ σ4 H4 fp4, LkS lk σ3 σ4 → StepE H2 fp3 T H4 fp4 noA → RepS X.K ρ4 σ4 H4 fp4 T G →
        (m - 1) + (i + 1) = ds.length ∧ ∃ ρ' fp', LkS lk σ σ4 ∧ StepE H fp T H4 fp' noA ∧ RepS X.K ρ' σ4 H4 fp' T G ∧ HeldL X.K H4 L (cup (un fp') T) (cup (cup (un fp') T) G) ∧
      wpFor (fun ρ A => wpSs C lk sb ρ A) (bindT t (itmO o)) (PostS X.K lk σ H fp T G A) (ds.drop (i + 1)) ρ' := fun ρ4 q σ4 H4 fp4 l4 st4 R4 => by
      refine ⟨by omega, ρ4, fp4, lk3.trans l4, StepE.behind R st3 st4, R4, ?_, q⟩
      have gB : Grow (cup (un fp3) T) (cup (un fp4) T) H2 := fun a z => z.elim (fun z => (st4.new a (.inl z)).elim (fun z => .inl (.inl z)) .inr) fun z => .inl (.inr z)
      exact heldL_step hh3 (ntL nto.1 nto.2) st4.keep R3.wrF (fun a z => .inl z) (fun a z => .inl (.inl z)) gB fun a z => z.elim (fun z => (gB a z).elim (fun z => .inl (.inl z)) .inr) fun z => .inl (.inr z)
    exact ⟨ρ2, fp3, T, G, R3, wpSs_mono hC sb _ ⟨fun ρ2 => wpFor (fun ρ A => wpSs C lk sb ρ A) (bindT t (itmO o)) (PostS X.K lk σ H fp T G A) (ds.drop (i + 1)) ρ2, (PostS X.K lk σ H fp T G A).rt, (PostS X.K lk σ H fp T G A).nx, fun ρ2 => wpFor (fun ρ A => wpSs C lk sb ρ A) (bindT t (itmO o)) (PostS X.K lk σ H fp T G A) (ds.drop (i + 1)) ρ2⟩ _
      ⟨fun ρ4 q => next ρ4 q, pb.2.1, fun ρ4 q => pb.1 ρ4 q, fun ρ4 q => next ρ4 q⟩ wb⟩
  · rw [List.drop_eq_nil_of_le (by omega)] at w'
    exact .inl ⟨stop i (by omega), w' σ' H' fp' lks st' R'⟩
theorem q_lkd (hC : MonoC C) {S : List Nat} {x : Stmt} {s : Sm} (h : PSv X C (fun i => !S.contains i) x s) : PSv X C lk x (.lkd S s) := by
  refine h.imp fun A σ H ⟨ρ, fp, T, G, R, hS, w⟩ => ?_
  have back : ∀ {ρ1 : Env} {σ' : L2.St} {H' : Hp} {fp' : Fp} {S' : Set'}, LkS (fun i => !S.contains i) σ σ' → StepE H nofp noA H' fp' S' → RepS X.K ρ1 σ' H' fp' (cup noA S') (cup (cup (un fp) T) G) → ρ1.length = ρ.length →
      LkS lk σ σ' ∧ StepE H fp T H' fp S' ∧ RepS X.K (wipeE ρ S) σ' H' fp (cup T S') G := fun {ρ1 σ' H' fp' S'} l st R1 hl => by
    have kp : Keep noA H H' := fun a o e n => st.keep a o e fun z => by obtain ⟨_, z⟩ := z; exact z
    have hnew : ∀ a, S' a → H a = none := fun a z => (st.new a (.inr z)).elim (fun z => by obtain ⟨_, z⟩ := z; exact z.elim) fun z => z
    have gB : Grow (cup (un fp) T) (cup (un fp) (cup T S')) H := fun a z => z.elim (fun z => .inl (.inl z)) fun z => z.elim (fun z => .inl (.inr z)) fun z => .inr (hnew a z)
    have gA : Grow (cup (cup (un fp) T) G) (cup (cup (un fp) (cup T S')) G) H := fun a z => z.elim (fun z => (gB a z).elim (fun z => .inl (.inl z)) .inr) fun z => .inl (.inr z)
    refine ⟨fun i hi => l i ?_, ⟨fun a o e _ => kp a o e fun z => z, fun a z => z.elim .inl fun z => .inr (hnew a z), fun a z t => R.track (.inl (.inr t)) (hnew a z)⟩, ?_⟩
    · cases hc : S.contains i with
      | false => exact congrArg not hc
      | true =>
        have := List.all_eq_true.mp hS i (by simpa using hc)
        rw [hi] at this; cases this
    · refine ⟨by rw [wipeE_len, R1.len, hl], fun i o d e => ?_, R.dis, fun a z t => t.elim (R.disT a z) fun t => R.track (.inl (.inl z)) (hnew a t), fun a z t => z.elim (fun z => R.disG a (.inl z) t) fun z => z.elim (fun z => R.disG a (.inr z) t) fun z => R.track (.inr t) (hnew a z), fun a z => R1.wr a ?_⟩
      · obtain ⟨e1, hn⟩ := wipeE_get e
        obtain ⟨v, e2, nt, r⟩ := R.slot i o d e1
        refine ⟨v, ?_, nt, r.still kp gB gA⟩
        rw [l i (by simpa using hn)]; exact e2
      · exact z.elim (fun z => z.elim (fun z => .inr (.inl (.inl z))) fun z => z.elim (fun z => .inr (.inl (.inr z))) fun z => .inl (.inr (.inr z))) fun z => .inr (.inr z)
  have back0 : ∀ {ρ1 : Env} {σ' : L2.St} {H' : Hp} {fp' : Fp}, LkS (fun i => !S.contains i) σ σ' → StepE H nofp noA H' fp' noA → RepS X.K ρ1 σ' H' fp' noA (cup (cup (un fp) T) G) → ρ1.length = ρ.length →
      LkS lk σ σ' ∧ StepE H fp T H' fp noA ∧ RepS X.K (wipeE ρ S) σ' H' fp T G := fun {ρ1 σ' H' fp'} l st R1 hl => by
    have := back l st (by rw [cup_noA]; exact R1) hl
    rw [cup_noA] at this
    exact this
  refine ⟨lock ρ, nofp, noA, cup (cup (un fp) T) G, R.lock, wpS_mono hC s _ _ _ ⟨fun ρ1 q σ' H' fp' l st R1 => ?_, fun o d ρ1 q v σ' H' fp' S' l st R1 r => ?_, fun ρ1 q σ' H' fp' l st R1 => ?_, fun ρ1 q σ' H' fp' l st R1 => ?_⟩ w⟩
  · obtain ⟨a, b, c⟩ := back0 l st R1 q.1
    exact q.2 σ' H' fp a b c
  · obtain ⟨hl, rfl, q⟩ := q
    obtain ⟨a, b, c⟩ := back l st R1 hl
    exact q v σ' H' fp S' a b c r
  · obtain ⟨a, b, c⟩ := back0 l st R1 q.1
    exact q.2 σ' H' fp a b c
  · obtain ⟨a, b, c⟩ := back0 l st R1 q.1
    exact q.2 σ' H' fp a b c
theorem q_wh (hC : MonoC C) (hp : PassesOwn (model X.prog X.w) X.A X.env X.xe) (hc : PTv X C e ee) (hb : PSsv X C lk body sb) : PSv X C lk (.While e body [] pos) (.wh ee sb) := by
  refine (ps_while hp hc hb).imp fun A σ H ⟨ρ, fp, T, G, R, n, w⟩ => ?_
  refine ⟨fun m σ' H' => ∃ ρ' fp', LkS lk σ σ' ∧ StepE H fp T H' fp' noA ∧ RepS X.K ρ' σ' H' fp' T G ∧ wpWh (fun ρ Q => wpE C ee ρ fun _ d ρ1 => ∃ t, truth d = some t ∧ Q t ρ1) (fun ρ A => wpSs C lk sb ρ A) (PostS X.K lk σ H fp T G A) m ρ', ⟨n, ρ, fp, LkS.refl, StepE.refl, R, w⟩, ?_⟩
  rintro m σ' H' ⟨ρ', fp', lks, st, R', w'⟩
  cases m with
  | zero => exact False.elim w'
  | succ m =>
    refine tT_of hC R' w' fun o d ρ1 ⟨t, et, q⟩ => ⟨t, et, fun H1 fp1 S1 st1 R1 => ?_⟩
    have st2 : StepE H fp T H1 fp1 noA := (StepE.behind R st st1).less fun _ z => z.elim
    have R2 : RepS X.K ρ1 σ' H1 fp1 T G := R1.lessT fun a z => .inl z
    cases t with
    | false => exact q σ' H1 fp1 lks st2 R2
    | true =>
      rw [if_pos rfl] at q ⊢
      refine ⟨fun σ2 H2 => ∃ ρ' fp', LkS lk σ σ2 ∧ StepE H fp T H2 fp' noA ∧ RepS X.K ρ' σ2 H2 fp' T G ∧ wpWh (fun ρ Q => wpE C ee ρ fun _ d ρ1 => ∃ t, truth d = some t ∧ Q t ρ1) (fun ρ A => wpSs C lk sb ρ A) (PostS X.K lk σ H fp T G A) m ρ', fun σ2 H2 q => ⟨m, by omega, q⟩, ?_⟩
      have pb := postS_behind (A := A) R lks st2
      exact ⟨ρ1, fp1, T, G, R2, wpSs_mono hC sb _ ⟨wpWh (fun ρ Q => wpE C ee ρ fun _ d ρ1 => ∃ t, truth d = some t ∧ Q t ρ1) (fun ρ A => wpSs C lk sb ρ A) (PostS X.K lk σ H fp T G A) m, (PostS X.K lk σ H fp T G A).rt, (PostS X.K lk σ H fp T G A).nx, wpWh (fun ρ Q => wpE C ee ρ fun _ d ρ1 => ∃ t, truth d = some t ∧ Q t ρ1) (fun ρ A => wpSs C lk sb ρ A) (PostS X.K lk σ H fp T G A) m⟩ _ ⟨fun ρ4 q σ4 H4 fp4 l4 st4 R4 => ⟨ρ4, fp4, lks.trans l4, StepE.behind R st2 st4, R4, q⟩, pb.2.1, fun ρ4 q => pb.1 ρ4 q, fun ρ4 q σ4 H4 fp4 l4 st4 R4 => ⟨ρ4, fp4, lks.trans l4, StepE.behind R st2 st4, R4, q⟩⟩ q⟩
end
end VH
namespace VH
open PySem PySem.Spec PyProof.Rows L2

def ityN : ITy → String
  | .int_ => "int" | .bool_ => "bool" | .list_ => "list" | .str_ => "str" | .tuple_ => "tuple" | .dict_ => "dict"
def tyN : D → String
  | .non => "NoneType" | .bl _ => "bool" | .int _ => "int" | .str _ => "str" | .lst _ => "list" | .tup _ => "tuple" | .scr _ => "list" | _ => "dict"
theorem isi_kit {K : PySem.W.Frag} {ty : ITy} {d : D} {b : Bool} (h : isiD ty d = some b) : PySem.W.kitOne K (.type (tyN d)) (.type (ityN ty)) = some b := by
  refine kit_ty ?_
  cases ty <;> cases d <;> simp only [isiD] at h <;> first
    | (have h := Option.some.inj h; subst h; dsimp only [tyN, ityN]; decide +kernel)
    | (cases h; done)
theorem isi_ty {K : PySem.W.Frag} {A : Set'} {H : Hp} {v : V} {d : D} {ty : ITy} {b : Bool} (r : Is K A H v d) (h : isiD ty d = some b) : TyX K H v (.type (tyN d)) := by
  cases r with
  | non => exact .base .non
  | bl => exact .base (.bl _)
  | int => exact .base (.int _)
  | str => exact .base (.str _)
  | lst n e l => exact .base (.lst e)
  | tup s l =>
    rcases s with (e | ⟨o, e⟩) | ⟨o, its, n, e, c, _⟩
    · exact .base (.tup e)
    · exact .fTuple e
    · exact .kTuple e c
  | dK n e l => cases ty <;> simp [isiD] at h
  | dT n e l => cases ty <;> simp [isiD] at h
  | scr e => cases ty <;> simp [isiD] at h
section
variable {X : Cx} {C : CallS} {pos p p2 : Pos} {a b : Expr} {ea eb : E} {xs : List Expr} {es : Es} {x : Str} {tg : Expr}
theorem pe_tyN {x : Str} {n : String} (hg : Gl X x) (hm : X.mg x = none) (hv : bootBuiltins x = some (.type n)) (hn : x ≠ "__name__") (hd : (x == ("__debug__" : Str)) = false) : PE X (.Name x pos) (tC (.ty n)) :=
  ⟨fun pins s σ H Q I h => ld_blt I hg hm hv ⟨.ty n, H, I, rfl, h⟩ hn hd⟩
theorem v_isi (hC : MonoC C) {ty : ITy} (hg : Gl X "isinstance") (hm : X.mg "isinstance" = none) (hg2 : Gl X (ityN ty)) (hm2 : X.mg (ityN ty) = none) (ha : PEv X C a ea) (hst : noStar a = true) :
    PEv X C (.Call (.Name "isinstance" p) [a, .Name (ityN ty) p2] [] pos) (.isi ty ea) := by
  have pt : PE X (.Name (ityN ty) p2) (tC (.ty (ityN ty))) := by
    cases ty <;> exact pe_tyN hg2 hm2 (by decide +kernel) (by decide +kernel) (by decide +kernel)
  refine (pe_callB (id := "isinstance") call_isi hg hm (by decide +kernel) (pa_cons ha (pa_cons pt pa_nil rfl) (star_cons hst)) (by decide +kernel) (by decide +kernel) (star_cons hst) rfl).imp fun σ H Q ⟨ρ, fp, T, G, R, w⟩ => ?_
  refine tE_of hC R w fun o d ρ1 v H1 fp1 S1 ⟨bb, e, q⟩ st R1 r => ?_
  exact ⟨v, .ty (ityN ty), .type (tyN d), .type (ityN ty), bb, rfl, .ty _, isi_ty r.now e, isi_kit e, PostE.solid (K := X.K) q rfl st R1 (A := noA) .bl⟩
theorem i_rng3 (hC : MonoC C) {c : Int} {cx : Expr} (hg : Gl X "range") (hm : X.mg "range" = none) (ha : PEv X C a ea) (hb : PEv X C b eb) (hcx : PE X cx (tC (.int c))) (hst : noStar a = true) (hst2 : noStar b = true) (hst3 : noStar cx = true) :
    PIv X C tg (.Call (.Name "range" p) [a, b, cx] [] pos) (.rng3 ea eb c) := by
  refine (pi_range3 hg hm (pa_cons ha (pa_cons hb (pa_cons hcx pa_nil (star_cons hst3)) (star_cons hst2)) (star_cons hst)) (star_cons hst) (star_any (xs := [b, cx]) (by simp [hst2, hst3]))).imp fun σ H R' ⟨ρ, fp, T, G, R, w⟩ => ?_
  refine tE_of hC R w fun o1 d1 ρ1 x H1 fp1 S1 ⟨i0, ed, p⟩ st R1 r1 => ?_
  subst ed
  refine tE_of hC (R1.lessT (T' := T) fun a z => .inl z) p fun o2 d2 ρ2 y H2 fp2 S2 ⟨j, n, ed2, z, q⟩ st2 R2 r2 => ?_
  subst ed2
  rw [r1.now.inv_int, r2.now.inv_int]
  refine ⟨i0, j, c, n, rfl, z, q _ H2 fp2 [] ((StepE.behind R st st2).less fun _ z => z.elim) (R2.lessT fun a z => .inl z) (fun _ _ h hm => by cases hm) (fun h hm => by cases hm) fun H B A _ => ⟨fun i hi => by show n ≤ i; simpa only [List.length_map, List.length_range] using hi, fun i d ed => ?_⟩⟩
  rw [List.getElem?_map] at ed
  cases e4 : (List.range n)[i]? with
  | none => rw [e4] at ed; cases ed
  | some k =>
    rw [e4] at ed
    cases ed
    obtain ⟨h1, h2⟩ := List.getElem?_eq_some_iff.mp e4
    simp at h1 h2
    refine ⟨by show i < n; omega, fun x H' yl => ?_⟩
    obtain ⟨rfl, rfl⟩ := yl
    refine ⟨Keep.refl, ?_⟩
    have e5 : i0 + (i : Int) * c = i0 + Int.ofNat k * c := by rw [← h2]; simp
    rw [e5]
    exact RepV.solid rfl (A' := noA) .int
end

section
variable {K : PySem.W.Frag} {C : CallS} {ρ : Env} {σ : L2.St} {H H1 H2 : Hp} {fp : Fp} {T G : Set'}
def allM (H : Hp) : Set' := fun a => ∃ o, H a = some o ∧ isMut o = true
theorem RepS.lockF (R : RepS K ρ σ H fp T G) : RepS K (lockF ρ) σ H nofp noA (allM H) where
  len := by unfold VH.lockF; rw [List.length_map]; exact R.len
  slot := fun i o d e => by
    unfold VH.lockF at e
    rw [List.getElem?_map] at e
    cases q : ρ[i]? with
    | none => rw [q] at e; cases e
    | some x =>
      rw [q] at e
      cases x with
      | none => cases e
      | some p =>
        obtain ⟨o', d'⟩ := p
        simp only [Option.map_some, Option.some.injEq, Prod.mk.injEq] at e
        obtain ⟨rfl, rfl⟩ := e
        obtain ⟨v, e1, _, r⟩ := R.slot i o' d' q
        refine ⟨v, e1, ?_, ?_⟩
        · by_cases hs : VH.solid d' = true
          · rw [nrm_solid hs]; exact ⟨by decide, by decide⟩
          · rw [nrm_not hs]; exact ⟨by decide, by decide⟩
        · by_cases hs : VH.solid d' = true
          · rw [nrm_solid hs]; exact RepV.solid hs r.now
          · rw [nrm_not hs]
            exact Is.less r.now fun a z => by
              rcases z with ⟨_, z⟩ | z
              · exact z
              · exact z
  dis := fun i j a z => z.elim
  disT := fun a z => by obtain ⟨_, z⟩ := z; exact z.elim
  disG := fun a z => by
    rcases z with ⟨_, z⟩ | z
    · exact z.elim
    · exact z.elim
  wr := fun a z => by
    rcases z with (⟨_, z⟩ | z) | z
    · exact z.elim
    · exact z.elim
    · exact z
end
section
variable {X : Cx} {C : CallS} {pos p : Pos} {a : Expr} {ea : E} {xs : List Expr} {es : Es} {x : Str}
theorem v_callF (hC : MonoC C) (hres : ResC C) {nm : Nat → Option (Str × Nat)} {k : Nat} (F : Defs X.prog X.w X.K X.mg X.base C nm k) (hr : Room k X.A) {f np : Nat} (hf : nm f = some (x, np)) (hg : Gl X x) (hdb : (x == ("__debug__" : Str)) = false)
    (hs : PArgs X C (a :: xs) es) (hst : noStar a = true) (hst2 : xs.all noStar = true) (hl : (a :: xs).length = np) (hes : ∀ {ρ Q}, wpArgs C es ρ Q → wpArgs C es ρ fun l => l.length = np ∧ Q l) : PEv X C (.Call (.Name x p) (a :: xs) [] pos) (.callF f es) := by
  obtain ⟨ad, fd, ps, Fn, hm, hk, hb⟩ := F.ok f x np hf
  refine (pe_call Fn hr hg hm hk hb .nil pass0 hs hdb (star_cons hst) (star_any hst2)).imp fun σ H Q ⟨ρ, fp, T, G, R, w⟩ => ?_
  refine ⟨lockF ρ, noA, _, R.lockF, wpArgs_mono hC es _ _ _ (fun l ⟨hl2, q⟩ vs H1 fpc k1 hn1 R1 hlv => ?_) (hes w)⟩
  refine ⟨by simp [hlv, hl2], l, fpc, _, hl2, by rw [List.append_nil]; exact R1, hC f l _ _ (fun o d outs ⟨ho, q⟩ v H2 fp2 S st R2 r => ?_) (hres f l _ q)⟩
  have kp : Keep noA H H2 := fun a u h n => st.keep a u (k1 a u h n) fun z => by
    rw [hn1 a z] at h; cases h
  have hn : ∀ a, S a → H a = none := fun a z => by
    have back : H1 a = none → H a = none := fun h1 => by
      cases e : H a with
      | none => rfl
      | some o => rw [k1 a o e fun z => z] at h1; cases h1
    exact (st.new a (.inr z)).elim (fun z => hn1 a z) back
  have RS := R.grow kp hn fun a z => R2.wr a (.inl (.inr (.inr z)))
  have old : ∀ a, cup (cup (un fp) T) G a → allM H a := fun a z => R.wr a z
  have sub : ∀ a, cup (cup (un fp) (cup T S)) G a → cup (cup (un fp2) (cup noA S)) (allM H) a := fun a z => by
    rcases z with (z | z | z) | z
    · exact .inr (old a (.inl (.inl z)))
    · exact .inr (old a (.inl (.inr z)))
    · exact .inl (.inr (.inr z))
    · exact .inr (old a (.inr z))
  have plain : fshO o d = o → Q v H2 := fun eo => by
    rw [eo] at q
    refine q v H2 fp S ⟨fun a u h n => kp a u h fun z => z, fun a z => z.elim .inl fun z => .inr (hn a z), fun a z t => R.track (.inl (.inr t)) (hn a z)⟩ RS ?_
    cases o with
    | sh => exact Is.less r sub
    | one => exact One.step (F := noA) Keep.refl (fun _ z => z.elim) (fun _ _ z => z) (fun _ z => z.elim) (fun a z => .inl (sub a z)) r
    | all => exact r
    | tra => cases ho
    | tra1 => cases ho
    | bor => cases ho
    | bor1 => cases ho
  by_cases hc : o = .sh ∧ ∃ ds, d = .lst ds ∧ solidL ds = true
  · obtain ⟨rfl, ds, rfl, hsd⟩ := hc
    have eo : fshO .sh (.lst ds) = .all := by unfold fshO; simp [hsd]
    rw [eo] at q
    obtain ⟨b, us, rfl, nb, hb2, il⟩ := Is.inv_lst (show Is X.K _ H2 v (.lst ds) from r)
    have hbn : H b = none := by
      cases e : H b with
      | none => rfl
      | some o =>
        have e2 := kp b o e fun z => z
        rw [hb2] at e2
        cases e2
        exact (nb (.inr ⟨_, e, rfl⟩)).elim
    have hm2 : MutS (sgl b) H2 := fun a z => by rw [z]; exact ⟨_, hb2, rfl⟩
    have hnb : ∀ a, sgl b a → H a = none := fun a z => by rw [z]; exact hbn
    have R3 := R.grow kp hnb hm2
    refine q (.ref b) H2 fp (sgl b) ⟨fun a u h n => kp a u h fun z => z, fun a z => z.elim .inl fun z => .inr (hnb a z), fun a z t => R.track (.inl (.inr t)) (hnb a z)⟩ R3 ?_
    exact .lst (U := noA) hb2 rfl (fun _ z => z.elim) (fun z => z) ((IsL.own hsd il).mono fun _ z => z.elim)
  · refine plain ?_
    clear plain q r
    cases o <;> first | rfl | skip
    cases d <;> first | rfl | skip
    exact if_neg fun hs => hc ⟨rfl, _, rfl, hs⟩
end

section
variable {X : Cx} {C : CallS} {pos apos p : Pos} {a : Expr} {ea : E}
theorem toPs_get : ∀ {xs : List D} {j : Nat}, (toPs xs)[j]? = (xs[j]?).map toP
  | [], j => by simp [toPs]
  | x :: xs, 0 => by simp [toPs]
  | x :: xs, j + 1 => by simp [toPs, toPs_get (xs := xs) (j := j)]
theorem v_idxOf (hC : MonoC C) (hu : X.A.units + 65 < cLine) {i : Nat} {x : Str} (hN : X.N[i]? = some x) (hv : Vis X.env.scope x) (hd : (x == ("__debug__" : Str)) = false) (hcd : (x == ("__classdict__" : Str)) = false) (ha : PEv X C a ea)
    (hline : (apos.endLine == pos.line) = true) (hst : noStar a = true) :
    PEv X C (.Call (.Attribute (.Name x p) "index" apos) [a] [] pos) (.idxOf i ea) := by
  refine (pe_bm PySem.F.plainAttrs_list PySem.F.slot_list_index PySem.F.type_list_index (mt_indexD hu) (pe_var hN hv hd hcd) (pa_cons ha pa_nil (star_cons hst)) rfl (few_one hst) hline (star_cons hst) (star_any (xs := []) rfl)).imp fun σ H Q ⟨ρ, fp, T, G, R, ⟨o0, xs0, e0⟩, w⟩ => ?_
  obtain ⟨l0, vs0, ev0, sq0⟩ := list_there R e0
  refine ⟨_, ev0, .inl ⟨rfl, vs0, sq0⟩, ?_⟩
  refine tE_of hC R w fun o de ρ1 y H1 fp1 S1 ⟨oi, xs, j, z, hi, p1, p2, hz, hzj, hno, q⟩ st R1 r1 => ?_
  obtain ⟨v, ev, _, r⟩ := R1.slot i _ _ hi
  have el : v = .ref l0 := Option.some.inj (Option.some.inj (ev.symm.trans ev0))
  subst el
  have h1 := r.now.dpP p1
  refine ⟨l0, y, toP de, toPs xs, j, toP z, rfl, rfl, h1, r1.now.dpP p2, p1, p2, by rw [toPs_get, hz]; rfl, hzj, fun m z' hm hz' => ?_, PostE.solid (K := X.K) q rfl st R1 (A := noA) .int⟩
  rw [toPs_get] at hz'
  cases e : xs[m]? with
  | none => rw [e] at hz'; cases hz'
  | some w =>
    rw [e] at hz'
    cases hz'
    exact hno m w hm e
end
end VH
namespace VH
open PySem PySem.Spec PyProof.Rows L2

section
variable {K : PySem.W.Frag} {C : CallS} {ρ ρ' : Env} {σ : L2.St} {H H' : Hp} {fp : Fp} {T G S : Set'} {D0 : Addr} {ho : HO}
/-- everything else of the frame, seen from the new list -/
def beside (fp : Fp) (T G : Set') (D0 : Addr) : Set' := fun a => a ≠ D0 ∧ cup (cup (un fp) T) G a
theorem RepS.lockD (R : RepS K ρ σ H fp T G) (hD : T D0) : RepS K (VH.lock ρ) σ H nofp (sgl D0) (beside fp T G D0) where
  len := R.lock.len
  slot := fun i o d e => by
    obtain ⟨o', e', rfl⟩ := lock_get e
    obtain ⟨v, e1, nt, r⟩ := R.slot i o' d e'
    refine ⟨v, e1, ?_, ?_⟩
    · by_cases hs : VH.solid d = true
      · rw [nrm_solid hs]; exact ⟨by decide, by decide⟩
      · rw [nrm_not hs]
        cases o' <;> first | exact ⟨by decide, by decide⟩ | exact nt
    · have subB : ∀ a, cup (un nofp) (sgl D0) a → cup (un fp) T a := fun a z => by
        rcases z with ⟨_, z⟩ | z
        · exact z.elim
        · rw [z]; exact .inr hD
      have subA : ∀ a, cup (cup (un nofp) (sgl D0)) (beside fp T G D0) a → cup (cup (un fp) T) G a := fun a z => by
        rcases z with z | z
        · exact .inl (subB a z)
        · exact z.2
      have nD : ∀ a, fp i a → ¬ cup (un nofp) (sgl D0) a := fun a z q => by
        rcases q with ⟨_, q⟩ | q
        · exact q
        · rw [q] at z; exact R.disT D0 ⟨i, z⟩ hD
      by_cases hs : VH.solid d = true
      · rw [nrm_solid hs]; exact RepV.solid hs r.now
      · rw [nrm_not hs]
        cases o' with
        | tra => exact (nt.1 rfl).elim
        | tra1 => exact (nt.2 rfl).elim
        | bor => exact Is.less r subB
        | bor1 => exact Is1.step (F := noA) Keep.refl (fun _ z => z.elim) (fun _ z => z.elim) (fun _ z => z.elim) (fun a z => .inl (subB a z)) (fun a z => .inl (subA a z)) r
        | sh => exact Is.less r subA
        | one =>
          show Is1 _ _ _ _ _ _
          cases d <;> first
            | (obtain ⟨a, vs, e, s, h, l⟩ := r; exact ⟨a, vs, e, nD a s, h, l.less subA⟩)
            | (obtain ⟨a, vs, e, s, h, l⟩ := r; exact ⟨a, vs, e, nD a s, .inl h, l.less subA⟩)
            | exact Is.less r subA
        | all => exact Own.is r nD
  dis := fun i j a z => z.elim
  disT := fun a z => by obtain ⟨_, z⟩ := z; exact z.elim
  disG := fun a z q => by
    rcases z with ⟨_, z⟩ | z
    · exact z.elim
    · exact q.1 z
  wr := fun a z => by
    rcases z with (⟨_, z⟩ | z) | z
    · exact z.elim
    · rw [z]; exact R.wr D0 (.inl (.inr hD))
    · exact R.wr a z.2
/-- new things that others own -/
theorem RepS.growG (R : RepS K ρ σ H fp T G) (k : Keep noA H H') (hn : ∀ a, S a → H a = none) (hm : MutS S H') : RepS K ρ σ H' fp T (cup G S) where
  len := R.len
  slot := fun i o d e => by
    obtain ⟨v, e1, nt, r⟩ := R.slot i o d e
    refine ⟨v, e1, nt, r.still k (fun a z => .inl z) fun a z => ?_⟩
    rcases z with z | z | z
    · exact .inl (.inl z)
    · exact .inl (.inr z)
    · exact .inr (hn a z)
  dis := R.dis
  disT := R.disT
  disG := fun a h z => z.elim (R.disG a h) fun z => R.track (.inl h) (hn a z)
  wr := fun a h => by
    have old : cup (cup (un fp) T) G a → ∃ o, H' a = some o ∧ isMut o = true := fun h => by
      obtain ⟨o, e, m⟩ := R.wr a h
      exact ⟨o, k a o e fun z => z, m⟩
    rcases h with h | h | h
    · exact old (.inl h)
    · exact old (.inr h)
    · exact hm a h
/-- the same set, told otherwise -/
theorem RepS.eqG {G' : Set'} (R : RepS K ρ σ H fp T G) (e : ∀ a, G a ↔ G' a) : RepS K ρ σ H fp T G' := by
  have : G = G' := by funext a; exact propext (e a)
  rw [← this]; exact R
end
section
variable {K : PySem.W.Frag} {C : CallS} {σ : L2.St} {H H1 H2 : Hp} {fp1 fpi : Fp} {T G Sa S2 : Set'} {L L2 : HL} {D0 : Addr} {body body2 : D → Env → (Option (Ow × D) → Env → Prop) → Prop} {ds ds2 : List D} {P P2 : Ow → List D → Env → Prop} {i j m m' : Nat} {ρi : Env} {ka : Ow} {da : List D} {va : List V}
/-- another loop at the same list -/
theorem LcI.other (I : LcI true K σ H1 fp1 T G L D0 body ds P i m H ρi fpi ka da va Sa) (hj : j ≤ ds2.length) (hL : HeldL K H L2 (bset true D0 (cup (un fpi) (cup T (cup (sgl D0) Sa)))) (cup (cup (un fpi) (cup T (cup (sgl D0) Sa))) G)) (hm : m ≤ m')
    (go : wpLcL body2 (ds2.drop j) ρi fun k l ρ2 => P2 (minO ka k) (da ++ l) ρ2) : LcI true K σ H1 fp1 T G L2 D0 body2 ds2 P2 j m' H ρi fpi ka da va Sa :=
  ⟨hj, I.st, I.rep, I.at_, I.nD, Nat.le_trans I.few hm, I.kids, hL, go⟩
/-- the heap goes on, nothing tracked changes -/
theorem LcI.still (I : LcI true K σ H1 fp1 T G L D0 body ds P i m H ρi fpi ka da va Sa) (kp : Keep noA H H2) : LcI true K σ H1 fp1 T G L D0 body ds P i m H2 ρi fpi ka da va Sa :=
  ⟨I.le, by have := I.st.grow (S2 := noA) I.rep kp fun _ z => z.elim
            rw [cup_noA] at this; exact this,
    by have := I.rep.grow (S := noA) kp (fun _ z => z.elim) fun _ z => z.elim
       rw [cup_noA] at this; exact this, kp _ _ I.at_ fun z => z, I.nD, I.few, I.kids.keep kp, heldL_still I.held kp Grow.refl Grow.refl, I.go⟩
end
section
variable {C : CallS} {it it1 : VH.It} {t t1 : Tg} {c c1 : Eo} {e : E}
theorem minO_assoc : ∀ a b c : Ow, minO (minO a b) c = minO a (minO b c) := by
  intro a b c; cases a <;> cases b <;> cases c <;> rfl
theorem lc2_ok (hC : MonoC C) {K : PySem.W.Frag} {σ : L2.St} {H : Hp} {Q : VK} (w : tE K C (.lc2 t it c t1 it1 c1 e) σ H Q) : tLc2 (tI K C it) (gT K t) (tCn K C c) (tI K C it1) (gT K t1) (tCn K C c1) (tE K C e) (tgs t ++ tgs t1) (tgs t1) σ H Q := by
  obtain ⟨ρ, fp, T, G, R, w⟩ := w
  refine ⟨ρ, fp, T, G, R, wpIt_mono hC it _ _ _ (fun o ds ρ1 ⟨hnt, Bd, hz, q⟩ J H1 fp1 L st1 R1 nt held feed D0 hD => ?_) w⟩
  have hT : ∀ a, T a → H1 a ≠ none := fun a z => R1.track (.inl (.inr z))
  have hd : ∀ a, un fp1 a → ¬ T a := fun a z => R1.disT a z
  have kp0 : Keep noA H1 (upd H1 D0 (.lst [])) := Keep.upd hD
  let bodyM : D → Env → (Ow → List D → Env → Prop) → Prop := fun d ρ' K => ∃ ρ2, bindT t (itmO o) d (wipeE (lock ρ') (tgs t ++ tgs t1)) = some ρ2 ∧ wpC C c ρ2 fun b _ =>
        if b = true then wpIt C it1 ρ2 fun o1 ds1 _ => (o1 ≠ .tra ∧ o1 ≠ .tra1) ∧ ds1.length ≤ Bd ∧
          wpLcL (fun d1 _ K1 => ∃ ρ3, bindT t1 (itmO o1) d1 (wipeE (lock ρ2) (tgs t1)) = some ρ3 ∧ wpC C c1 ρ3 fun b1 ρ4 =>
            if b1 = true then wpE C e ρ4 fun o' d' _ => ∃ k, chO o' d' = some k ∧ K1 (some (k, d')) ρ' else K1 none ρ') ds1 ρ' K
        else K .all [] ρ'
  let P : Ow → List D → Env → Prop := fun k l ρ2 => PostE K σ H fp T G Q (rootO k) (.lst l) ρ2
  have hgo : wpLcM bodyM ds ρ1 P := q
  let Pout : Nat → Ow → List D → Env → Prop := fun i k l ρ' => wpLcM bodyM (ds.drop i) ρ' fun k2 l2 ρ2 => P (minO k k2) (l ++ l2) ρ2
  let body0 : D → Env → (Option (Ow × D) → Env → Prop) → Prop := fun _ _ _ => True
  have dn : ∃ L' : HL, (∀ h ∈ L', h.1 ≠ .tra ∧ h.1 ≠ .tra1) ∧ (∀ H A Y, HeldL K H L' (bset true D0 Y) A → HeldL K H L (bset true D0 Y) A) ∧ HeldL K H1 L' (bset true D0 (cup (un fp1) T)) (cup (cup (un fp1) T) G) := by
    have gD : Grow noA (sgl D0) H1 := fun a z => by rw [z]; exact .inr hD
    refine ⟨L.map fun h => ((match h.1 with | .tra => .bor | .tra1 => .bor1 | o => o), h.2), fun h hm => ?_, fun H A Y hh h hm => ?_, fun h hm => ?_⟩
    · obtain ⟨⟨o, v, d⟩, hm, rfl⟩ := List.mem_map.mp hm
      cases o <;> exact ⟨fun e => Ow.noConfusion e, fun e => Ow.noConfusion e⟩
    · have := hh _ (List.mem_map.mpr ⟨h, hm, rfl⟩)
      obtain ⟨o, v, d⟩ := h
      cases o with
      | tra => exact Is.less this fun _ z => z.elim
      | tra1 => exact Is1.step (F := noA) Keep.refl (fun _ z => z.elim) (fun _ z => z.elim) (fun _ z => z.elim) (fun _ z => z.elim) Grow.refl this
      | _ => exact this
    · obtain ⟨⟨o, v, d⟩, hm2, rfl⟩ := List.mem_map.mp hm
      have := held _ hm2
      have m0 : MutS noA H1 := fun _ z => z.elim
      cases o with
      | tra => exact Is.step (F := noA) Keep.refl m0 (fun _ z => z.elim) gD this
      | tra1 => exact Is1.step (F := noA) Keep.refl m0 (fun _ z => z.elim) (fun _ z => z.elim) gD Grow.refl this
      | bor => exact Is.step (F := noA) Keep.refl m0 (fun _ z => z.elim) gD (Is.less this fun _ z => z.elim)
      | bor1 => exact Is1.step (F := noA) (B := noA) Keep.refl m0 (fun _ z => z.elim) (fun _ z => z.elim) gD Grow.refl (Is1.step (F := noA) Keep.refl m0 (fun _ z => z.elim) (fun _ z => z.elim) (fun _ z => z.elim) Grow.refl this)
      | _ => exact this
  obtain ⟨L', ntL, upL, held'⟩ := dn
  let Inv : Nat → Hp → Prop := fun i H => ∃ ρi fpi ka da va Sa, LcI true K σ H1 fp1 T G L' D0 body0 [] (Pout i) 0 (i * Bd) H ρi fpi ka da va Sa
  have start : Inv 0 (upd H1 D0 (.lst [])) := by
    refine ⟨ρ1, fp1, .all, [], [], noA, Nat.le_refl _, ?_, ?_, upd_same, fun z => z, by simp, .inl ⟨rfl, .nil⟩, ?_, ?_⟩
    · have s := (StepE.refl (H := H1) (fp := fp1) (T := T)).grow (S2 := sgl D0) (by rw [cup_noA]; exact R1) kp0 fun a z => by rw [z]; exact hD
      have e0 : cup noA (sgl D0) = cup (sgl D0) noA := by funext a; simp [cup]
      rw [e0] at s; exact s
    · rw [cup_noA]
      exact R1.grow kp0 (fun a z => by rw [z]; exact hD) fun a z => by rw [z]; exact ⟨_, upd_same, rfl⟩
    · rw [cup_noA]
      refine heldL_still held' kp0 (fun a z => ?_) fun a z => ?_
      · exact .inl z
      · rcases z with (z | z | z) | z
        · exact .inl (.inl (.inl z))
        · exact .inl (.inl (.inr z))
        · rw [z]; exact .inr hD
        · exact .inl (.inr z)
    · show wpLcM bodyM (ds.drop 0) ρ1 fun k2 l2 ρ2 => P (minO (minO .all .all) k2) (([] ++ []) ++ l2) ρ2
      have e1 : (fun (k : Ow) (l : List D) (ρ2 : Env) => P (minO (minO .all .all) k) (([] ++ []) ++ l) ρ2) = P := by
        funext k l ρ2
        show PostE K σ H fp T G Q (rootO (minO (minO .all .all) k)) (.lst l) ρ2 = PostE K σ H fp T G Q (rootO k) (.lst l) ρ2
        have : rootO (minO (minO .all .all) k) = rootO k := by cases k <;> rfl
        rw [this]
      rw [e1]
      exact hgo
  refine ⟨fun i m H => m = ds.length - i ∧ Inv i H, ⟨ds.length, by simp, start⟩, ?_⟩
  rintro i m H2 ⟨rfl, ρi, fpi, ka, da, va, Sa, I⟩
  obtain ⟨stop, turn⟩ := feed H2 _ _ (upL _ _ _ I.held)
  have eka : minO ka .all = ka := by
    rcases I.kids with ⟨rfl, _⟩ | ⟨rfl, _⟩ <;> rfl
  have g0 : Pout i ka da ρi := by
    have g : Pout i (minO ka .all) (da ++ []) ρi := I.go
    rw [List.append_nil, eka] at g
    exact g
  by_cases hlt' : ds.length ≤ i
  · refine .inl ⟨stop i (by omega), ?_⟩
    have g := g0
    show Q (.ref D0) H2
    have g : P (minO ka .all) (da ++ []) ρi := by
      have g1 : wpLcM bodyM (ds.drop i) ρi fun k2 l2 ρ2 => P (minO ka k2) (da ++ l2) ρ2 := g
      rw [List.drop_of_length_le (by omega)] at g1
      exact g1
    rw [List.append_nil, eka] at g
    have sB := StepE.behind (S1 := noA) R st1 I.st
    rcases I.kids with ⟨rfl, l⟩ | ⟨rfl, l⟩
    · exact g (.ref D0) H2 fpi (cup (sgl D0) Sa) sB I.rep (.lst I.at_ (.inl rfl) (fun a z => .inr z) I.nD l)
    · exact g (.ref D0) H2 fpi (sgl D0) (sB.less fun a z => .inl z) (I.rep.lessT fun a z => z.elim .inl fun z => .inr (.inl z)) ⟨D0, va, rfl, rfl, I.at_, l⟩
  · have hlt : i < ds.length := by omega
    obtain ⟨go, yl⟩ := turn i ds[i] (List.getElem?_eq_getElem hlt)
    refine .inr ⟨go, fun H => Inv (i + 1) H, fun H' h => ⟨ds.length - (i + 1), by omega, rfl, h⟩, fun x H' hy => ?_⟩
    obtain ⟨kpx, rx⟩ := yl x H' hy
    have gx : wpLcM bodyM (ds.drop i) ρi fun k2 l2 ρ2 => P (minO ka k2) (da ++ l2) ρ2 := g0
    rw [List.drop_eq_getElem_cons hlt] at gx
    -- what follows this turn
    have foll : ∀ (k1 : Ow) (l1 : List D) (ρ' : Env), (wpLcM bodyM (ds.drop (i + 1)) ρ' fun k l ρ2 => P (minO ka (minO k1 k)) (da ++ (l1 ++ l)) ρ2) → Pout (i + 1) (minO ka k1) (da ++ l1) ρ' := fun k1 l1 ρ' h => by
      have e1 : (fun (k : Ow) (l : List D) (ρ2 : Env) => P (minO (minO ka k1) k) ((da ++ l1) ++ l) ρ2) = fun k l ρ2 => P (minO ka (minO k1 k)) (da ++ (l1 ++ l)) ρ2 := by
        funext k l ρ2
        rw [minO_assoc, List.append_assoc]
      show wpLcM bodyM (ds.drop (i + 1)) ρ' fun k2 l2 ρ2 => P (minO (minO ka k1) k2) ((da ++ l1) ++ l2) ρ2
      rw [e1]; exact h
    obtain ⟨ρ2, eb, w2⟩ : ∃ ρ2, bindT t (itmO o) ds[i] (wipeE (lock ρi) (tgs t ++ tgs t1)) = some ρ2 ∧ wpC C c ρ2 fun b _ =>
        if b = true then wpIt C it1 ρ2 fun o1 ds1 _ => (o1 ≠ .tra ∧ o1 ≠ .tra1) ∧ ds1.length ≤ Bd ∧
          wpLcL (fun d1 _ K1 => ∃ ρ3, bindT t1 (itmO o1) d1 (wipeE (lock ρ2) (tgs t1)) = some ρ3 ∧ wpC C c1 ρ3 fun b1 ρ4 =>
            if b1 = true then wpE C e ρ4 fun o' d' _ => ∃ k, chO o' d' = some k ∧ K1 (some (k, d')) ρi else K1 none ρi) ds1 ρi fun k1 l1 ρ' => wpLcM bodyM (ds.drop (i + 1)) ρ' fun k l ρ2 => P (minO ka (minO k1 k)) (da ++ (l1 ++ l)) ρ2
        else wpLcM bodyM (ds.drop (i + 1)) ρi fun k l ρ2 => P (minO ka (minO .all k)) (da ++ ([] ++ l)) ρ2 := gx
    have IH := I.still kpx
    have RH := IH.rep
    have rx' : RepV K H' (itmO o) x ds[i] noA (if o = .tra then noA else bset true D0 (cup (un fpi) (cup T (cup (sgl D0) Sa)))) (cup (cup (un fpi) (cup T (cup (sgl D0) Sa))) G) := by
      by_cases hs : VH.solid ds[i] = true
      · exact RepV.solid hs rx.now
      · rw [nrm_not hs] at rx; exact rx
    have hitm : itmO o ≠ .tra ∧ itmO o ≠ .tra1 := by cases o <;> exact ⟨by decide, by decide⟩
    have TD : cup T (cup (sgl D0) Sa) D0 := .inr (.inl rfl)
    have RLw := (RH.lockD TD).wipe (tgs t ++ tgs t1)
    have un0 : ∀ {a}, un nofp a → noA a := fun {a} z => by
      obtain ⟨_, z⟩ := z
      exact z
    rw [if_neg hnt] at rx'
    refine bind_ok t (S := noA) (T := sgl D0) (B := bset true D0 (cup (un fpi) (cup T (cup (sgl D0) Sa)))) (A := cup (cup (un fpi) (cup T (cup (sgl D0) Sa))) G) (by rw [cup_noA]; exact RLw) rx' hitm (fun a z => ?_) (fun a z => ?_) (fun _ z => z.elim) eb fun σ2 fp2 R2 g1 hs hl => ?_
    · rw [cup_noA] at z
      exact z.elim (fun z => (un0 z).elim) fun z => z
    · rw [cup_noA] at z
      rcases z with (z | z) | z
      · exact (un0 z).elim
      · rw [z]; exact .inl (.inr TD)
      · exact z.2
    have em : ∀ a, ¬ un fp2 a := fun a z => (g1 a z).elim (fun z => un0 z) fun z => z
    have hsσ : ∀ j, j ∉ tgs t ++ tgs t1 → σ2[j]? = σ[j]? := fun j hj => (hs j fun h => hj (List.mem_append_left _ h)).trans (wipe_get hj)
    have hlσ : σ2.length = σ.length := hl.trans (wipe_length _ _)
    refine ⟨wipe_eq hlσ hsσ, ρ2, fp2, sgl D0, _, R2, wpC_mono hC c _ _ _ (fun b ρ3 qb H3 fp3 S3 st3 R3 => ?_) w2⟩
    have kp3 : Keep noA H' H3 := fun a o h n => st3.keep a o h (em a)
    have IH3 := IH.still kp3
    cases b with
    | false =>
      rw [if_neg Bool.false_ne_true] at qb
      show if false = true then _ else Inv (i + 1) H3
      rw [if_neg Bool.false_ne_true]
      refine ⟨ρi, fpi, ka, da, va, Sa, IH3.other (Nat.le_refl _) IH3.held (Nat.mul_le_mul_right _ (Nat.le_succ i)) ?_⟩
      have := foll .all [] ρi qb
      exact this
    | true =>
      rw [if_pos rfl] at qb
      show if true = true then _ else Inv (i + 1) H3
      rw [if_pos rfl]
      have R23 : RepS K ρ2 σ2 H3 fp2 (sgl D0) (beside fpi (cup T (cup (sgl D0) Sa)) G D0) := by
        have := R2.grow (S := noA) kp3 (fun _ z => z.elim) fun _ z => z.elim
        rw [cup_noA] at this; exact this
      refine ⟨ρ2, fp2, sgl D0, _, R23, wpIt_mono hC it1 _ _ _ (fun o1 ds1 _ ⟨nt1, hB, q1⟩ J1 H4 fp4 L1 st4 R4 nt1' held1 feed1 => ?_) qb⟩
      have kp4 : Keep noA H3 H4 := fun a o h n => st4.keep a o h (em a)
      have IH4 := IH3.still kp4
      have R24 : RepS K ρ2 σ2 H4 fp2 (sgl D0) (beside fpi (cup T (cup (sgl D0) Sa)) G D0) := by
        have := R23.grow (S := noA) kp4 (fun _ z => z.elim) fun _ z => z.elim
        rw [cup_noA] at this; exact this
      have ntL1 := nt1' nt1.1 nt1.2
      have held1' : HeldL K H4 L1 (bset true D0 (cup (un fpi) (cup T (cup (sgl D0) Sa)))) (cup (cup (un fpi) (cup T (cup (sgl D0) Sa))) G) := fun h hm => (held1 h hm).fewer (fun a z => .inr z) fun a z => by
        by_cases e : a = D0
        · exact .inl (.inr e)
        · exact .inr ⟨e, z⟩
      let body1 : D → Env → (Option (Ow × D) → Env → Prop) → Prop := fun d1 _ K1 => ∃ ρ3, bindT t1 (itmO o1) d1 (wipeE (lock ρ2) (tgs t1)) = some ρ3 ∧ wpC C c1 ρ3 fun b1 ρ4 =>
            if b1 = true then wpE C e ρ4 fun o' d' _ => ∃ k, chO o' d' = some k ∧ K1 (some (k, d')) ρi else K1 none ρi
      let InvI : Nat → Hp → Prop := fun j H => ∃ ka da va Sa Gx, LcI true K σ H1 fp1 T G (L' ++ L1) D0 body1 ds1 (Pout (i + 1)) j (i * Bd + j) H ρi fpi ka da va Sa ∧ RepS K ρ2 σ2 H fp2 (sgl D0) Gx ∧ ∀ a, (a = D0 ∨ Gx a) ↔ cup (cup (un fpi) (cup T (cup (sgl D0) Sa))) G a
      have startI : InvI 0 H4 := by
        refine ⟨ka, da, va, Sa, _, IH4.other (Nat.zero_le _) (fun h hm => (List.mem_append.mp hm).elim (IH4.held h) (held1' h)) (Nat.le_refl _) ?_, R24, fun a => ⟨fun z => z.elim (fun z => by rw [z]; exact .inl (.inr TD)) fun z => z.2, fun z => ?_⟩⟩
        · exact wpLcL_mono (fun d ρ' Q Q' h ⟨ρ2, e1, w⟩ => ⟨ρ2, e1, wpC_mono hC c1 _ _ _ (fun b ρ3 q => by
            cases b with
            | true => exact wpE_mono hC e _ _ _ (fun _ _ _ ⟨k, e, q⟩ => ⟨k, e, h _ _ q⟩) q
            | false => exact h _ _ q) w⟩) (fun k1 l1 ρ' h => foll k1 l1 ρ' h) q1
        · by_cases e : a = D0
          · exact .inl e
          · exact .inr ⟨e, z⟩
      refine ⟨fun j m H => m = ds1.length - j ∧ InvI j H, ⟨ds1.length, by simp, startI⟩, ?_⟩
      rintro j m H5 ⟨rfl, ka5, da5, va5, Sa5, Gx, I5, R5, eG⟩
      have ntLL : ∀ h ∈ L' ++ L1, h.1 ≠ .tra ∧ h.1 ≠ .tra1 := fun h hm => (List.mem_append.mp hm).elim (ntL h) (ntL1 h)
      obtain ⟨stop1, turn1⟩ := feed1 H5 _ _ fun h hm => I5.held h (List.mem_append_right _ hm)
      have eka5 : minO ka5 .all = ka5 := by
        rcases I5.kids with ⟨rfl, _⟩ | ⟨rfl, _⟩ <;> rfl
      by_cases hlt1' : ds1.length ≤ j
      · refine .inl ⟨stop1 j (by omega), ρi, fpi, ka5, da5, va5, Sa5, I5.other (Nat.le_refl _) (fun h hm => I5.held h (List.mem_append_left _ hm)) ?_ ?_⟩
        · have := I5.le
          rw [Nat.succ_mul]; omega
        · have g := I5.go
          rw [List.drop_of_length_le (by omega)] at g
          exact g
      · have hlt1 : j < ds1.length := by omega
        obtain ⟨go1, yl1⟩ := turn1 j ds1[j] (List.getElem?_eq_getElem hlt1)
        refine .inr ⟨go1, fun H => InvI (j + 1) H, fun H' h => ⟨ds1.length - (j + 1), by omega, rfl, h⟩, fun x1 H6 hy1 => ?_⟩
        obtain ⟨kp6, rx1⟩ := yl1 x1 H6 hy1
        have I6 := I5.still kp6
        have R6 : RepS K ρ2 σ2 H6 fp2 (sgl D0) Gx := by
          have := R5.grow (S := noA) kp6 (fun _ z => z.elim) fun _ z => z.elim
          rw [cup_noA] at this; exact this
        have gx1 := I6.go
        rw [List.drop_eq_getElem_cons hlt1] at gx1
        obtain ⟨ρ3, eb1, w3⟩ : ∃ ρ3, bindT t1 (itmO o1) ds1[j] (wipeE (lock ρ2) (tgs t1)) = some ρ3 ∧ wpC C c1 ρ3 fun b1 ρ4 =>
            if b1 = true then wpE C e ρ4 fun o' d' _ => ∃ k, chO o' d' = some k ∧ (wpLcL body1 (ds1.drop (j + 1)) ρi fun k2 l ρ2 => Pout (i + 1) (minO ka5 (minO k k2)) (da5 ++ d' :: l) ρ2)
            else (wpLcL body1 (ds1.drop (j + 1)) ρi fun k2 l ρ2 => Pout (i + 1) (minO ka5 k2) (da5 ++ l) ρ2) := gx1
        have rl : RepV K H6 (itmO o1) x1 ds1[j] noA noA (cup (cup (un fpi) (cup T (cup (sgl D0) Sa5))) G) := by
          have r1 : RepV K H6 (itmO o1) x1 ds1[j] noA (if o1 = .tra then noA else bset true D0 (cup (un fpi) (cup T (cup (sgl D0) Sa5)))) (cup (cup (un fpi) (cup T (cup (sgl D0) Sa5))) G) := unnrm rx1
          exact r1.fewer (fun _ z => z.elim) fun _ z => z
        have hitm1 : itmO o1 ≠ .tra ∧ itmO o1 ≠ .tra1 := by cases o1 <;> exact ⟨by decide, by decide⟩
        have un0' : ∀ {a}, cup (un nofp) noA a → noA a := fun {a} z => by
          rcases z with ⟨_, z⟩ | z
          · exact z
          · exact z
        have subG : ∀ a, cup (cup (un fp2) (sgl D0)) Gx a → cup (cup (un fpi) (cup T (cup (sgl D0) Sa5))) G a := fun a z => by
          rcases z with (z | z) | z
          · exact (em a z).elim
          · exact (eG a).mp (.inl z)
          · exact (eG a).mp (.inr z)
        let RR : Option V → Hp → Prop := fun y H4 => match y with
          | none => InvI (j + 1) H4
          | some y => ∃ acc, H4 D0 = some (.lst acc) ∧ acc.length < sizeLine ∧ InvI (j + 1) (upd H4 D0 (.lst (acc ++ [y])))
        show gT K t1 x1 (L2.wipe σ2 (tgs t1)) H6 fun σ3 H7 => L2.wipe σ3 (tgs t1) = L2.wipe σ2 (tgs t1) ∧ tCn K C c1 σ3 H7 fun b H8 => if b = true then tE K C e σ3 H8 fun y H9 => RR (some y) H9 else RR none H8
        refine turn_ok hC R6.lock rl hitm1 (fun a z => (un0' z).elim) (fun a z => z.elim (fun z => (un0' z).elim) fun z => subG a z) eb1
          (P := fun r ρ4 => match r with
            | some (k, d') => wpLcL body1 (ds1.drop (j + 1)) ρi fun k2 l ρ2 => Pout (i + 1) (minO ka5 (minO k k2)) (da5 ++ d' :: l) ρ2
            | none => wpLcL body1 (ds1.drop (j + 1)) ρi fun k2 l ρ2 => Pout (i + 1) (minO ka5 k2) (da5 ++ l) ρ2) w3 ?_ ?_
        · intro ρ4 H8 fp8 p8 st8 R8
          have kp8 : Keep noA H6 H8 := fun a o h n => st8.keep a o h (by rw [un_nofp]; exact n)
          have R9 := I6.rep.grow (S := noA) kp8 (fun _ z => z.elim) fun _ z => z.elim
          have st9 : StepE H6 fpi (cup T (cup (sgl D0) Sa5)) H8 fpi noA := ⟨fun a o h n => kp8 a o h fun z => z, fun a z => z.elim .inl fun z => z.elim, fun _ z => z.elim⟩
          refine ⟨ka5, da5, va5, Sa5, Gx, I6.skip (Nat.le_succ _) hlt1 st9 R9 hT hd (heldL_still I6.held kp8 Grow.refl Grow.refl) p8, ?_, eG⟩
          have := R6.grow (S := noA) kp8 (fun _ z => z.elim) fun _ z => z.elim
          rw [cup_noA] at this; exact this
        · intro k d' y ρ4 H8 fp8 S8 p8 st8 R8 ky
          have kp8 : Keep noA H6 H8 := fun a o h n => st8.keep a o h (by rw [un_nofp]; exact n)
          have hn8 : ∀ a, S8 a → H6 a = none := fun a z => (st8.new a (.inr z)).elim (fun q => by rw [un_nofp] at q; exact q.elim) id
          have hm8 : MutS S8 H8 := fun a z => R8.wr a (.inl (.inr (.inr z)))
          have R9 := I6.rep.grow (S := S8) kp8 hn8 hm8
          have st9 : StepE H6 fpi (cup T (cup (sgl D0) Sa5)) H8 fpi S8 := ⟨fun a o h n => kp8 a o h fun z => z, fun a z => z.elim .inl fun z => .inr (hn8 a z), fun a z q => I6.rep.track (.inl (.inr q)) (hn8 a z)⟩
          have eT : cup (cup T (cup (sgl D0) Sa5)) S8 = cup T (cup (sgl D0) (cup Sa5 S8)) := by rw [cup_assoc, cup_assoc]
          have gA : Grow (cup (cup (un fpi) (cup T (cup (sgl D0) Sa5))) G) (cup (cup (un fpi) (cup T (cup (sgl D0) (cup Sa5 S8)))) G) H6 := fun a z => by
            rw [← eT] at z
            rcases z with (z | z | z) | z
            · exact .inl (.inl (.inl z))
            · exact .inl (.inl (.inr z))
            · exact .inr (hn8 a z)
            · exact .inl (.inr z)
          have hl8 := heldL_still (B' := bset true D0 (cup (un fpi) (cup T (cup (sgl D0) (cup Sa5 S8))))) I6.held kp8 (fun a z => .inl z) gA
          have atD : H8 D0 = some (.lst va5) := kp8 _ _ I6.at_ fun z => z
          have hlen : va5.length < sizeLine := by
            have h1 := I6.few
            have h2 : (i + 1) * Bd ≤ ds.length * Bd := Nat.mul_le_mul_right _ hlt
            rw [Nat.succ_mul] at h2
            omega
          refine ⟨va5, atD, hlen, minO ka5 k, da5 ++ [d'], va5 ++ [y], cup Sa5 S8, cup Gx S8, I6.push (Nat.le_refl _) hlt1 st9 R9 hT hd hD hl8 ntLL (ky.mono (fun _ z => z) fun a z => .inr ?_) p8, (R6.growG kp8 hn8 hm8).writeT rfl rfl, fun a => ?_⟩
          · rcases z with (z | z | z) | z
            · exact (eG a).mpr (.inl (.inl z)) |>.elim (fun e => .inl (.inr e)) fun e => .inr e
            · exact (eG a).mpr (.inl (.inr (.inl z))) |>.elim (fun e => .inl (.inr e)) fun e => .inr e
            · exact .inl (.inr z)
            · exact (eG a).mpr (.inr z) |>.elim (fun e => .inl (.inr e)) fun e => .inr e
          · rw [← eT]
            constructor
            · rintro (z | z | z)
              · exact ((eG a).mp (.inl z)).elim (fun z => .inl (z.elim .inl fun z => .inr (.inl z))) .inr
              · exact ((eG a).mp (.inr z)).elim (fun z => .inl (z.elim .inl fun z => .inr (.inl z))) .inr
              · exact .inl (.inr (.inr z))
            · rintro ((z | z | z) | z)
              · exact ((eG a).mpr (.inl (.inl z))).elim .inl fun z => .inr (.inl z)
              · exact ((eG a).mpr (.inl (.inr z))).elim .inl fun z => .inr (.inl z)
              · exact .inr (.inr z)
              · exact ((eG a).mpr (.inr z)).elim .inl fun z => .inr (.inl z)
end
end VH
namespace VH
section
open PySem PySem.Calls PySem.W
theorem entry_comb : entryFor table "math.comb" = some Builtin.«math.comb» := entryFor_of_tree (by kernel_rfl)
theorem kind_comb : builtinKind "math.comb" = none := by kernel_rfl
theorem plain_comb : plainId "math.comb" = true := by decide +kernel
theorem args_comb (a b : Value) : argsOk "math.comb" ⟨[a, b], []⟩ := by unfold argsOk; kernel_rfl
theorem run_comb (a : Int) (t : Tok) (b : Int) (u : Tok) (h0 : ¬a < 0) (h1 : ¬b < 0) (h2 : ¬b > a) (h3 : ¬min b (a - b) > Builtin.Math.maxSsize) (h4 : ¬min b (a - b) > Builtin.Math.manyFactors) (h5 : ¬min b (a - b) > 9000) (hsz : (combI a b).natAbs.log2 < bitsLine) :
    Gives (Builtin.«math.comb» ⟨[.int a t, .int b u], []⟩) (.int (combI a b)) :=
  .of_wp fun M A E s Q h => by obtain ⟨hp, g, d, tk, os⟩ := s; unfold combI at *; wp_walk; (try (refine wpAny_ite_false (decide_eq_false (Nat.not_le.mpr hsz)) ?_; wp_walk)); exact ⟨_, rfl, h⟩
end
open PySem PySem.Spec PyProof.Rows L2
section
variable {X : Cx} {C : CallS} {pos apos p p2 pos2 : Pos} {a b : Expr} {ea eb : E}
theorem rgV_zero (j : Int) : rgV 0 j = ((List.range j.toNat).map fun i => Int.ofNat i).map V.int := by
  unfold rgV
  rw [List.map_map, Int.sub_zero]
  refine List.map_congr_left fun i _ => ?_
  show V.int _ = V.int _
  rw [Int.zero_add]; rfl
theorem toInts_ints : ∀ ns : List Int, toInts (ns.map D.int) = some ns
  | [] => rfl
  | n :: ns => by simp [toInts, toInts_ints ns]
theorem v_lrng (hC : MonoC C) (hcalm : X.calm = true) (hg : Gl X "list") (hm : X.mg "list" = none) (hg2 : Gl X "range") (hm2 : X.mg "range" = none) (ha : PEv X C a ea) (hst : noStar a = true) :
    PEv X C (.Call (.Name "list" p) [.Call (.Name "range" p2) [a] [] pos2] [] pos) (.lrng ea) := by
  refine (pe_listRg hcalm hg hm (prg_1 hg2 hm2 ha (star_cons hst))).imp fun σ H Q ⟨ρ, fp, T, G, R, w⟩ => ?_
  refine tE_of hC R w fun o d ρ1 v H1 fp1 S1 ⟨j, ed, z1, z2, q⟩ st R1 r => ?_
  subst ed
  rw [r.now.inv_int]
  have hz : sizeLine = 16777216 := sizeLine_eq
  refine ⟨j, rfl, ⟨by decide, by decide, z1, by omega, by omega⟩, fun p hp => ?_⟩
  rw [rgV_zero]
  have e : ((List.range j.toNat).map fun i => D.int (Int.ofNat i)) = ((List.range j.toNat).map fun i => Int.ofNat i).map D.int := by rw [List.map_map]; rfl
  rw [e] at q
  exact PostE.newL (K := X.K) (k := .all) q st R1 (.inl ⟨rfl, (IsL.own (solid_ints _) (IsL.of_ints (A := noA) _)).mono fun _ z => z.elim⟩) hp
theorem v_rem (hC : MonoC C) {i : Nat} {x : Str} (hN : X.N[i]? = some x) (hv : Vis X.env.scope x) (hd : (x == ("__debug__" : Str)) = false) (hcd : (x == ("__classdict__" : Str)) = false) (ha : PEv X C a ea)
    (hline : (apos.endLine == pos.line) = true) (hst : noStar a = true) :
    PEv X C (.Call (.Attribute (.Name x p) "remove" apos) [a] [] pos) (.rem i ea) := by
  refine (pe_bm PySem.F.plainAttrs_list PySem.F.slot_list_remove PySem.F.type_list_remove mt_remove (pe_var hN hv hd hcd) (pa_cons ha pa_nil (star_cons hst)) rfl (few_one hst) hline (star_cons hst) (star_any (xs := []) rfl)).imp fun σ H Q ⟨ρ, fp, T, G, R, ⟨o0, xs0, e0⟩, w⟩ => ?_
  obtain ⟨l0, vs0, ev0, sq0⟩ := list_there R e0
  refine ⟨_, ev0, .inl ⟨rfl, vs0, sq0⟩, ?_⟩
  refine tE_of hC R w fun o de ρ1 y H1 fp1 S1 ⟨oi, ns, k, j, ed, hi, ho, hj, hno, q⟩ st R1 r1 => ?_
  subst ed
  obtain ⟨v, ev, nt, r⟩ := R1.slot i oi _ hi
  obtain ⟨l, vs, rfl, h, sl, n, cs⟩ := own_lst r ho
  have el : l0 = l := V.ref.inj (Option.some.inj (Option.some.inj (ev0.symm.trans ev)))
  subst el
  have evs : vs = ns.map V.int := by
    obtain ⟨a', vs', e1, _, h2, l2⟩ := r.now.inv_lst
    cases e1
    rw [h] at h2
    cases h2
    exact l2.ints (toInts_ints ns)
  subst evs
  refine ⟨l0, ns, k, j, rfl, by rw [r1.now.inv_int], h, hj, hno, ?_⟩
  obtain ⟨s1, s2⟩ := slot_write (S' := sgl l0) (T1 := noA) (x := (.all, .lst ((ns.eraseIdx j).map D.int))) (ho := .lst ((ns.eraseIdx j).map V.int)) R st R1 ev sl rfl
    (fun a z => by rw [z]; exact .inl sl) (fun _ z => z.elim) (fun _ _ z => z) ⟨(by decide : Ow.all ≠ .tra), (by decide : Ow.all ≠ .tra1)⟩ fun _ =>
      .lst (U := noA) upd_same rfl (fun _ z => z.elim) (fun z => z) (IsL.own (solid_ints _) (IsL.of_ints (A := noA) _))
  exact q .non _ _ noA s1 s2 .non
def rComb : List V → Hp → VK → Prop := fun vs H Q => ∃ a b : Int, vs = [.int a, .int b] ∧ 0 ≤ b ∧ b ≤ a ∧ a ≤ 9000 ∧ (combI a b).natAbs.log2 < bitsLine ∧ Q (.int (combI a b)) H
theorem cr_comb : CallR X (.builtin "math.comb") rComb := by
  intro pins s σ H vs us Q I r h
  obtain ⟨a, b, rfl, h1, h2, h3, h4, q⟩ := h
  obtain ⟨t, u, rfl⟩ := Vals.int2 r
  have m1 : Builtin.Math.maxSsize = 9223372036854775807 := rfl
  have m2 : Builtin.Math.manyFactors = 20000 := rfl
  exact call_function_meets kind_comb plain_comb entry_comb (args_comb _ _) (run_comb a t b u (by omega) (by omega) (by omega) (by rw [m1]; omega) (by rw [m2]; omega) (by omega) h4).meets ⟨.int _, H, I.tok _, ⟨_, rfl⟩, q⟩
def mfId : MF → String
  | .comb => "math.comb"
theorem v_mf2 (hC : MonoC C) (hcalm : X.calm = true) {f : MF} {x : Str} (hg : Gl X x) (hm : X.mg x = some (.builtin (mfId f))) (hdb : (x == ("__debug__" : Str)) = false) (ha : PEv X C a ea) (hb : PEv X C b eb) (hst : noStar a = true)
    (hst2 : noStar b = true) : PEv X C (.Call (.Name x p) [a, b] [] pos) (.mf2 f ea eb) := by
  have pa : PA X [a, b] (tCons (tE X.K C ea) (tCons (tE X.K C eb) tNil)) := pa_cons ha (pa_cons hb pa_nil (star_cons hst2)) (star_cons hst)
  have ta : [b].all noStar = true := by simp [hst2]
  have core : ∀ (r : List V → Hp → VK → Prop), (∀ {d1 d2 x y Q H}, Is X.K noA H x d1 → Is X.K noA H y d2 → semM f d1 d2 (fun d => ∀ v, Is X.K noA H v d → solid d = true → Q v H) → r [x, y] H Q) →
      (∀ d1 d2 Q, semM f d1 d2 Q → semM f d1 d2 fun d => solid d = true ∧ Q d) →
      ∀ σ H Q, tE X.K C (.mf2 f ea eb) σ H Q → tCB r (tCons (tE X.K C ea) (tCons (tE X.K C eb) tNil)) σ H Q := fun r hr hs σ H Q ⟨ρ, fp, T, G, R, w⟩ => by
    refine tE_of hC R w fun o1 d1 ρ1 x H1 fp1 S1 ⟨sd, p⟩ st R1 r1 => ?_
    refine tE_of hC (R1.lessT (T' := T) fun a z => .inl z) p fun o2 d2 ρ2 y H2 fp2 S2 p2 st2 R2 r2 => ?_
    have h1 : Is X.K noA H2 x d1 := (Own.step st2.keep (fun a z => R1.wr a (.inl (.inl z))) (Is.own sd r1.now) fun a z => z.elim).is fun a z => z.elim
    exact hr h1 r2.now (semM_mono (fun d ⟨hsd, q⟩ v hv _ => PostE.solid q hsd (StepE.behind R st st2) R2 hv) (hs _ _ _ p2))
  cases f with
  | comb =>
    refine (pe_callBfun cr_comb hg hm pa hdb (star_cons hst) (star_any ta)).imp (core _ ?_ ?_)
    · intro d1 d2 x y Q H h1 h2 w
      cases d1 <;> cases d2 <;> try exact False.elim w
      obtain ⟨w1, w2, w3, w4, w5⟩ := w
      exact ⟨_, _, by rw [h1.inv_int, h2.inv_int], w1, w2, w3, w4, w5 _ .int rfl⟩
    · intro d1 d2 Q w
      cases d1 <;> cases d2 <;> try exact False.elim w
      obtain ⟨w1, w2, w3, w4, w5⟩ := w
      exact ⟨w1, w2, w3, w4, rfl, w5⟩
end
end VH
namespace VH
open PySem PySem.Spec PyProof.Rows L2
theorem fold_max : ∀ (ys : List Int) (y : Int), ys.foldl max y ∈ y :: ys ∧ ∀ z ∈ y :: ys, z ≤ ys.foldl max y
  | [], y => ⟨List.mem_singleton.mpr rfl, fun z hz => by rw [List.mem_singleton] at hz; subst hz; exact Int.le_refl _⟩
  | x :: ys, y => by
    obtain ⟨h1, h2⟩ := fold_max ys (max y x)
    refine ⟨?_, fun z hz => ?_⟩
    · show ys.foldl max (max y x) ∈ _
      rcases List.mem_cons.mp h1 with h | h
      · rw [h]
        rcases Int.le_total y x with g | g
        · rw [Int.max_eq_right g]; exact List.mem_cons_of_mem _ List.mem_cons_self
        · rw [Int.max_eq_left g]; exact List.mem_cons_self
      · exact List.mem_cons_of_mem _ (List.mem_cons_of_mem _ h)
    · show z ≤ ys.foldl max (max y x)
      have h0 := h2 (max y x) List.mem_cons_self
      rcases List.mem_cons.mp hz with rfl | hz
      · omega
      · rcases List.mem_cons.mp hz with rfl | hz
        · omega
        · exact h2 z (List.mem_cons_of_mem _ hz)
theorem fold_min : ∀ (ys : List Int) (y : Int), ys.foldl min y ∈ y :: ys ∧ ∀ z ∈ y :: ys, ys.foldl min y ≤ z
  | [], y => ⟨List.mem_singleton.mpr rfl, fun z hz => by rw [List.mem_singleton] at hz; subst hz; exact Int.le_refl _⟩
  | x :: ys, y => by
    obtain ⟨h1, h2⟩ := fold_min ys (min y x)
    refine ⟨?_, fun z hz => ?_⟩
    · show ys.foldl min (min y x) ∈ _
      rcases List.mem_cons.mp h1 with h | h
      · rw [h]
        rcases Int.le_total y x with g | g
        · rw [Int.min_eq_left g]; exact List.mem_cons_self
        · rw [Int.min_eq_right g]; exact List.mem_cons_of_mem _ List.mem_cons_self
      · exact List.mem_cons_of_mem _ (List.mem_cons_of_mem _ h)
    · show ys.foldl min (min y x) ≤ z
      have h0 := h2 (min y x) List.mem_cons_self
      rcases List.mem_cons.mp hz with rfl | hz
      · omega
      · rcases List.mem_cons.mp hz with rfl | hz
        · omega
        · exact h2 z (List.mem_cons_of_mem _ hz)
theorem reads_ints {h : Heap} : ∀ {its : List Value} {ns : List Int}, Vals (ns.map V.int) its → ReadsAll h its (ns.map PyData.int) []
  | _, [], r => by cases r; exact .nil
  | _, n :: ns, r => by
    cases r with
    | cons a b =>
      obtain ⟨t, rfl⟩ := a
      exact .cons (as := []) (bs := []) (.int n t) (reads_ints b)
theorem alike_ints (ns : List Int) : PySem.W.AlikeAll (ns.map PyData.int) := by
  refine ⟨fun x hx y hy => ?_, fun x hx => ?_⟩
  · obtain ⟨_, _, rfl⟩ := List.mem_map.mp hx
    obtain ⟨_, _, rfl⟩ := List.mem_map.mp hy
    rfl
  · obtain ⟨_, _, rfl⟩ := List.mem_map.mp hx
    exact PyData.noConfusion
theorem depth_ints : ∀ ns : List Int, PyData.depthAll (ns.map PyData.int) = 0
  | [] => rfl
  | n :: ns => by show max _ _ = 0; rw [depth_ints ns]; rfl
def rMxK (K : PySem.W.Frag) (mx : Bool) : List V → List V → Hp → VK → Prop := fun vs zs H Q => ∃ (a : Addr) (ns : List Int) (d : V), vs = [.ref a] ∧ zs = [d] ∧ SqL K H a (ns.map V.int) ∧ (ns = [] → Q d H) ∧
  ∀ m, m ∈ ns → (if mx = true then ∀ y, y ∈ ns → y ≤ m else ∀ y, y ∈ ns → m ≤ y) → Q (.int m) H
section
variable {X : Cx}
theorem crk_max (hc : X.calm = true) (hu : X.A.units + 65 < cLine) : CallRK X (.builtin "max") ["default"] (rMxK X.K true) := by
  intro pins s σ H xs zs us ws Q I r1 r2 h
  obtain ⟨a, ns, d, rfl, rfl, hs, h0, h1⟩ := h
  obtain ⟨its, rv, hl, _⟩ := I.list hs
  rw [Vals.ref1 r1]
  obtain ⟨w, rfl, rw'⟩ := r2.one
  refine PySem.W.max_list_default (I.ok.hd hc) hl.isList (reads_ints rv) (alike_ints ns) (by rw [depth_ints]; omega) (fun e h' tk hk => ?_) (fun y ys i v h' tk bs e _ hr hk => ?_)
  · exact ⟨d, H, I.kept hk, rw', h0 (by simpa using e)⟩
  · cases ns with
    | nil => cases e
    | cons n ns =>
      cases e
      rw [PySem.W.maxD_ints] at hr
      obtain ⟨f1, f2⟩ := fold_max ns n
      cases hr
      exact ⟨.int _, H, I.kept hk, ⟨_, rfl⟩, h1 _ f1 (by rw [if_pos rfl]; exact f2)⟩
theorem crk_min (hc : X.calm = true) (hu : X.A.units + 65 < cLine) : CallRK X (.builtin "min") ["default"] (rMxK X.K false) := by
  intro pins s σ H xs zs us ws Q I r1 r2 h
  obtain ⟨a, ns, d, rfl, rfl, hs, h0, h1⟩ := h
  obtain ⟨its, rv, hl, _⟩ := I.list hs
  rw [Vals.ref1 r1]
  obtain ⟨w, rfl, rw'⟩ := r2.one
  refine PySem.W.min_list_default (I.ok.hd hc) hl.isList (reads_ints rv) (alike_ints ns) (by rw [depth_ints]; omega) (fun e h' tk hk => ?_) (fun y ys i v h' tk bs e _ hr hk => ?_)
  · exact ⟨d, H, I.kept hk, rw', h0 (by simpa using e)⟩
  · cases ns with
    | nil => cases e
    | cons n ns =>
      cases e
      rw [PySem.W.minD_ints] at hr
      obtain ⟨f1, f2⟩ := fold_min ns n
      cases hr
      exact ⟨.int _, H, I.kept hk, ⟨_, rfl⟩, h1 _ f1 (by rw [if_neg Bool.false_ne_true]; exact f2)⟩
variable {C : CallS} {p pos kpos : Pos} {a b : Expr} {ea eb : E}
theorem v_mxd (hC : MonoC C) (hcalm : X.calm = true) (hu : X.A.units + 65 < cLine) {mx : Bool} {x : Str} (ex : x = if mx = true then "max" else "min") (hg : Gl X x) (hm : X.mg x = none) (ha : PEv X C a ea) (hb : PEv X C b eb) (hst : noStar a = true) :
    PEv X C (.Call (.Name x p) [a] [⟨some "default", b, kpos⟩] pos) (.mxd mx ea eb) := by
  have pa : PA X [a] (tCons (tE X.K C ea) tNil) := pa_cons ha pa_nil (star_cons hst)
  have fin : ∀ σ H Q, tE X.K C (.mxd mx ea eb) σ H Q → tCKw (rMxK X.K mx) (tCons (tE X.K C ea) tNil) (tCons (tE X.K C eb) tNil) σ H Q := fun σ H Q ⟨ρ, fp, T, G, R, w⟩ => by
    refine tE_of hC R w fun o1 d1 ρ1 v H1 fp1 S1 ⟨ns, e1, w2⟩ st R1 r1 => ?_
    subst e1
    refine tE_of2 hC R1 r1 w2 fun o2 d2 ρ2 y H2 fp2 S2 ⟨sd, p2⟩ st2 R2 r1' r2 => ?_
    obtain ⟨l, vs, rfl, _, h, il⟩ := r1'.now.inv_lst
    have ev := il.ints (toInts_ints ns)
    subst ev
    have st3 := StepE.trans st st2 (fun a z => R.track (.inl (.inr z))) R.disT
    refine ⟨l, ns, y, rfl, rfl, SqL.of h, fun e => ?_, fun m h1 h2 => ?_⟩
    · rw [if_pos e] at p2
      exact PostE.solid p2 sd st3 R2 r2.now
    · rw [if_neg (List.ne_nil_of_mem h1)] at p2
      exact PostE.solid (p2 m h1 h2) rfl st3 R2 (A := noA) .int
  cases mx with
  | true =>
    subst ex
    exact (pe_callBK (id := "max") (crk_max hcalm hu) hg hm (by decide +kernel) pa (pk_cons hb pk_nil) (by decide +kernel) (by decide +kernel) (by rw [star_cons hst]; rfl) (by rw [star_cons hst]; rfl)).imp fin
  | false =>
    subst ex
    exact (pe_callBK (id := "min") (crk_min hcalm hu) hg hm (by decide +kernel) pa (pk_cons hb pk_nil) (by decide +kernel) (by decide +kernel) (by rw [star_cons hst]; rfl) (by rw [star_cons hst]; rfl)).imp fin
end
end VH
namespace VH
open PySem PySem.Spec PyProof.Rows L2

section
variable {K : PySem.W.Frag} {A A' : Set'} {H H' : Hp}
/-- items put behind those of a list in a dict -/
theorem OwnK.mut {k : Key} {es : List D} : ∀ {vs : List (Key × V)} {ds : List (Key × D)} {U : Set'}, OwnK K H vs ds U → getK ds k = some (.lst es) →
    ∃ l ws, valV vs k = some (.ref l) ∧ H l = some (.lst ws) ∧ ws.length = es.length ∧ U l ∧ ∀ H' zs fs, Keep (sgl l) H H' → H' l = some (.lst (ws ++ zs)) → OwnL K H' zs fs noA → OwnK K H' vs (setD k (.lst (es ++ fs)) ds) U := by
  intro vs
  induction vs with
  | nil => intro ds U h e; cases h; cases e
  | cons p vs ih =>
    intro ds U h e
    cases h with
    | @cons k' v' d' _ ds T U0 _ h l dj t u =>
      by_cases q : k' = k
      · subst q
        rw [getK_pos (p := (k', d')) rfl] at e
        cases e
        cases h with
        | @lst a ws _ _ U1 ha sa u1 nu lL =>
          refine ⟨a, ws, valV_pos (p := (k', V.ref a)) rfl, ha, (lL.is (A := noA) fun _ _ z => z).length, t a sa, fun H' zs fs kp h' lz => ?_⟩
          have mu : MutS (sgl a) H := fun b z => by rw [z]; exact ⟨_, ha, rfl⟩
          have e1 : setD k' (.lst (es ++ fs)) ((k', D.lst es) :: ds) = (k', .lst (es ++ fs)) :: ds := by unfold setD; rw [if_pos rfl]
          rw [e1]
          refine .cons (T := T) (U := U0) (.lst (U := cup U1 noA) h' sa (fun b z => z.elim (u1 b) fun z => z.elim) (fun z => z.elim nu fun z => z) ?_) (l.step kp mu fun b z y => dj a sa (by rw [← y]; exact z)) dj t u
          exact OwnL.append (S1 := U1) (S2 := noA) (fun _ _ z => z) (lL.step kp mu fun b z y => nu (by rw [← y]; exact z)) (fun _ z => z) lz
      · rw [getK_neg (p := (k', d')) q] at e
        obtain ⟨a, ws, e1, e2, e3, e4, e5⟩ := ih l e
        refine ⟨a, ws, by rw [valV_neg (p := (k', v')) q]; exact e1, e2, e3, u a e4, fun H' zs fs kp h' lz => ?_⟩
        have mu : MutS (sgl a) H := fun b z => by rw [z]; exact ⟨_, e2, rfl⟩
        have ee : setD k (.lst (es ++ fs)) ((k', d') :: ds) = (k', d') :: setD k (.lst (es ++ fs)) ds := by
          conv => lhs; unfold setD
          rw [if_neg q]
        rw [ee]
        exact .cons (h.step kp mu fun b z y => dj b z (by rw [y]; exact e4)) (e5 H' zs fs kp h' lz) dj t u
end
section
variable {X : Cx} {C : CallS} {lk : Nat → Bool} {pos apos p pos' : Pos} {a b c e : Expr} {ea eb ec ek ee : E} {n : Str}
/-- what an expression gives, nothing being changed -/
theorem lock_run (hC : MonoC C) {K : PySem.W.Frag} {ρ : Env} {σ : L2.St} {H : Hp} {fp : Fp} {T G : Set'} {e : E} {P : Ow → D → Prop} {Rr : V → Hp → Prop} (R : RepS K ρ σ H fp T G) (w : wpE C e (lock ρ) fun o d _ => P o d)
    (h : ∀ o d v H1, P o d → Keep noA H H1 → RepS K ρ σ H1 fp T G → (VH.solid d = true → Is K noA H1 v d) → Is K noA H1 v d → Rr v H1) : tE K C e σ H Rr := by
  refine tE_of hC R.lock w fun o d ρ1 v H1 fp1 S1 p st R1 r => ?_
  have kp : Keep noA H H1 := fun a o h n => st.keep a o h (by rw [un_nofp]; exact n)
  have R2 := R.grow (S := noA) kp (fun _ z => z.elim) fun _ z => z.elim
  rw [cup_noA] at R2
  exact h o d v H1 p kp R2 (fun _ => r.now) r.now
theorem dict_at {K : PySem.W.Frag} {ρ : Env} {σ : L2.St} {H : Hp} {fp : Fp} {T G : Set'} {i : Nat} {kvs : List (Key × D)} (R : RepS K ρ σ H fp T G) (hi : ρ[i]? = some (some (.all, .dK kvs))) :
    ∃ a vs U, σ[i]? = some (some (.ref a)) ∧ H a = some (.dK vs) ∧ fp i a ∧ (∀ b, U b → fp i b) ∧ ¬ U a ∧ OwnK K H vs kvs U := by
  obtain ⟨v, ev, nt, r⟩ := R.slot i _ _ hi
  have r' : Own K H v (.dK kvs) (fp i) := r
  cases r' with
  | dK h sa u nu l => exact ⟨_, _, _, ev, h, sa, u, nu, l⟩
theorem keep_own {K : PySem.W.Frag} {H H1 : Hp} {vs : List (Key × V)} {kvs : List (Key × D)} {U : Set'} (kp : Keep noA H H1) (l : OwnK K H vs kvs U) : OwnK K H1 vs kvs U := l.step kp (fun _ z => z.elim) fun _ _ z => z
theorem v_dnew : PEv X C (.Dict [] [] pos) .dnew := by
  refine pe_dnewK.imp fun σ H Q ⟨ρ, fp, T, G, R, w⟩ p hp => ?_
  have kp : Keep noA H (upd H p (.dK [])) := Keep.upd hp
  have hn : ∀ a, sgl p a → H a = none := fun a z => by rw [z]; exact hp
  have st := (StepE.refl (H := H) (fp := fp) (T := T)).grow (S2 := sgl p) (by rw [cup_noA]; exact R) kp hn
  have e0 : cup noA (sgl p) = sgl p := by funext a; simp [cup]
  rw [e0] at st
  exact w (.ref p) _ fp (sgl p) st (R.grow kp hn fun a z => by rw [z]; exact ⟨_, upd_same, rfl⟩) (.dK (U := noA) upd_same rfl (fun _ z => z.elim) (fun z => z) .nil)
theorem dmut_core {K : PySem.W.Frag} {ρ : Env} {σ : L2.St} {H H2 : Hp} {fp : Fp} {T G : Set'} {i : Nat} {kvs : List (Key × D)} {k : Key} {ds es : List D} {a : Addr} {vs : List (Key × V)} {U : Set'} {Q : VK} (R : RepS K ρ σ H fp T G) (kp : Keep noA H H2) (R2 : RepS K ρ σ H2 fp T G)
    (ev : σ[i]? = some (some (.ref a))) (ha : H a = some (.dK vs)) (sa : fp i a) (u : ∀ b, U b → fp i b) (nu : ¬ U a) {l : Addr} {ws zs : List V} (hl : U l)
    (go : ∀ H' zs fs, Keep (sgl l) H2 H' → H' l = some (.lst (ws ++ zs)) → OwnL K H' zs fs noA → OwnK K H' vs (setD k (.lst (ds ++ fs)) kvs) U) (lz : ∀ H', Keep (sgl l) H2 H' → OwnL K H' zs es noA)
    (q : PostE K σ H fp T G Q .all .non (ρ.set i (some (.all, .dK (setD k (.lst (ds ++ es)) kvs))))) : Q .non (upd H2 l (.lst (ws ++ zs))) := by
  have st : StepE H fp T H2 fp noA := ⟨fun a o h n => kp a o h fun z => z, fun a z => z.elim .inl fun z => z.elim, fun _ z => z.elim⟩
  have kL : Keep (sgl l) H2 (upd H2 l (.lst (ws ++ zs))) := fun b o e ne => by rw [upd_ne ne]; exact e
  have nal : a ≠ l := fun e => nu (by rw [e]; exact hl)
  obtain ⟨s1, s2⟩ := slot_write (S' := fp i) (T1 := noA) (x := (.all, .dK (setD k (.lst (ds ++ es)) kvs))) (ho := .lst (ws ++ zs)) R st (by rw [cup_noA]; exact R2) ev (u l hl) rfl (fun a z => .inl z) (fun _ z => z.elim) (fun _ _ z => z) ⟨(by decide : Ow.all ≠ .tra), (by decide : Ow.all ≠ .tra1)⟩ fun _ =>
    .dK (U := U) (by rw [upd_ne nal]; exact kp a _ ha fun z => z) sa u nu (go _ zs es kL upd_same (lz _ kL))
  exact PostE.solid (K := K) q rfl s1 s2 (A := noA) .non
theorem own_solidL {K : PySem.W.Frag} {H : Hp} {vs : List V} {ds : List D} (h : solidL ds = true) (l : IsL K noA H vs ds) : OwnL K H vs ds noA := IsL.own h l
theorem v_dapp (hC : MonoC C) (hu : X.A.units + 65 < cLine) {i : Nat} {x : Str} (hN : X.N[i]? = some x) (hv : Vis X.env.scope x) (hd : (x == ("__debug__" : Str)) = false) (hcd : (x == ("__classdict__" : Str)) = false) (hk : PEv X C b ek) (ha : PEv X C a ea) (hs : PlainIx b)
    (hline : (apos.endLine == pos.line) = true) (hst : noStar a = true) :
    PEv X C (.Call (.Attribute (.Subscript (.Name x p) b pos') "append" apos) [a] [] pos) (.dmut false i ek ea) := by
  refine (pe_bm PySem.F.plainAttrs_list PySem.F.slot_list_append PySem.F.type_list_append mt_append (pe_ix (ix_dk hu) (pe_var hN hv hd hcd) hk hs) (pa_cons ha pa_nil (star_cons hst)) rfl (few_one hst) hline (star_cons hst) (star_any (xs := []) rfl)).imp fun σ H Q ⟨ρ, fp, T, G, R, kvs, k, ds, hi, wk, hg, w⟩ => ?_
  obtain ⟨ad, vs, U, ev, hH, sa, u, nu, l⟩ := dict_at R hi
  refine ⟨_, ev, lock_run hC R wk fun o dk vk H1 ek kp1 R1 _ r1 => ?_⟩
  obtain ⟨rfl, _⟩ := keyOf_is ek r1
  obtain ⟨al, ws, e1, e2, e3, e4, _⟩ := (keep_own kp1 l).mut hg
  refine ⟨ad, .ref al, rfl, .inl ⟨vs, k, .inl (kp1 _ _ hH fun z => z), rfl, e1.symm⟩, .inl ⟨rfl, ws, SqL.of e2⟩, ?_⟩
  refine lock_run hC R1 w fun o d y H2 ⟨es, ex, hs, hz, q⟩ kp2 R2 _ r2 => ?_
  have kp : Keep noA H H2 := fun a o h n => kp2 a o (kp1 a o h n) n
  obtain ⟨al2, ws2, f1, f2, f3, f4, f5⟩ := (keep_own kp l).mut hg
  have ea : al2 = al := V.ref.inj (Option.some.inj (f1.symm.trans e1))
  subst ea
  have ew : ws2 = ws := by have := f2.symm.trans (kp2 _ _ e2 fun z => z); injection this with this; injection this
  subst ew
  rw [if_neg Bool.false_ne_true] at ex
  subst ex
  refine ⟨al2, ws2, y, rfl, rfl, f2, by rw [f3]; simp at hz; omega, dmut_core R kp R2 ev hH sa u nu f4 f5 (fun H' kL => ?_) q⟩
  have hsd : VH.solid d = true := by simpa [solidL] using hs
  have mu : MutS (sgl al2) H2 := fun b z => by rw [z]; exact ⟨_, f2, rfl⟩
  exact OwnL.step kL mu (.cons (Is.own hsd r2) .nil (U := noA) (fun _ _ z => z) (fun _ z => z) fun _ z => z) fun _ z => z.elim
theorem v_dext (hC : MonoC C) (hu : X.A.units + 65 < cLine) {i : Nat} {x : Str} (hN : X.N[i]? = some x) (hv : Vis X.env.scope x) (hd : (x == ("__debug__" : Str)) = false) (hcd : (x == ("__classdict__" : Str)) = false) (hk : PEv X C b ek) (ha : PEv X C a ea) (hs : PlainIx b)
    (hline : (apos.endLine == pos.line) = true) (hst : noStar a = true) :
    PEv X C (.Call (.Attribute (.Subscript (.Name x p) b pos') "extend" apos) [a] [] pos) (.dmut true i ek ea) := by
  refine (pe_bm PySem.F.plainAttrs_list PySem.F.slot_list_extend PySem.F.type_list_extend mt_extend (pe_ix (ix_dk hu) (pe_var hN hv hd hcd) hk hs) (pa_cons ha pa_nil (star_cons hst)) rfl (few_one hst) hline (star_cons hst) (star_any (xs := []) rfl)).imp fun σ H Q ⟨ρ, fp, T, G, R, kvs, k, ds, hi, wk, hg, w⟩ => ?_
  obtain ⟨ad, vs, U, ev, hH, sa, u, nu, l⟩ := dict_at R hi
  refine ⟨_, ev, lock_run hC R wk fun o dk vk H1 ek kp1 R1 _ r1 => ?_⟩
  obtain ⟨rfl, _⟩ := keyOf_is ek r1
  obtain ⟨al, ws, e1, e2, e3, e4, _⟩ := (keep_own kp1 l).mut hg
  refine ⟨ad, .ref al, rfl, .inl ⟨vs, k, .inl (kp1 _ _ hH fun z => z), rfl, e1.symm⟩, .inl ⟨rfl, ws, SqL.of e2⟩, ?_⟩
  refine lock_run hC R1 w fun o d y H2 ⟨es, ex, hs, hz, q⟩ kp2 R2 _ r2 => ?_
  have kp : Keep noA H H2 := fun a o h n => kp2 a o (kp1 a o h n) n
  obtain ⟨al2, ws2, f1, f2, f3, f4, f5⟩ := (keep_own kp l).mut hg
  have ea : al2 = al := V.ref.inj (Option.some.inj (f1.symm.trans e1))
  subst ea
  have ew : ws2 = ws := by have := f2.symm.trans (kp2 _ _ e2 fun z => z); injection this with this; injection this
  subst ew
  rw [if_pos rfl] at ex
  subst ex
  obtain ⟨b2, zs, rfl, _, hb, lz⟩ := r2.inv_lst
  refine ⟨al2, b2, ws2, zs, rfl, rfl, f2, hb, by rw [f3, lz.length]; exact hz, dmut_core R kp R2 ev hH sa u nu f4 f5 (fun H' kL => ?_) q⟩
  have mu : MutS (sgl al2) H2 := fun b z => by rw [z]; exact ⟨_, f2, rfl⟩
  exact OwnL.step kL mu (IsL.own hs lz) fun _ z => z.elim
theorem m1_of {m : Str} {o : Expr} (hb : attributeBase o m X.env (eval o X.env) = eval o X.env) (hline : (apos.endLine == pos.line) = true) (hst : noStar a = true) : M1 X o m apos a pos :=
  ⟨hb, few_one hst, hline, by rw [star_cons hst]; rfl⟩
theorem v_dpop (hC : MonoC C) {i : Nat} {x : Str} (hN : X.N[i]? = some x) (hv : Vis X.env.scope x) (hd : (x == ("__debug__" : Str)) = false) (hcd : (x == ("__classdict__" : Str)) = false) (hk : PEv X C a ek)
    (hline : (apos.endLine == pos.line) = true) (hst : noStar a = true) :
    PEv X C (.Call (.Attribute (.Name x p) "pop" apos) [a] [] pos) (.dpop i ek) := by
  refine (pe_dpop1 (pe_var hN hv hd hcd) hk (m1_of rfl hline hst)).imp fun σ H Q ⟨ρ, fp, T, G, R, kvs, k, d, hi, wk, hg, q⟩ => ?_
  obtain ⟨ad, vs, U, ev, hH, sa, u, nu, l⟩ := dict_at R hi
  refine ⟨_, ev, ad, rfl, .inl ⟨vs, .inl hH⟩, lock_run hC R wk fun o dk vk H1 ek kp1 R1 _ r1 => ?_⟩
  obtain ⟨rfl, _⟩ := keyOf_is ek r1
  obtain ⟨y, U1, U2, ey, oy, l1, dj, g1, g2⟩ := (keep_own kp1 l).split hg
  have hH1 := kp1 _ _ hH fun z => z
  refine ⟨vs, k, y, hH1, rfl, ey, ?_⟩
  have st : StepE H fp T H1 fp noA := ⟨fun a o h n => kp1 a o h fun z => z, fun a z => z.elim .inl fun z => z.elim, fun _ z => z.elim⟩
  have kL : Keep (sgl ad) H1 (upd H1 ad (.dK (dropK vs k))) := fun b o e ne => by rw [upd_ne ne]; exact e
  have mL : MutS (sgl ad) H1 := fun b z => by rw [z]; exact ⟨_, hH1, rfl⟩
  have nU1 : ¬ U1 ad := fun z => nu (g1 _ z)
  have nU2 : ¬ U2 ad := fun z => nu (g2 _ z)
  obtain ⟨s1, s2⟩ := slot_write (S' := cup (sgl ad) U1) (T1 := U2) (x := (.all, .dK (dropD kvs k))) (ho := .dK (dropK vs k)) R st (by rw [cup_noA]; exact R1) ev sa rfl
    (fun a z => z.elim (fun z => by rw [z]; exact .inl sa) fun z => .inl (u a (g1 a z))) (fun a z => .inl (u a (g2 a z))) (fun a z q => z.elim (fun z => nU2 (by rw [← z]; exact q)) fun z => dj a z q) ⟨(by decide : Ow.all ≠ .tra), (by decide : Ow.all ≠ .tra1)⟩ fun _ =>
    .dK (U := U1) upd_same (.inl rfl) (fun a z => .inr z) nU1 (l1.step kL mL fun a u z => nU1 (by rw [← z]; exact u))
  refine q y _ _ U2 s1 s2 ?_
  have o' : Own X.K (upd H1 ad (.dK (dropK vs k))) y d U2 := oy.step kL mL fun a u z => nU2 (by rw [← z]; exact u)
  by_cases hs : VH.solid d = true
  · rw [nrm_solid hs]; exact o'
  · rw [nrm_not hs]; exact o'
theorem dget_core {K : PySem.W.Frag} {ρ : Env} {σ : L2.St} {H : Hp} {fp : Fp} {T G : Set'} {i : Nat} {w : Ow} {kvs : List (Key × D)} (R : RepS K ρ σ H fp T G) (hi : ρ[i]? = some (some (w, .dK kvs))) : ∃ a vs, σ[i]? = some (some (.ref a)) ∧ Rd H a (.dK vs) ∧ IsK K noA H vs kvs := by
  obtain ⟨v, ev, nt, r⟩ := R.slot i _ _ hi
  obtain ⟨a, vs, rfl, _, h, l⟩ := r.now.inv_dK
  exact ⟨a, vs, ev, h, l⟩
theorem Rd.keep {H H1 : Hp} {a : Addr} {o : HO} (kp : Keep noA H H1) (h : Rd H a o) : Rd H1 a o := h.elim (fun h => .inl (kp _ _ h fun z => z)) fun ⟨x, h⟩ => .inr ⟨x, kp _ _ h fun z => z⟩
theorem dget_val {K : PySem.W.Frag} {H : Hp} {vs : List (Key × V)} {kvs : List (Key × D)} {k : Key} {d : D} {v : V} (l : IsK K noA H vs kvs) (h : Is K noA H v d) : Is K noA H ((valV vs k).getD v) ((getK kvs k).getD d) := by
  cases e : getK kvs k with
  | none => rw [l.none e]; exact h
  | some d' => obtain ⟨v', e', i⟩ := l.get e; rw [e']; exact i
theorem v_dget1 (hC : MonoC C) (hu : X.A.units + 65 < cLine) {i : Nat} {x : Str} (hN : X.N[i]? = some x) (hv : Vis X.env.scope x) (hd : (x == ("__debug__" : Str)) = false) (hcd : (x == ("__classdict__" : Str)) = false) (hk : PEv X C a ek)
    (hline : (apos.endLine == pos.line) = true) (hst : noStar a = true) :
    PEv X C (.Call (.Attribute (.Name x p) "get" apos) [a] [] pos) (.dget false i ek .non) := by
  refine (pe_dget1 (by omega) (pe_var hN hv hd hcd) hk (m1_of rfl hline hst)).imp fun σ H Q ⟨ρ, fp, T, G, R, w, kvs, k, hi, wk, hs, hs2, q⟩ => ?_
  obtain ⟨ad, vs, ev, hH, l⟩ := dget_core R hi
  refine ⟨_, ev, ad, rfl, .inl ⟨vs, hH⟩, lock_run hC R wk fun o dk vk H1 ek kp1 R1 _ r1 => ?_⟩
  obtain ⟨rfl, _⟩ := keyOf_is ek r1
  refine ⟨_, .inl ⟨vs, k, Rd.keep kp1 hH, rfl, rfl⟩, ?_⟩
  have l1 : IsK X.K noA H1 vs kvs := l.step kp1 (fun _ z => z.elim) (fun _ z => z.elim) Grow.refl
  exact PostE.solid (K := X.K) q hs2 (S1 := noA) ⟨fun a o h n => kp1 a o h fun z => z, fun a z => z.elim .inl fun z => z.elim, fun _ z => z.elim⟩ (by rw [cup_noA]; exact R1) (dget_val l1 .non)
theorem v_dget2 (hC : MonoC C) (hu : X.A.units + 65 < cLine) {i : Nat} {x : Str} (hN : X.N[i]? = some x) (hv : Vis X.env.scope x) (hd : (x == ("__debug__" : Str)) = false) (hcd : (x == ("__classdict__" : Str)) = false) (hk : PEv X C a ek) (he : PEv X C b ee)
    (hline : (apos.endLine == pos.line) = true) (hst : noStar a = true) (hst2 : noStar b = true) :
    PEv X C (.Call (.Attribute (.Name x p) "get" apos) [a, b] [] pos) (.dget true i ek ee) := by
  have m2 : M2 X (.Name x p) "get" apos a b pos := ⟨rfl, by rw [star_cons hst, star_cons hst2]; rfl, hline, by rw [star_cons hst, star_cons hst2]; rfl⟩
  refine (pe_dget2 (by omega) (pe_var hN hv hd hcd) hk he m2).imp fun σ H Q ⟨ρ, fp, T, G, R, w, kvs, k, hi, wk, we⟩ => ?_
  obtain ⟨ad, vs, ev, hH, l⟩ := dget_core R hi
  refine ⟨_, ev, ad, rfl, .inl ⟨vs, hH⟩, lock_run hC R wk fun o dk vk H1 ek kp1 R1 _ r1 => ?_⟩
  obtain ⟨rfl, _⟩ := keyOf_is ek r1
  refine lock_run hC R1 we fun o d y H2 ⟨hs, hs2, q⟩ kp2 R2 _ r2 => ?_
  have kp : Keep noA H H2 := fun a o h n => kp2 a o (kp1 a o h n) n
  refine ⟨_, .inl ⟨vs, k, Rd.keep kp hH, rfl, rfl⟩, ?_⟩
  have l1 : IsK X.K noA H2 vs kvs := l.step kp (fun _ z => z.elim) (fun _ z => z.elim) Grow.refl
  exact PostE.solid (K := X.K) q hs2 (S1 := noA) ⟨fun a o h n => kp a o h fun z => z, fun a z => z.elim .inl fun z => z.elim, fun _ z => z.elim⟩ (by rw [cup_noA]; exact R2) (dget_val l1 r2)
end
end VH
namespace VH
open PySem PySem.Spec PyProof.Rows L2

section
variable {K : PySem.W.Frag} {C : CallS} {lk : Nat → Bool} {ρ ρ1 ρ2 : Env} {σ σ1 : L2.St} {H H1 H2 : Hp} {fp fp1 fp2 : Fp} {T G S S1 S2 A' B : Set'} {A : Ends} {o k : Ow} {d : D} {v : V} {e : E} {t : Tg}
theorem own_dK {o : Ow} {ds : List (Key × D)} {S A B : Set'} {H : Hp} (r : RepV K H o v (.dK ds) S B A) (ho : o = .one ∨ o = .all) :
    ∃ a vs, v = .ref a ∧ H a = some (.dK vs) ∧ S a ∧ vs.length = ds.length ∧ ((o = .one ∧ IsK K A H vs ds) ∨ (o = .all ∧ ∃ U : Set', (∀ b, U b → S b) ∧ ¬ U a ∧ OwnK K H vs ds U)) := by
  rcases ho with rfl | rfl
  · obtain ⟨a, vs, e, s, h, l⟩ := r
    exact ⟨a, vs, e, h, s, l.length, .inl ⟨rfl, l⟩⟩
  · have r' : Own K H v (.dK ds) S := r
    cases r' with
    | dK h sa u nu l => exact ⟨_, _, rfl, h, sa, (l.is (A := noA) fun _ _ z => z).length, .inr ⟨rfl, _, u, nu, l⟩⟩
theorem dset_core {i : Nat} {oi : Ow} {kvs : List (Key × D)} {key : Key} {P : Hp → Prop} (R : RepS K ρ σ H fp T G) (st : StepE H fp T H1 fp1 S1) (R1 : RepS K ρ1 σ H1 fp1 (cup T S1) G)
    (kl : Kids K H1 k [v] [d] S1 (cup (cup (un fp1) T) G)) (hi : ρ1[i]? = some (some (oi, .dK kvs))) (ho : oi = .one ∨ oi = .all) (nd : oi = .all → k = .all → (kvs.map (·.1)).Nodup)
    (q : ∀ H2 fp2, StepE H fp T H2 fp2 noA → RepS K (ρ1.set i (some (setOw oi k, .dK (putD kvs key d)))) σ H2 fp2 T G → P H2) :
    ∃ l vs, σ[i]? = some (some (.ref l)) ∧ H1 l = some (.dK vs) ∧ vs.length = kvs.length ∧ P (upd H1 l (.dK (putK vs key v))) := by
  obtain ⟨w, ev, nt, r⟩ := R1.slot i oi _ hi
  obtain ⟨l, vs, rfl, h, sl, hn, cs⟩ := own_dK r ho
  refine ⟨l, vs, ev, h, hn, ?_⟩
  have kL : Keep (sgl l) H1 (upd H1 l (.dK (putK vs key v))) := fun a o e ne => by rw [upd_ne ne]; exact e
  have mL : MutS (sgl l) H1 := fun a z => by rw [z]; exact ⟨_, h, rfl⟩
  have nS1 : ¬ S1 l := fun z => R1.disT l ⟨i, sl⟩ (.inr z)
  have fin : ∀ {H2 fp2}, StepE H fp T H2 fp2 noA → RepS K (ρ1.set i (some (setOw oi k, .dK (putD kvs key d)))) σ H2 fp2 (cup T noA) G → P H2 := fun {H2 fp2} a b => q H2 fp2 a (by rw [cup_noA] at b; exact b)
  unfold setOw at fin
  by_cases hk : oi = .all ∧ k = .all
  · rw [if_pos hk] at fin
    obtain ⟨rfl, rfl⟩ := hk
    rcases cs with ⟨e, _⟩ | ⟨_, U, hU, nU, lU⟩
    · cases e
    rcases kl.one with ⟨_, lw⟩ | ⟨e, _⟩
    · have dUS : ∀ a, U a → ¬ S1 a := fun a u s => R1.disT a ⟨i, hU a u⟩ (.inr s)
      obtain ⟨s1, s2⟩ := slot_write (S' := cup (fp1 i) S1) (T1 := noA) (x := (.all, .dK (putD kvs key d))) (ho := .dK (putK vs key v)) R st R1 ev sl rfl (fun a z => z) (fun _ z => z.elim) (fun _ _ z => z) ⟨(by decide : Ow.all ≠ .tra), (by decide : Ow.all ≠ .tra1)⟩ fun _ =>
        .dK (U := cup U S1) upd_same (.inl sl) (fun a z => z.elim (fun z => .inl (hU a z)) .inr) (fun z => z.elim nU nS1)
          (OwnK.put (nd rfl rfl) (lU.step kL mL fun a u z => nU (z ▸ u)) (lw.step kL mL fun a s z => nS1 (z ▸ s)) fun a u s => dUS a u s)
      exact fin s1 s2
    · cases e
  · rw [if_neg hk] at fin
    obtain ⟨s1, s2⟩ := slot_write (S' := sgl l) (T1 := noA) (x := (.one, .dK (putD kvs key d))) (ho := .dK (putK vs key v)) R st R1 ev sl rfl (fun a z => by rw [z]; exact .inl sl) (fun _ z => z.elim) (fun _ _ z => z) ⟨(by decide : Ow.one ≠ .tra), (by decide : Ow.one ≠ .tra1)⟩ fun _ => by
      refine ⟨l, _, rfl, rfl, upd_same, IsK.put ?_ ?_⟩
      · rcases cs with ⟨_, lo⟩ | ⟨_, U, hU, nU, lU⟩
        · refine IsK.step (F := sgl l) (A := cup (cup (un fp1) (cup T S1)) G) kL mL (fun a z => by rw [z]; exact .inl (.inl ⟨i, sl⟩)) (fun a z => .inl ?_) lo
          rcases cup_un_set z with z | z
          · rw [z]; exact .inl (.inl ⟨i, sl⟩)
          · exact cup_un_sub z fun _ z => z.elim
        · refine OwnK.is (lU.step kL mL fun a u z => nU (z ▸ u)) fun a u z => ?_
          rcases cup_un_set z with z | z
          · exact nU (z ▸ u)
          · rcases z with (⟨j, z⟩ | z | z) | z
            · by_cases hj : j = i
              · rw [if_pos hj] at z; exact z
              · rw [if_neg hj] at z; exact hj (R1.dis _ _ _ z (hU a u))
            · exact R1.disT a ⟨i, hU a u⟩ (.inl z)
            · exact z
            · exact R1.disG a (.inl ⟨i, hU a u⟩) z
      · have lw : Is K (cup (cup (un fp1) T) G) H1 v d := by
          rcases kl.one with ⟨_, x⟩ | ⟨_, x⟩
          · exact x.is (apart st R1)
          · exact x
        refine Is.step (F := sgl l) (A := cup (cup (un fp1) T) G) kL mL (fun a z => by rw [z]; exact .inl (.inl ⟨i, sl⟩)) (fun a z => .inl ?_) lw
        rcases cup_un_set z with z | z
        · rw [z]; exact .inl (.inl ⟨i, sl⟩)
        · rcases z with (⟨j, z⟩ | z | z) | z
          · by_cases hj : j = i
            · rw [if_pos hj] at z; exact z.elim
            · rw [if_neg hj] at z; exact .inl (.inl ⟨j, z⟩)
          · exact .inl (.inr z)
          · exact z.elim
          · exact .inr z
    exact fin s1 s2
end
section
variable {X : Cx} {C : CallS} {lk : Nat → Bool} {pos pos' p : Pos} {e b : Expr} {ee eb : E} {n : Str} {i : Nat}
def rSetDk : V → V → V → Hp → (Hp → Prop) → Prop := fun o i v H Q => ∃ a H', o = .ref a ∧ DPut H a i v H' ∧ Q H'
theorem set_dk (hu : X.A.units + 65 < cLine) : PSet X rSetDk := by
  intro pins s σ H o i v ov iv u Q I ro ri rv h
  obtain ⟨a, H', rfl, g, q⟩ := h
  cases ro
  exact d_setItem (by omega) I g ri rv fun s' I' => ⟨H', I', q⟩
theorem q_dset (hC : MonoC C) (hu : X.A.units + 65 < cLine) (hi : X.N[i]? = some n) (hv : Vis X.env.scope n) (hd : (n == ("__debug__" : Str)) = false) (hcd : (n == ("__classdict__" : Str)) = false) (h : PEv X C e ee) (hb : PEv X C b eb)
    (hs : swapsWithSole [.Subscript (.Name n p) b pos'] e pos.line X.env = pure false) (hw : swappedStores [.Subscript (.Name n p) b pos'] e X.env = pure none)
    (h1 : (assignEach [.Subscript (.Name n p) b pos'] X.env).map (·.2) = [assign (.Subscript (.Name n p) b pos') X.env])
    (ha : ∀ v, assign (.Subscript (.Name n p) b pos') X.env v = (do
      let ov ← holding [v] (eval (.Name n p) X.env)
      let iv ← holding [v, ov] (eval b X.env)
      standAt pos'
      holding [v, ov, iv] (setItem ov iv v)
      release [v, ov, iv] [])) :
    PSv X C lk (.Assign [.Subscript (.Name n p) b pos'] e pos) (.dset i eb ee) := by
  refine (ps_asg h (pg_sub (pe_var hi hv hd hcd) hb (set_dk hu) ha) hs hw h1).imp fun A σ H ⟨ρ, fp, T, G, R, w⟩ => ?_
  refine tE_of hC R w fun o d ρ1 v H1 fp1 S1 ⟨k, oi, kvs, key, ek, hi1, ho, wb, hz, nd, q⟩ st R1 r => ?_
  obtain ⟨v0, ev0, _, r0⟩ := R1.slot i _ _ hi1
  refine ⟨v0, ev0, lock_run hC R1 wb fun o2 dk vk H2 ekk kp R2 _ rk => ?_⟩
  obtain ⟨rfl, _⟩ := keyOf_is ekk rk
  have st2 : StepE H fp T H2 fp1 S1 := by
    have := st.grow (S2 := noA) R1 kp fun _ z => z.elim
    rw [cup_noA] at this; exact this
  have r2 : RepV X.K H2 o v d S1 (cup (un fp1) (cup T S1)) (cup (cup (un fp1) (cup T S1)) G) := r.still kp Grow.refl Grow.refl
  obtain ⟨l, vs, ev, hl, hn, q⟩ := dset_core (key := key) (P := fun H3 => A.nx σ H3) R st2 R2 (kid_one r2 ek (apart st2 R2) (lessG (K := X.K))) hi1 ho nd fun H3 fp3 st3 R3 => q σ H3 fp3 LkS.refl st3 R3
  have e0 : v0 = .ref l := Option.some.inj (Option.some.inj (ev0.symm.trans ev))
  exact ⟨l, _, e0, .inl ⟨vs, key, hl, rfl, by rw [hn]; exact hz, rfl⟩, q⟩
end

section
variable {K : PySem.W.Frag} {C : CallS} {ρ ρ1 ρ2 : Env} {σ : L2.St} {H H1 H2 H' : Hp} {fp fp1 fp2 : Fp} {T G S S1 S2 A A' B B' : Set'} {o k : Ow} {d : D} {v x : V} {D0 : Addr}
def KidsK (K : PySem.W.Frag) (H : Hp) (k : Ow) (vs : List (Key × V)) (ds : List (Key × D)) (S A : Set') : Prop := (k = .all ∧ OwnK K H vs ds S) ∨ (k = .sh ∧ IsK K A H vs ds)
theorem KidsK.step {vs : List (Key × V)} {ds : List (Key × D)} {F : Set'} (h : KidsK K H k vs ds S A) (kp : Keep F H H') (m : MutS F H) (hS : ∀ a, S a → ¬ F a) (hF : ∀ a, F a → A a) (g : Grow A A' H) : KidsK K H' k vs ds S A' := by
  rcases h with ⟨e, h⟩ | ⟨e, h⟩
  · exact .inl ⟨e, h.step kp m hS⟩
  · exact .inr ⟨e, h.step kp m hF g⟩
theorem KidsK.put {k' : Ow} {key : Key} {vs : List (Key × V)} {ds : List (Key × D)} (nd : (ds.map (·.1)).Nodup) (h : KidsK K H k vs ds S1 A) (h2 : Kids K H k' [v] [d] S2 A) (dj : ∀ a, S1 a → ¬ S2 a) (q1 : ∀ a, S1 a → ¬ A a) (q2 : ∀ a, S2 a → ¬ A a) :
    KidsK K H (minO k k') (putK vs key v) (putD ds key d) (cup S1 S2) A := by
  rcases h with ⟨rfl, l⟩ | ⟨rfl, l⟩
  · rcases h2.one with ⟨rfl, o⟩ | ⟨rfl, i⟩
    · exact .inl ⟨rfl, OwnK.put nd l o dj⟩
    · exact .inr ⟨rfl, IsK.put (l.is q1) i⟩
  · rcases h2.one with ⟨rfl, o⟩ | ⟨rfl, i⟩
    · exact .inr ⟨rfl, IsK.put l (o.is q2)⟩
    · exact .inr ⟨rfl, IsK.put l i⟩
/-- what holds between two turns -/
structure LcD (K : PySem.W.Frag) (σ : L2.St) (H1 : Hp) (ρ1 : Env) (fp1 : Fp) (T G : Set') (L : HL) (D0 : Addr) (body : D → Env → (Option (Ow × Key × D) → Env → Prop) → Prop) (ds : List D) (P : Ow → List (Key × D) → Env → Prop) (i : Nat) (H : Hp) (ka : Ow) (da : List (Key × D)) (va : List (Key × V)) (Sa : Set') : Prop where
  le : i ≤ ds.length
  keep : Keep noA H1 H
  new : ∀ a, Sa a → H1 a = none
  mu : MutS Sa H
  at_ : H D0 = some (.dK va)
  nD : ¬ Sa D0
  few : va.length ≤ i
  nd : (da.map (·.1)).Nodup
  kids : KidsK K H ka va da Sa (cup (cup (un fp1) (cup T (sgl D0))) G)
  held : HeldL K H L (sgl D0) (cup (cup (un fp1) (cup T (cup (sgl D0) Sa))) G)
  go : wpDcL body (ds.drop i) ka da ρ1 P
end
section
variable {X : Cx} {C : CallS} {tg x elt : Expr} {ifs : List Expr} {it : VH.It} {t : Tg} {c : Eo} {e ke : E}
theorem dc_ok (hC : MonoC C) {K : PySem.W.Frag} {σ : L2.St} {H : Hp} {Q : VK} (w : tE K C (.dc t it c ke e) σ H Q) : tDc (tI K C it) (gT K t) (tCn K C c) (tE K C ke) (tE K C e) (tgs t) σ H Q := by
  obtain ⟨ρ, fp, T, G, R, w⟩ := w
  refine ⟨ρ, fp, T, G, R, wpIt_mono hC it _ _ _ (fun o ds ρ1 ⟨hz, q⟩ J H1 fp1 L st1 R1 nt held feed D0 hD => ?_) w⟩
  have kp0 : Keep noA H1 (upd H1 D0 (.dK [])) := Keep.upd hD
  let body : D → Env → (Option (Ow × Key × D) → Env → Prop) → Prop := fun d ρ' K => ∃ ρ2, bindT t (itmO o) d (wipeE (lock ρ') (tgs t)) = some ρ2 ∧ wpC C c ρ2 fun b ρ3 =>
        if b = true then wpE C ke ρ3 fun _ dk ρ4 => ∃ k, keyOf dk = some k ∧ wpE C e ρ4 fun o' d' _ => ∃ kk, chO o' d' = some kk ∧ K (some (kk, k, d')) ρ' else K none ρ'
  let P : Ow → List (Key × D) → Env → Prop := fun k l ρ2 => PostE K σ H fp T G Q (rootO k) (.dK l) ρ2
  have hgo : wpDcL body ds .all [] ρ1 P := q
  -- what is gone over, as it is held through the turns
  have dn : ∃ L' : HL, (∀ h ∈ L', h.1 ≠ .tra ∧ h.1 ≠ .tra1) ∧ (∀ H A, HeldL K H L' (sgl D0) A → HeldL K H L (sgl D0) A) ∧ HeldL K H1 L' (sgl D0) (cup (cup (un fp1) T) G) := by
    have gD : Grow noA (sgl D0) H1 := fun a z => by rw [z]; exact .inr hD
    refine ⟨L.map fun h => ((match h.1 with | .tra => .bor | .tra1 => .bor1 | o => o), h.2), fun h hm => ?_, fun H A hh h hm => ?_, fun h hm => ?_⟩
    · obtain ⟨⟨o, v, d⟩, hm, rfl⟩ := List.mem_map.mp hm
      cases o <;> exact ⟨fun e => Ow.noConfusion e, fun e => Ow.noConfusion e⟩
    · have := hh _ (List.mem_map.mpr ⟨h, hm, rfl⟩)
      obtain ⟨o, v, d⟩ := h
      cases o with
      | tra => exact Is.less this fun _ z => z.elim
      | tra1 => exact Is1.step (F := noA) Keep.refl (fun _ z => z.elim) (fun _ z => z.elim) (fun _ z => z.elim) (fun _ z => z.elim) Grow.refl this
      | _ => exact this
    · obtain ⟨⟨o, v, d⟩, hm2, rfl⟩ := List.mem_map.mp hm
      have := held _ hm2
      have m0 : MutS noA H1 := fun _ z => z.elim
      cases o with
      | tra => exact Is.step (F := noA) Keep.refl m0 (fun _ z => z.elim) gD this
      | tra1 => exact Is1.step (F := noA) Keep.refl m0 (fun _ z => z.elim) (fun _ z => z.elim) gD Grow.refl this
      | bor => exact Is.step (F := noA) Keep.refl m0 (fun _ z => z.elim) gD (Is.less this fun _ z => z.elim)
      | bor1 => exact Is1.step (F := noA) (B := noA) Keep.refl m0 (fun _ z => z.elim) (fun _ z => z.elim) gD Grow.refl (Is1.step (F := noA) Keep.refl m0 (fun _ z => z.elim) (fun _ z => z.elim) (fun _ z => z.elim) Grow.refl this)
      | _ => exact this
  obtain ⟨L', ntL, upL, held'⟩ := dn
  let Inv : Nat → Hp → Prop := fun i H => ∃ ka da va Sa, LcD K σ H1 ρ1 fp1 T G L' D0 body ds P i H ka da va Sa
  have start : Inv 0 (upd H1 D0 (.dK [])) := by
    refine ⟨.all, [], [], noA, Nat.zero_le _, kp0, fun _ z => z.elim, fun _ z => z.elim, upd_same, fun z => z, Nat.le_refl _, List.nodup_nil, .inl ⟨rfl, .nil⟩, ?_, hgo⟩
    rw [cup_noA]
    refine heldL_still held' kp0 (fun a z => .inl z) fun a z => ?_
    rcases z with (z | z | z) | z
    · exact .inl (.inl (.inl z))
    · exact .inl (.inl (.inr z))
    · rw [z]; exact .inr hD
    · exact .inl (.inr z)
  -- the slots, at a turn
  have rep : ∀ {i H ka da va Sa}, LcD K σ H1 ρ1 fp1 T G L' D0 body ds P i H ka da va Sa → RepS K ρ1 σ H fp1 (cup T (cup (sgl D0) Sa)) G := fun {i H ka da va Sa} I =>
    R1.grow (S := cup (sgl D0) Sa) I.keep (fun a z => z.elim (fun z => by rw [z]; exact hD) fun z => I.new a z) fun a z => z.elim (fun z => by rw [z]; exact ⟨_, I.at_, rfl⟩) fun z => I.mu a z
  have stp : ∀ {i H ka da va Sa}, LcD K σ H1 ρ1 fp1 T G L' D0 body ds P i H ka da va Sa → StepE H1 fp1 T H fp1 (cup (sgl D0) Sa) := fun {i H ka da va Sa} I =>
    ⟨fun a o h n => I.keep a o h fun z => z, fun a z => z.elim .inl fun z => .inr (z.elim (fun z => by rw [z]; exact hD) fun z => I.new a z), fun a z t => R1.track (.inl (.inr t)) (z.elim (fun z => by rw [z]; exact hD) fun z => I.new a z)⟩
  refine ⟨fun i m H => m = ds.length - i ∧ Inv i H, ⟨ds.length, by simp, start⟩, ?_⟩
  rintro i m H2 ⟨rfl, ka, da, va, Sa, I⟩
  obtain ⟨stop, turn⟩ := feed H2 _ _ (upL _ _ I.held)
  by_cases hlt' : ds.length ≤ i
  · refine .inl ⟨stop i (by omega), ?_⟩
    have g := I.go
    rw [List.drop_of_length_le (by omega)] at g
    have g : P ka da ρ1 := g
    have sB := StepE.behind (S1 := noA) R st1 (stp I)
    rcases I.kids with ⟨rfl, l⟩ | ⟨rfl, l⟩
    · exact g (.ref D0) H2 fp1 (cup (sgl D0) Sa) sB (rep I) (.dK I.at_ (.inl rfl) (fun a z => .inr z) I.nD l)
    · exact g (.ref D0) H2 fp1 (sgl D0) (sB.less fun a z => .inl z) ((rep I).lessT fun a z => z.elim .inl fun z => .inr (.inl z)) ⟨D0, va, rfl, rfl, I.at_, l⟩
  · have hlt : i < ds.length := by omega
    obtain ⟨go, yl⟩ := turn i ds[i] (List.getElem?_eq_getElem hlt)
    refine .inr ⟨go, fun H => Inv (i + 1) H, fun H' h => ⟨ds.length - (i + 1), by omega, rfl, h⟩, fun x H' hy => ?_⟩
    obtain ⟨kpx, rx⟩ := yl x H' hy
    have gx := I.go
    rw [List.drop_eq_getElem_cons hlt] at gx
    have gx : ∃ ρ2, bindT t (itmO o) ds[i] (wipeE (lock ρ1) (tgs t)) = some ρ2 ∧ wpC C c ρ2 fun b ρ3 =>
          if b = true then wpE C ke ρ3 fun _ dk ρ4 => ∃ k, keyOf dk = some k ∧ wpE C e ρ4 fun o' d' _ => ∃ kk, chO o' d' = some kk ∧ wpDcL body (ds.drop (i + 1)) (minO ka kk) (putD da k d') ρ1 P
          else wpDcL body (ds.drop (i + 1)) ka da ρ1 P := gx
    obtain ⟨ρ2, eb, w2⟩ := gx
    have IH : ∀ {H4}, Keep noA H' H4 → LcD K σ H1 ρ1 fp1 T G L' D0 body ds P i H4 ka da va Sa := fun {H4} kp4 => by
      have kk : Keep noA H2 H4 := fun a o h n => kp4 a o (kpx a o h n) n
      exact ⟨I.le, fun a o h n => kk a o (I.keep a o h n) n, I.new, fun a z => by obtain ⟨o, h, m⟩ := I.mu a z; exact ⟨o, kk a o h fun z => z, m⟩, kk _ _ I.at_ fun z => z, I.nD, I.few, I.nd,
        I.kids.step kk (fun _ z => z.elim) (fun _ _ z => z) (fun _ z => z.elim) Grow.refl, heldL_still I.held kk Grow.refl Grow.refl, I.go⟩
    have RH := rep (IH (fun a o h _ => h))
    have rx' : RepV K H' (itmO o) x ds[i] noA (if o = .tra then noA else sgl D0) (cup (cup (un fp1) (cup T (cup (sgl D0) Sa))) G) := by
      by_cases hs : VH.solid ds[i] = true
      · exact RepV.solid hs rx.now
      · rw [nrm_not hs] at rx; exact rx
    have hitm : itmO o ≠ .tra ∧ itmO o ≠ .tra1 := by cases o <;> exact ⟨by decide, by decide⟩
    have rl : RepV K H' (itmO o) x ds[i] noA noA (cup (cup (un fp1) (cup T (cup (sgl D0) Sa))) G) := rx'.fewer (fun _ z => z.elim) fun _ z => z
    have un0 : ∀ {a}, cup (un nofp) noA a → noA a := fun {a} z => by
      rcases z with ⟨_, z⟩ | z
      · exact z
      · exact z
    -- the turn: target, test, key, value
    have Rw := RH.lock.wipe (tgs t)
    refine bind_ok t (S := noA) (T := noA) (by rw [cup_noA]; exact Rw) rl hitm (by rw [cup_noA]; exact fun a z => un0 z) (by rw [cup_noA]; exact fun a z => z.elim (fun z => (un0 z).elim) fun z => z) (fun _ z => z.elim) eb fun σ' fp' R' g1 hs hl => ?_
    have hsσ : ∀ j, j ∉ tgs t → σ'[j]? = σ[j]? := fun j hj => (hs j hj).trans (wipe_get hj)
    have hlσ : σ'.length = σ.length := hl.trans (wipe_length _ _)
    have ufp' : ∀ a, ¬ un fp' a := fun a z => (g1 a z).elim (fun z => by rw [un_nofp] at z; exact z) fun z => z
    refine ⟨wipe_eq hlσ hsσ, ρ2, fp', noA, _, R', wpC_mono hC c _ _ _ (fun b ρ3 q H3 fp3 S3 st3 R3 => ?_) w2⟩
    have k3 : Keep noA H' H3 := fun a o h n => st3.keep a o h (ufp' a)
    cases b with
    | false =>
      rw [if_neg Bool.false_ne_true] at q
      show if false = true then _ else Inv (i + 1) H3
      rw [if_neg Bool.false_ne_true]
      have J := IH k3
      exact ⟨ka, da, va, Sa, hlt, J.keep, J.new, J.mu, J.at_, J.nD, Nat.le_succ_of_le J.few, J.nd, J.kids, J.held, q⟩
    | true =>
      rw [if_pos rfl] at q
      show if true = true then tE K C ke σ' H3 _ else _
      rw [if_pos rfl]
      refine tE_of hC (R3.lessT (T' := noA) fun _ z => z.elim) q fun ok dk ρ4 y H4 fp4 S4 ⟨key, ek, w4⟩ st4 R4 r4 => ?_
      obtain ⟨rfl, _⟩ := keyOf_is ek r4.now
      have s34 : StepE H' fp' noA H4 fp4 S4 := StepE.behind R' st3 st4
      have k4 : Keep noA H' H4 := fun a o h n => s34.keep a o h (ufp' a)
      refine tE_of hC (R4.lessT (T' := noA) fun _ z => z.elim) w4 fun ov dv ρ5 z H5 fp5 S5 ⟨kk, ekk, g5⟩ st5 R5 r5 => ?_
      have s35 : StepE H' fp' noA H5 fp5 S5 := StepE.behind R' s34 st5
      have k5 : Keep noA H' H5 := fun a o h n => s35.keep a o h (ufp' a)
      have hn5 : ∀ a, cup (un fp5) S5 a → H' a = none := fun a z => (s35.new a z).elim (fun q => (ufp' a q).elim) id
      have hm5 : MutS S5 H5 := fun a z => R5.wr a (.inl (.inr (.inr z)))
      have J := IH k5
      have ky0 := kid_one r5 ekk (apart s35 R5) (lessG (K := K))
      have dSa : ∀ a, Sa a → ¬ S5 a := fun a z q => by
        obtain ⟨o, h, _⟩ := (IH (fun a o h _ => h : Keep noA H' H')).mu a z
        rw [hn5 a (.inr q)] at h; cases h
      have nS5 : ¬ S5 D0 := fun q => by
        have := (IH (fun a o h _ => h : Keep noA H' H')).at_
        rw [hn5 D0 (.inr q)] at this; cases this
      have A5 : ∀ a, cup (cup (un fp1) (cup T (sgl D0))) G a → cup (cup (un fp5) noA) (cup (cup (un fp1) (cup T (cup (sgl D0) Sa))) G) a := fun a z => .inr (sub1 z)
      have ky : Kids K H5 kk [z] [dv] S5 (cup (cup (un fp1) (cup T (sgl D0))) G) := ky0.mono (fun _ z => z) A5
      have avoid : ∀ a, cup (cup (un fp1) (cup T (sgl D0))) G a → H' a ≠ none := fun a z => RH.track (sub1 z)
      have kids' : KidsK K H5 (minO ka kk) (putK va key z) (putD da key dv) (cup Sa S5) (cup (cup (un fp1) (cup T (sgl D0))) G) :=
        J.kids.put J.nd ky dSa (fun a z q => by
          rcases q with (q | q | q) | q
          · exact RH.disT a q (.inr (.inr z))
          · exact (stp I).disS a (.inr z) q
          · rw [q] at z; exact I.nD z
          · exact RH.disG a (.inr (.inr (.inr z))) q) fun a z q => avoid a q (hn5 a (.inr z))
      have kL : Keep (sgl D0) H5 (upd H5 D0 (.dK (putK va key z))) := fun a o e ne => by rw [upd_ne ne]; exact e
      have mL : MutS (sgl D0) H5 := fun a z => by rw [z]; exact ⟨_, J.at_, rfl⟩
      refine ⟨va, key, rfl, J.at_, Nat.lt_of_le_of_lt J.few (by omega), minO ka kk, putD da key dv, putK va key z, cup Sa S5, hlt, fun a o h n => ?_, fun a z => ?_, fun a z => ?_, upd_same, fun z => z.elim J.nD nS5, Nat.le_trans (length_putK _ _ _) (Nat.succ_le_succ J.few), putD_nodup J.nd, ?_, fun h hm => ?_, g5⟩
      · rw [upd_ne (ne_of_none h hD)]; exact J.keep a o h n
      · rcases z with z | z
        · exact J.new a z
        · have h1 := hn5 a (.inr z)
          cases e : H1 a with
          | none => rfl
          | some o => rw [(IH (fun a o h _ => h : Keep noA H' H')).keep a o e fun z => z] at h1; cases h1
      · have : a ≠ D0 := fun e => by rw [e] at z; exact z.elim J.nD nS5
        rw [upd_ne this]
        exact z.elim (J.mu a) (hm5 a)
      · exact kids'.step kL mL (fun a z q => by rw [q] at z; exact z.elim J.nD nS5) (fun a z => by rw [z]; exact .inl (.inr (.inr rfl))) Grow.refl
      · have gA : Grow (cup (cup (un fp1) (cup T (cup (sgl D0) Sa))) G) (cup (cup (un fp1) (cup T (cup (sgl D0) (cup Sa S5)))) G) H' := fun a z => by
          rcases z with (z | z | z | z | z) | z
          · exact .inl (.inl (.inl z))
          · exact .inl (.inl (.inr (.inl z)))
          · exact .inl (.inl (.inr (.inr (.inl z))))
          · exact .inl (.inl (.inr (.inr (.inr z))))
          · exact .inr (hn5 a (.inr z))
          · exact .inl (.inr z)
        have h5 : RepV K H5 h.1 h.2.1 h.2.2 noA (sgl D0) (cup (cup (un fp1) (cup T (cup (sgl D0) (cup Sa S5)))) G) := ((IH (fun a o h _ => h : Keep noA H' H')).held h hm).still k5 Grow.refl gA
        exact h5.step kL mL (ntL _ hm) (fun _ z => z.elim) (fun a z => z) (fun a z => by rw [z]; exact .inl (.inr (.inr (.inl rfl)))) Grow.refl Grow.refl
end

section
variable {X : Cx} {C : CallS} {pos p tpos : Pos} {a b : Expr} {ea eb : E} {elts : List Expr} {kk : Nat}
theorem i_zip (hC : MonoC C) (hg : Gl X "zip") (hm : X.mg "zip" = none) (ha : PEv X C a ea) (hb : PEv X C b eb) (hst : noStar a = true) (hst2 : noStar b = true) :
    PIv X C (.Tuple elts kk tpos) (.Call (.Name "zip" p) [a, b] [] pos) (.zip ea eb) := by
  refine (pi_zip hg hm (pa_cons ha (pa_cons hb pa_nil (star_cons hst2)) (star_cons hst)) (star_cons hst) (star_any (by simp [hst2]))).imp fun σ H R' ⟨ρ, fp, T, G, R, w⟩ => ?_
  refine tE_bin hC (Rr := fun x y H1 => ∃ a b xs ys, [x, y] = [.ref a, .ref b] ∧ SqL X.K H1 a xs ∧ SqL X.K H1 b ys ∧ R' (Itz X.K a b) H1) R w fun o1 d1 o2 d2 ρ2 x y H2 fp2 S1 S2 ⟨ds, es, e1, e2, hl, hs, q⟩ st R2 r1 r2 dj => ?_
  subst e1; subst e2
  obtain ⟨s0, R0, rf1⟩ := freeze st R2 (r1.mono fun a z => .inl z)
  obtain ⟨_, _, rf2⟩ := freeze st R2 (r2.mono fun a z => .inr z)
  obtain ⟨l1, vs1, rfl, _, h1, il1⟩ := r1.now.inv_lst
  obtain ⟨l2, vs2, rfl, _, h2, il2⟩ := r2.now.inv_lst
  refine ⟨l1, l2, vs1, vs2, rfl, SqL.of h1, SqL.of h2, q (Itz X.K l1 l2) H2 fp2 [(frzO o1, .ref l1, .lst ds), (frzO o2, .ref l2, .lst es)] s0 R0 (fun n1 n2 h hm => ?_) (fun h hm => ?_) fun H B A hh => ?_⟩
  · by_cases ht : o1 = .tra ∨ o1 = .tra1
    · rw [if_pos ht] at n1; exact absurd rfl n1
    · rw [if_neg ht] at n1 n2
      rcases List.mem_cons.mp hm with rfl | hm
      · exact frz_nt (fun e => ht (.inl e)) fun e => ht (.inr e)
      · rcases List.mem_cons.mp hm with rfl | hm
        · exact frz_nt n1 n2
        · cases hm
  · rcases List.mem_cons.mp hm with rfl | hm
    · exact rf1
    · rcases List.mem_cons.mp hm with rfl | hm
      · exact rf2
      · cases hm
  · obtain ⟨l1', ws1, f1, g1, n1, it1⟩ := itm_of (hh _ List.mem_cons_self)
    cases f1
    obtain ⟨l2', ws2, f2, g2, n2, it2⟩ := itm_of (hh _ (List.mem_cons_of_mem _ List.mem_cons_self))
    cases f2
    refine ⟨fun i hi => ⟨ws1, ws2, SqL.of g1, SqL.of g2, .inl (by rw [n1]; simp at hi; omega)⟩, fun i d ed => ?_⟩
    have hi : i < ds.length := by
      have := (List.getElem?_eq_some_iff.mp ed).1
      simp at this; omega
    have e1 : ds[i]? = some ds[i] := List.getElem?_eq_getElem hi
    have e2 : es[i]? = some (es[i]'(by omega)) := List.getElem?_eq_getElem (by omega)
    have ed2 : d = .tup [ds[i], es[i]'(by omega)] := by
      rw [List.getElem?_zipWith, e1, e2] at ed
      simpa using ed.symm
    subst ed2
    obtain ⟨y1, ey1, ry1⟩ := it1 i _ e1
    obtain ⟨y2, ey2, ry2⟩ := it2 i _ e2
    have hsd : VH.solid ds[i] = true := solidL_mem.mp hs _ (List.getElem_mem hi)
    refine ⟨⟨ws1, ws2, y1, y2, SqL.of g1, SqL.of g2, ey1, ey2⟩, fun z H' yl => ?_⟩
    obtain ⟨t, x', y', rfl, ht, rfl, c1, c2⟩ := yl
    have c1 := c1 ws1 (SqL.of g1)
    have c2 := c2 ws2 (SqL.of g2)
    rw [ey1] at c1; cases c1
    rw [ey2] at c2; cases c2
    have kp : Keep noA H (upd H t (.tup [y1, y2])) := Keep.upd ht
    refine ⟨kp, ?_⟩
    have sq : SqT X.K (upd H t (.tup [y1, y2])) t [y1, y2] := .inl (.inl upd_same)
    have i1 : ∀ Y, Is X.K Y (upd H t (.tup [y1, y2])) y1 ds[i] := fun Y => Is.solid hsd ((ry1.still (B' := if o1 = .tra then noA else B) (A' := A) kp Grow.refl Grow.refl).now)
    have ry' := ry2.still (B' := if o2 = .tra then noA else B) (A' := A) kp Grow.refl Grow.refl
    by_cases hs2 : VH.solid (es[i]'(by omega)) = true
    · have hs3 : VH.solid (.tup [ds[i], es[i]'(by omega)]) = true := by simp [VH.solid, VH.solidL, hsd, hs2]
      rw [nrm_solid hs3]
      exact RepV.solid hs3 (A' := noA) (.tup sq (.cons (i1 _) (.cons ry'.now .nil)))
    · have hs3 : ¬ VH.solid (.tup [ds[i], es[i]'(by omega)]) = true := by simp [VH.solid, VH.solidL, hsd, hs2]
      rw [nrm_not hs2] at ry'
      rw [nrm_not hs3]
      by_cases htr : o1 = .tra ∨ o1 = .tra1
      · rw [if_pos htr]
        exact Is.tup sq (.cons (i1 _) (.cons ry'.now .nil))
      · rw [if_neg htr]
        cases o2 <;> exact Is.tup sq (.cons (i1 _) (.cons ry' .nil))
end

section
variable {K : PySem.W.Frag} {H : Hp}
theorem OwnL.mut {es : List D} : ∀ {vs : List V} {ds : List D} {U : Set'} {j : Nat}, OwnL K H vs ds U → ds[j]? = some (.lst es) →
    ∃ l ws, vs[j]? = some (.ref l) ∧ H l = some (.lst ws) ∧ ws.length = es.length ∧ U l ∧ ∀ H' zs fs S2, Keep (sgl l) H H' → H' l = some (.lst (ws ++ zs)) → OwnL K H' zs fs S2 → (∀ a, U a → ¬ S2 a) → OwnL K H' vs (ds.set j (.lst (es ++ fs))) (cup U S2) := by
  intro vs
  induction vs with
  | nil => intro ds U j h e; cases h; simp at e
  | cons v vs ih =>
    intro ds U j h e
    cases h with
    | @cons _ d _ ds T U0 _ h l dj t u =>
      cases j with
      | zero =>
        simp at e
        subst e
        cases h with
        | @lst a ws _ _ U1 ha sa u1 nu lL =>
          refine ⟨a, ws, rfl, ha, (lL.is (A := noA) fun _ _ z => z).length, t a sa, fun H' zs fs S2 kp h' lz dS => ?_⟩
          have mu : MutS (sgl a) H := fun b z => by rw [z]; exact ⟨_, ha, rfl⟩
          refine .cons (T := cup T S2) (U := U0) (.lst (U := cup U1 S2) h' (.inl sa) (fun b z => z.elim (fun z => .inl (u1 b z)) .inr) (fun z => z.elim nu fun z => dS a (t a sa) z) ?_) (l.step kp mu fun b z y => dj a sa (by rw [← y]; exact z))
            (fun b z y => z.elim (fun z => dj b z y) fun z => dS b (u b y) z) (fun b z => z.elim (fun z => .inl (t b z)) .inr) fun b z => .inl (u b z)
          exact OwnL.append (S1 := U1) (S2 := S2) (fun b z y => dS b (t b (u1 b z)) y) (lL.step kp mu fun b z y => nu (by rw [← y]; exact z)) (fun _ z => z) lz
      | succ j =>
        obtain ⟨a, ws, e1, e2, e3, e4, e5⟩ := ih (j := j) l (by simpa using e)
        refine ⟨a, ws, by simpa using e1, e2, e3, u a e4, fun H' zs fs S2 kp h' lz dS => ?_⟩
        have mu : MutS (sgl a) H := fun b z => by rw [z]; exact ⟨_, e2, rfl⟩
        exact .cons (T := T) (U := cup U0 S2) (h.step kp mu fun b z y => dj b z (by rw [y]; exact e4)) (e5 H' zs fs S2 kp h' lz fun b z => dS b (u b z)) (fun b z y => y.elim (dj b z) fun y => dS b (t b z) y) (fun b z => .inl (t b z)) fun b z => z.elim (fun z => .inl (u b z)) .inr
end
section
variable {X : Cx} {C : CallS} {pos apos p pos' : Pos} {a b : Expr} {ea eb : E}
theorem v_tapp (hC : MonoC C) {i j k0 : Nat} {p2 : Pos} {x : Str} (hN : X.N[i]? = some x) (hv : Vis X.env.scope x) (hd : (x == ("__debug__" : Str)) = false) (hcd : (x == ("__classdict__" : Str)) = false) (ha : PEv X C a ea)
    (hline : (apos.endLine == pos.line) = true) (hst : noStar a = true) :
    PEv X C (.Call (.Attribute (.Subscript (.Name x p) (.Constant (.int (j : Int)) k0 p2) pos') "append" apos) [a] [] pos) (.tapp i j ea) := by
  refine (pe_bm PySem.F.plainAttrs_list PySem.F.slot_list_append PySem.F.type_list_append mt_append (pe_ix ix_seq (pe_var hN hv hd hcd) pe_int fun _ _ => rfl) (pa_cons ha pa_nil (star_cons hst)) rfl (few_one hst) hline (star_cons hst) (star_any (xs := []) rfl)).imp fun σ H Q ⟨ρ, fp, T, G, R, ds, es, hi, hj, hz, w⟩ => ?_
  obtain ⟨v, ev, nt, r⟩ := R.slot i _ _ hi
  have r' : Own X.K H v (.tup ds) (fp i) := r
  cases r' with
  | @tup ad vs _ _ sq l =>
    obtain ⟨al, ws, e1, e2, e3, e4, _⟩ := l.mut hj
    have hl := (l.is (A := noA) fun _ _ z => z).length
    have hjl : j < vs.length := (List.getElem?_eq_some_iff.mp e1).1
    have eat : atI vs (j : Int) = some (.ref al) := atI_of (n := vs.length) (j := j) (by unfold ixN; rw [if_pos (by omega), if_pos (by omega)]; simp) rfl e1
    refine ⟨_, ev, .inr (.inl ⟨ad, vs, _, _, rfl, rfl, sq, eat, ?_⟩)⟩
    refine ⟨.inl ⟨rfl, ws, SqL.of e2⟩, ?_⟩
    refine tE_of hC R.lock w fun o d ρ1 y H1 fp1 S1 ⟨ek, q⟩ st R1 r1 => ?_
    have kp : Keep noA H H1 := fun a o h n => st.keep a o h (by rw [un_nofp]; exact n)
    have hn1 : ∀ a, S1 a → H a = none := fun a z => (st.new a (.inr z)).elim (fun q => by rw [un_nofp] at q; exact q.elim) id
    have hm1 : MutS S1 H1 := fun a z => R1.wr a (.inl (.inr (.inr z)))
    have RH := R.grow (S := S1) kp hn1 hm1
    have e2' := kp _ _ e2 fun z => z
    have st5 : StepE H fp T H1 fp S1 := ⟨fun a o h n => kp a o h fun z => z, fun a z => z.elim .inl fun z => .inr (hn1 a z), fun a z q => R.track (.inl (.inr q)) (hn1 a z)⟩
    have dUS : ∀ a, fp i a → ¬ S1 a := fun a u s => R.track (.inl (.inl ⟨i, u⟩)) (hn1 a s)
    have oy : Own X.K H1 y d S1 := by
      rcases (kid_one r1 ek (A' := noA) (fun _ _ z => z) fun _ z => z.elim).one with ⟨_, h⟩ | ⟨e, _⟩
      · exact h
      · cases e
    obtain ⟨al2, ws2, f1, f2, f3, f4, f5⟩ := (l.step kp (fun _ z => z.elim) fun _ _ z => z).mut hj
    have ea : al2 = al := V.ref.inj (Option.some.inj (f1.symm.trans e1))
    subst ea
    have ew : ws2 = ws := by have := f2.symm.trans e2'; injection this with this; injection this
    subst ew
    have kL : Keep (sgl al2) H1 (upd H1 al2 (.lst (ws2 ++ [y]))) := fun b o e ne => by rw [upd_ne ne]; exact e
    have mL : MutS (sgl al2) H1 := fun b z => by rw [z]; exact ⟨_, e2', rfl⟩
    refine ⟨al2, ws2, y, rfl, rfl, e2', by rw [f3]; exact hz, ?_⟩
    have nS1 : ¬ S1 al2 := fun z => dUS al2 f4 z
    have hy : OwnL X.K (upd H1 al2 (.lst (ws2 ++ [y]))) [y] [d] S1 := .cons (T := S1) (U := noA) (oy.step kL mL fun b z e => nS1 (by rw [← e]; exact z)) .nil (fun _ _ z => z) (fun _ z => z) fun _ z => z.elim
    obtain ⟨s1, s2⟩ := slot_write (S' := cup (fp i) S1) (T1 := noA) (x := (.all, .tup (ds.set j (.lst (es ++ [d]))))) (ho := .lst (ws2 ++ [y])) R st5 RH ev f4 rfl (fun a z => z) (fun _ z => z.elim) (fun _ _ z => z) ⟨(by decide : Ow.all ≠ .tra), (by decide : Ow.all ≠ .tra1)⟩ fun _ =>
      .tup (Keep.sqT (F := sgl al2) kL mL (Keep.sqT kp (fun _ z => z.elim) sq)) (f5 _ [y] [d] S1 kL upd_same hy dUS)
    exact PostE.solid (K := X.K) q rfl s1 s2 (A := noA) .non
end

section
variable {X : Cx} {C : CallS} {pos apos p : Pos} {a b : Expr} {ea eb : E}
theorem v_tupM (hC : MonoC C) {i j : Nat} {x : Str} (hN : X.N[i]? = some x) (hv : Vis X.env.scope x) (hd : (x == ("__debug__" : Str)) = false) (hcd : (x == ("__classdict__" : Str)) = false) (ha : PEv X C a ea) (hst : noStar a = true) :
    PEv X C (.Tuple [.Name x p, a] j pos) (.tupM i ea) := by
  refine (pe_tup (pa_cons (pe_var hN hv hd hcd) (pa_cons ha pa_nil (star_cons hst)) (star_cons rfl))).imp fun σ H Q ⟨ρ, fp, T, G, R, ⟨p0, e0⟩, w⟩ => ?_
  obtain ⟨v, ev, _, _⟩ := R.slot i p0.1 p0.2 e0
  refine ⟨v, ev, ?_⟩
  refine tE_of hC R w fun o d ρ1 y H1 fp1 S1 ⟨oi, di, hi, e1, e2, q⟩ st R1 r1 => ?_
  obtain ⟨v', ev', _, rv⟩ := R1.slot i oi di hi
  have evv : v' = v := Option.some.inj (Option.some.inj (ev'.symm.trans ev))
  subst evv
  refine ⟨by show 2 ≤ sizeLine; rw [sizeLine_eq]; omega, fun pp hp => ?_⟩
  have ov : Own X.K H1 v' di (fp1 i) := by
    rcases chO_cases e1 with ⟨hs, _⟩ | ⟨_, ⟨rfl, _⟩ | ⟨_, e⟩⟩
    · exact (Is.own hs rv.now).mono fun _ z => z.elim
    · exact rv
    · cases e
  have oy : Own X.K H1 y d S1 := by
    rcases chO_cases e2 with ⟨hs, _⟩ | ⟨_, ⟨rfl, _⟩ | ⟨_, e⟩⟩
    · exact (Is.own hs r1.now).mono fun _ z => z.elim
    · exact r1
    · cases e
  have dj : ∀ a, fp1 i a → ¬ S1 a := fun a z s => R1.disT a ⟨i, z⟩ (.inr s)
  have R2 : RepS X.K (ρ1.set i none) σ H1 (setFp fp1 i noA) (cup T (cup (fp1 i) S1)) G := R1.put0 (fun o d e => by cases e) (fun _ z => z.elim) (fun a z => by
    rcases z with z | z | z
    · exact .inr (.inl z)
    · exact .inl z
    · exact .inr (.inr z)) fun _ z => z.elim
  have st2 : StepE H fp T H1 (setFp fp1 i noA) (cup (fp1 i) S1) := ⟨st.keep, fun a z => by
    rcases z with z | z | z
    · rcases un_setFp z with z | ⟨j, _, z⟩
      · exact z.elim
      · exact st.new a (.inl ⟨j, z⟩)
    · exact st.new a (.inl ⟨i, z⟩)
    · exact st.new a (.inr z), fun a z t => z.elim (fun z => R1.disT a ⟨i, z⟩ (.inl t)) fun z => st.disS a z t⟩
  refine PostE.newT (k := .all) (by rw [show nrm .all (.tup [di, d]) = .all by unfold nrm; split <;> rfl]; exact q) st2 R2 (.inl ⟨rfl, ?_⟩) hp
  exact .cons (T := fp1 i) (U := S1) ov (.cons (T := S1) (U := noA) oy .nil (fun _ _ z => z) (fun _ z => z) fun _ z => z.elim) dj (fun _ z => .inl z) fun _ z => .inr z
theorem v_bitl (hC : MonoC C) (ha : PEv X C a ea) (hbase : attributeBase a "bit_length" X.env (eval a X.env) = eval a X.env) (hline : (apos.endLine == pos.line) = true) : PEv X C (.Call (.Attribute a "bit_length" apos) [] [] pos) (.bitl ea) := by
  refine (pe_bits ha hbase hline).imp fun σ H Q ⟨ρ, fp, T, G, R, w⟩ => ?_
  refine tE_of hC R w fun o d ρ1 y H1 fp1 S1 ⟨j, ed, q⟩ st R1 r1 => ?_
  subst ed
  exact ⟨j, r1.now.inv_int, PostE.solid q rfl st R1 (A := noA) .int⟩
end
end VH
namespace VH
open PySem PySem.Spec PyProof.Rows L2

structure Ck where
  N : List Str
  nm : Nat → Option (Str × Nat)
  bl : List Str
  gl : List (Str × D)
  mf : List (Str × String)
def visB (sc : Scope) (x : Str) : Bool := match sc.names.lookup x with
  | some .local => true
  | some .cell => true
  | some .free => true
  | _ => false
def glB (sc : Scope) (x : Str) : Bool := match sc.names.lookup x with
  | some .globalImplicit => true
  | _ => false
def locB (fnb : Str → Bool) (sc : Scope) (x : Str) : Bool := match sc.names.lookup x with
  | some .local => true
  | some .cell => fnb x
  | _ => false
def slotB (c : Ck) (sc : Scope) (i : Nat) (x : Str) : Bool := decide (c.N[i]? = some x) && visB sc x
def bltB (c : Ck) (sc : Scope) (x y : Str) : Bool := decide (x = y) && glB sc x && c.bl.contains x
def plainIx : Expr → Bool
  | .Slice .. => false
  | _ => true
def notComp : Expr → Bool
  | .ListComp .. => false
  | .SetComp .. => false
  | .DictComp .. => false
  | _ => true
def notTup : Expr → Bool
  | .Tuple .. => false
  | _ => true
def notSet : Expr → Bool
  | .Set .. => false
  | _ => true
def isTup : Expr → Bool
  | .Tuple .. => true
  | _ => false
/-- two plain constants alike -/
def sameC : D → D → Bool
  | .int i, .int j => decide (i = j)
  | .str x, .str y => decide (x = y)
  | .tup [], .tup [] => true
  | _, _ => false
theorem sameC_eq {a b : D} (h : sameC a b = true) : a = b ∧ solid a = true := by
  unfold sameC at h
  split at h
  · simp at h; subst h; exact ⟨rfl, rfl⟩
  · simp at h; subst h; exact ⟨rfl, rfl⟩
  · exact ⟨rfl, rfl⟩
  · cases h
def esLen : Es → Nat
  | .nil => 0
  | .cons _ es => esLen es + 1
def asLen : As → Nat
  | .nil => 0
  | .lend _ r => asLen r + 1
  | .val _ r => asLen r + 1
def ownOf (N : List Str) (l : List Nat) : List (Str × Nat) := l.filterMap fun i => (N[i]?).map fun x => (x, i)
def fnOf (scope : Scope) : Str → Bool := fun x => scope.names.lookup x == some .cell
/-- the rest of an and / or -/
def restB (op : BoolOp) (x : Expr) (r : List Expr) (p : Pos) : Expr := match r with
  | [] => x
  | _ => .BoolOp op (x :: r) p

/-- the whole number that stands in the text -/
def constI (k : Int) : Expr → Bool
  | .Constant (.int j) _ _ => decide (k = j)
  | .UnaryOp .USub (.Constant (.int j) _ _) _ => decide (k = -j)
  | _ => false
mutual
def ckTg (c : Ck) (fnb : Str → Bool) (sc : Scope) : Tg → Expr → Bool
  | .nm i, x => match x with
    | .Name n _ => decide (c.N[i]? = some n) && locB fnb sc n
    | _ => false
  | .tp ts, x => match x with
    | .Tuple es _ _ => ckTgs c fnb sc ts es
    | _ => false
def ckTgs (c : Ck) (fnb : Str → Bool) (sc : Scope) : Tgs → List Expr → Bool
  | .nil, xs => match xs with
    | [] => true
    | _ => false
  | .cons t ts, xs => match xs with
    | x :: r => ckTg c fnb sc t x && noStar x && ckTgs c fnb sc ts r
    | [] => false
end
def isWk : E → Bool
  | .wk _ _ => true
  | _ => false
mutual
def ckE (c : Ck) : E → Scope → Expr → Bool
  | .non, _, x => match x with
    | .Constant .none _ _ => true
    | _ => false
  | .bl b, _, x => match x with
    | .Constant (.bool b') _ _ => decide (b = b')
    | _ => false
  | .int i, _, x => match x with
    | .Constant (.int j) _ _ => decide (i = j)
    | _ => false
  | .str s, _, x => match x with
    | .Constant (.str s') _ _ => decide (s = s')
    | _ => false
  | .glb n d, sc, x => match x with
    | .Name y _ => decide (n = y) && glB sc y && (match c.gl.lookup y with
      | some d' => sameC d d'
      | none => false)
    | _ => false
  | .var _ i, sc, x => match x with
    | .Name y _ => slotB c sc i y
    | _ => false
  | .bin op a b, sc, x => match x with
    | .BinOp l op' r _ => decide (op = op') && decide (op ≠ .MatMult) && decide (op ≠ .Div) && ckE c a sc l && ckE c b sc r
    | _ => false
  | .un op a, sc, x => match x with
    | .UnaryOp op' y _ => decide (op = op') && (decide (op = .USub) || decide (op = .Invert)) && ckE c a sc y
    | _ => false
  | .nt a, sc, x => match x with
    | .UnaryOp .Not y _ => ckE c a sc y
    | _ => false
  | .and a b, sc, x => match x with
    | .BoolOp .And (y :: z :: r) p => ckE c a sc y && ckE c b sc (restB .And z r p)
    | _ => false
  | .or a b, sc, x => match x with
    | .BoolOp .Or (y :: z :: r) p => ckE c a sc y && ckE c b sc (restB .Or z r p)
    | _ => false
  | .cmp op a b, sc, x => match x with
    | .Compare l [op'] [r] _ => decide (op = op') && ckE c a sc l && ckE c b sc r && !behindInMarks op r
    | _ => false
  | .chain op op2 a b d, sc, x => match x with
    | .Compare l [op', op2'] [r, r2] _ => decide (op = op') && decide (op ≠ .Is) && decide (op ≠ .IsNot) && decide (op2 = op2') && decide (op2 ≠ .Is) && decide (op2 ≠ .IsNot) && ckE c a sc l && ckE c b sc r && ckE c d sc r2 && !lastMarks [op, op2] [r, r2]
    | _ => false
  | .isN a, sc, x => match x with
    | .Compare l [.Is] [.Constant .none _ _] _ => ckE c a sc l
    | _ => false
  | .notN a, sc, x => match x with
    | .Compare l [.IsNot] [.Constant .none _ _] _ => ckE c a sc l
    | _ => false
  | .ife d a b, sc, x => match x with
    | .IfExp t y z _ => ckE c d sc t && ckE c a sc y && ckE c b sc z
    | _ => false
  | .lst es, sc, x => match x with
    | .List xs _ => ckEs c es sc xs
    | _ => false
  | .tup es, sc, x => match x with
    | .Tuple xs _ _ => ckEs c es sc xs
    | _ => false
  | .idx a b, sc, x => match x with
    | .Subscript y z _ => plainIx z && ckE c a sc y && ckE c b sc z
    | _ => false
  | .sidx i b, sc, x => match x with
    | .Subscript (.Name n _) z _ => plainIx z && slotB c sc i n && ckE c b sc z
    | _ => false
  | .slc a lo hi, sc, x => match x with
    | .Subscript y (.Slice l h none _) _ => ckE c a sc y && ckEo c lo sc l && ckEo c hi sc h
    | _ => false
  | .rev a, sc, x => match x with
    | .Subscript y (.Slice none none (some (.UnaryOp .USub (.Constant (.int 1) _ _) _)) _) _ => ckE c a sc y
    | _ => false
  | .callP f es, sc, x => match x with
    | .Call (.Name n _) (y :: ys) [] _ => (match c.nm f with
      | some (n', np) => decide (n' = n) && decide ((y :: ys).length = np) && decide (esLen es = np)
      | none => false) && glB sc n && ckEs c es sc (y :: ys)
    | _ => false
  | .callX f as, sc, x => match x with
    | .Call (.Name n _) (y :: ys) [] _ => (match c.nm f with
      | some (n', np) => decide (n' = n) && decide (asLen as = np)
      | none => false) && glB sc n && ckAs c as sc (y :: ys)
    | _ => false
  | .b1 b a, sc, x => match x with
    | .Call (.Name n _) [y] [] _ => bltB c sc n (b1Name b) && noStar y && ckE c a sc y
    | _ => false
  | .b2 b a d, sc, x => match x with
    | .Call (.Name n _) [y, z] [] _ => bltB c sc n (b2Name b) && noStar y && noStar z && ckE c a sc y && ckE c d sc z
    | _ => false
  | .app i e, sc, x => match x with
    | .Call (.Attribute (.Name n _) m ap) [y] [] p => decide (m = ("append" : Str)) && (ap.endLine == p.line) && slotB c sc i n && noStar y && ckE c e sc y
    | _ => false
  | .ext i e, sc, x => match x with
    | .Call (.Attribute (.Name n _) m ap) [y] [] p => decide (m = ("extend" : Str)) && (ap.endLine == p.line) && slotB c sc i n && noStar y && ckE c e sc y
    | _ => false
  | .pop i, sc, x => match x with
    | .Call (.Attribute (.Name n _) m ap) [] [] p => decide (m = ("pop" : Str)) && (ap.endLine == p.line) && slotB c sc i n
    | _ => false
  | .popAt i e, sc, x => match x with
    | .Call (.Attribute (.Name n _) m ap) [y] [] p => decide (m = ("pop" : Str)) && (ap.endLine == p.line) && slotB c sc i n && noStar y && ckE c e sc y
    | _ => false
  | .lc _ t it cn e, sc, x => match x with
    | .ListComp elt [⟨tg, iter, ifs, 0⟩] scope _ => decide ((ownOf c.N (tgs t)).map (·.2) = tgs t) && blkC c.N sc scope (ownOf c.N (tgs t)) && notSet iter && ckIt c it sc tg iter && ckTg c (fnOf scope) (relS scope sc) t tg &&
        ckC c cn (relS scope sc) ifs && ckE c e (relS scope sc) elt
    | _ => false
  | .isi ty a, sc, x => match x with
    | .Call (.Name n _) [y, .Name m _] [] _ => bltB c sc n "isinstance" && bltB c sc m (ityN ty) && noStar y && ckE c a sc y
    | _ => false
  | .lc2 t it cn t1 it1 c1 e, sc, x => match x with
    | .ListComp elt [⟨tg, iter, ifs, 0⟩, ⟨tg1, iter1, ifs1, 0⟩] scope _ => decide ((ownOf c.N (tgs t ++ tgs t1)).map (·.2) = tgs t ++ tgs t1) && blkC c.N sc scope (ownOf c.N (tgs t ++ tgs t1)) && notSet iter && notSet iter1 &&
        ckIt c it sc tg iter && ckTg c (fnOf scope) (relS scope sc) t tg && ckC c cn (relS scope sc) ifs && ckIt c it1 (relS scope sc) tg1 iter1 && ckTg c (fnOf scope) (relS scope sc) t1 tg1 && ckC c c1 (relS scope sc) ifs1 && ckE c e (relS scope sc) elt
    | _ => false
  | .callF f es, sc, x => match x with
    | .Call (.Name n _) (y :: ys) [] _ => (match c.nm f with
      | some (n', np) => decide (n' = n) && decide ((y :: ys).length = np) && decide (esLen es = np)
      | none => false) && glB sc n && ckEs c es sc (y :: ys)
    | _ => false
  | .idxOf i e, sc, x => match x with
    | .Call (.Attribute (.Name n _) m ap) [y] [] p => decide (m = ("index" : Str)) && (ap.endLine == p.line) && slotB c sc i n && noStar y && ckE c e sc y
    | _ => false
  | .rem i e, sc, x => match x with
    | .Call (.Attribute (.Name n _) m ap) [y] [] p => decide (m = ("remove" : Str)) && (ap.endLine == p.line) && slotB c sc i n && noStar y && ckE c e sc y
    | _ => false
  | .lrng a, sc, x => match x with
    | .Call (.Name n _) [.Call (.Name n2 _) [y] [] _] [] _ => bltB c sc n "list" && bltB c sc n2 "range" && noStar y && ckE c a sc y
    | _ => false
  | .mxd mx a d, sc, x => match x with
    | .Call (.Name n _) [y] [⟨some k, z, _⟩] _ => bltB c sc n (if mx = true then "max" else "min") && decide (k = ("default" : Str)) && noStar y && ckE c a sc y && ckE c d sc z
    | _ => false
  | .wk _ e, sc, x => !isWk e && ckE c e sc x
  | .mf2 f a b, sc, x => match x with
    | .Call (.Name n _) [y, z] [] _ => glB sc n && decide (c.mf.lookup n = some (mfId f)) && noStar y && noStar z && ckE c a sc y && ckE c b sc z
    | _ => false
  | .dnew, _, x => match x with
    | .Dict [] [] _ => true
    | _ => false
  | .dc t it cn ke e, sc, x => match x with
    | .DictComp kx vx [⟨tg, iter, ifs, 0⟩] scope _ => decide ((ownOf c.N (tgs t)).map (·.2) = tgs t) && blkC c.N sc scope (ownOf c.N (tgs t)) && notSet iter && ckIt c it sc tg iter && ckTg c (fnOf scope) (relS scope sc) t tg &&
        ckC c cn (relS scope sc) ifs && ckE c ke (relS scope sc) kx && ckE c e (relS scope sc) vx
    | _ => false
  | .dmut ext i ke e, sc, x => match x with
    | .Call (.Attribute (.Subscript (.Name n _) z _) m ap) [y] [] p => decide (m = if ext = true then ("extend" : Str) else ("append" : Str)) && (ap.endLine == p.line) && slotB c sc i n && plainIx z && noStar y && ckE c ke sc z && ckE c e sc y
    | _ => false
  | .dpop i ke, sc, x => match x with
    | .Call (.Attribute (.Name n _) m ap) [y] [] p => decide (m = ("pop" : Str)) && (ap.endLine == p.line) && slotB c sc i n && noStar y && ckE c ke sc y
    | _ => false
  | .dget two i ke e, sc, x => match two with
    | true => (match x with
      | .Call (.Attribute (.Name n _) m ap) [y, z] [] p => decide (m = ("get" : Str)) && (ap.endLine == p.line) && slotB c sc i n && noStar y && noStar z && ckE c ke sc y && ckE c e sc z
      | _ => false)
    | false => (match e with
      | .non => (match x with
        | .Call (.Attribute (.Name n _) m ap) [y] [] p => decide (m = ("get" : Str)) && (ap.endLine == p.line) && slotB c sc i n && noStar y && ckE c ke sc y
        | _ => false)
      | _ => false)
  | .tapp i j e, sc, x => match x with
    | .Call (.Attribute (.Subscript (.Name n _) z _) m ap) [y] [] p => decide (m = ("append" : Str)) && (ap.endLine == p.line) && slotB c sc i n && (match z with
      | .Constant (.int k) _ _ => decide (k = (j : Int))
      | _ => false) && noStar y && ckE c e sc y
    | _ => false
  | .tupM i e, sc, x => match x with
    | .Tuple [.Name n _, y] _ _ => slotB c sc i n && noStar y && ckE c e sc y
    | _ => false
  | .bitl e, sc, x => match x with
    | .Call (.Attribute (.Name n q) m ap) [] [] p => decide (m = ("bit_length" : Str)) && (ap.endLine == p.line) && ckE c e sc (.Name n q)
    | _ => false
def ckEs (c : Ck) : Es → Scope → List Expr → Bool
  | .nil, _, xs => match xs with
    | [] => true
    | _ => false
  | .cons e es, sc, xs => match xs with
    | y :: ys => noStar y && ckE c e sc y && ckEs c es sc ys
    | [] => false
def ckEo (c : Ck) : Eo → Scope → Option Expr → Bool
  | .nil, _, x => match x with
    | none => true
    | _ => false
  | .some e, sc, x => match x with
    | some y => ckE c e sc y
    | none => false
def ckC (c : Ck) : Eo → Scope → List Expr → Bool
  | .nil, _, x => match x with
    | [] => true
    | _ => false
  | .some e, sc, x => match x with
    | [y] => ckE c e sc y
    | _ => false
def ckAs (c : Ck) : As → Scope → List Expr → Bool
  | .nil, _, xs => match xs with
    | [] => true
    | _ => false
  | .lend i r, sc, xs => match xs with
    | .Name n _ :: ys => slotB c sc i n && ckAs c r sc ys
    | _ => false
  | .val e r, sc, xs => match xs with
    | y :: ys => noStar y && ckE c e sc y && ckAs c r sc ys
    | [] => false
def ckIt (c : Ck) : It → Scope → Expr → Expr → Bool
  | .seq e, sc, _, x => ckE c e sc x
  | .rng1 a, sc, _, x => match x with
    | .Call (.Name n _) [y] [] _ => bltB c sc n "range" && noStar y && ckE c a sc y
    | _ => false
  | .rng2 a b, sc, _, x => match x with
    | .Call (.Name n _) [y, z] [] _ => bltB c sc n "range" && noStar y && noStar z && ckE c a sc y && ckE c b sc z
    | _ => false
  | .enum e, sc, tg, x => match x with
    | .Call (.Name n _) [y] [] _ => bltB c sc n "enumerate" && isTup tg && noStar y && ckE c e sc y
    | _ => false
  | .zip e e2, sc, tg, x => match x with
    | .Call (.Name n _) [y, z] [] _ => bltB c sc n "zip" && isTup tg && noStar y && noStar z && ckE c e sc y && ckE c e2 sc z
    | _ => false
  | .rng3 a b k, sc, _, x => match x with
    | .Call (.Name n _) [y, z, w] [] _ => bltB c sc n "range" && noStar y && noStar z && ckE c a sc y && ckE c b sc z && constI k w
    | _ => false
end

/-- what holds of a frame's surroundings -/
structure Gd (c : Ck) (C : CallS) (k : Nat) (X : Cx) (sc : Scope) : Prop where
  hC : MonoC C
  hres : ResC C
  calm : X.calm = true
  hN : X.N = c.N
  nd : X.N.Nodup
  scope : X.env.scope = sc
  kind : sc.kind = .function
  hu : X.A.units + 65 < cLine
  room : Room k X.A
  defs : Defs X.prog X.w X.K X.mg X.base C c.nm k
  mg : ∀ x ∈ c.bl, X.mg x = none
  gl : ∀ x d, c.gl.lookup x = some d → (x == ("__debug__" : Str)) = false ∧ ∃ v u, X.mg x = some u ∧ RelV v u ∧ ∀ H, Is X.K noA H v d
  mf : ∀ x id, c.mf.lookup x = some id → (x == ("__debug__" : Str)) = false ∧ X.mg x = some (.builtin id)
  nmd : ∀ f n np, c.nm f = some (n, np) → (n == ("__debug__" : Str)) = false
  dbg : ∀ (i : Nat) x, c.N[i]? = some x → (x == ("__debug__" : Str)) = false ∧ (x == ("__classdict__" : Str)) = false

section
variable {c : Ck} {C : CallS} {k : Nat} {X : Cx} {sc : Scope}
theorem Gd.vis (g : Gd c C k X sc) {x : Str} (h : visB sc x = true) : Vis X.env.scope x := by
  rw [g.scope]
  unfold visB at h
  split at h <;> first | exact .inl (by assumption) | exact .inr (.inl (by assumption)) | exact .inr (.inr (by assumption)) | cases h
theorem Gd.glob (g : Gd c C k X sc) {x : Str} (h : glB sc x = true) : Gl X x := by
  show X.env.scope.names.lookup x = _
  rw [g.scope]
  unfold glB at h
  split at h <;> first | assumption | cases h
theorem Gd.loc (g : Gd c C k X sc) {fnb : Str → Bool} (hf : ∀ x, fnb x = true → X.fn x = true) {x : Str} (h : locB fnb sc x = true) : Loc X.env.scope x ∧ (X.fn x = true ∨ X.env.scope.names.lookup x = some .local) := by
  rw [g.scope]
  unfold locB at h
  split at h
  · exact ⟨.inl (by assumption), .inr (by assumption)⟩
  · exact ⟨.inr (by assumption), .inl (hf _ h)⟩
  · cases h
theorem Gd.slot (g : Gd c C k X sc) {i : Nat} {x : Str} (h : slotB c sc i x = true) : X.N[i]? = some x ∧ Vis X.env.scope x ∧ (x == ("__debug__" : Str)) = false ∧ (x == ("__classdict__" : Str)) = false := by
  unfold slotB at h
  simp only [Bool.and_eq_true, decide_eq_true_eq] at h
  obtain ⟨d1, d2⟩ := g.dbg i x h.1
  exact ⟨by rw [g.hN]; exact h.1, g.vis h.2, d1, d2⟩
theorem Gd.blt (g : Gd c C k X sc) {x y : Str} (h : bltB c sc x y = true) : x = y ∧ Gl X y ∧ X.mg y = none := by
  unfold bltB at h
  simp only [Bool.and_eq_true, decide_eq_true_eq, List.contains_iff_mem] at h
  obtain ⟨⟨rfl, h2⟩, h3⟩ := h
  exact ⟨rfl, g.glob h2, g.mg _ h3⟩
theorem Gd.blk (g : Gd c C k X sc) {scope : Scope} (s : Shared) (H : Hp) (A0 : Addr) (cl : List (Str × Addr)) (fp : List Addr) (hk : scope.kind = .function) : Gd c C k (X.blk s H scope (compEnvC scope cl A0 X.env) fp) (relS scope sc) :=
  { g with scope := by show relS scope X.env.scope = _; rw [g.scope], kind := hk }
theorem plainIx_ok {b : Expr} (h : plainIx b = true) : PlainIx b := by
  intro o i
  cases b <;> first | rfl | cases h
theorem notComp_ok {e : Expr} {t : Option Expr} {l : Nat} {env : PySem.Env} (h : notComp e = true) : swapsWith e t l env = pure false := by
  cases e <;> first | rfl | cases h
theorem notSet_ok {e : Expr} {env : PySem.Env} (h : notSet e = true) : ∀ x, foldedSetIterable e env x = pure x := by
  intro x
  cases e <;> first | rfl | cases h
theorem constI_ok {X : Cx} {k : Int} {x : Expr} (h : constI k x = true) : PE X x (tC (.int k)) ∧ noStar x = true := by
  unfold constI at h
  split at h
  · simp at h; subst h; exact ⟨pe_int, rfl⟩
  · simp at h; subst h
    exact ⟨(pe_un un_neg pe_int).imp fun σ H Q q => ⟨_, rfl, q⟩, rfl⟩
  · cases h
theorem assign_each {a : Expr} {xs : List Expr} {env : PySem.Env} (h : noStar a = true) : assignEach (a :: xs) env = (false, assign a env) :: assignEach xs env := by
  cases a <;> first | rfl | cases h
mutual
theorem ok_tg (g : Gd c C k X sc) {fnb : Str → Bool} (hf : ∀ x, fnb x = true → X.fn x = true) : ∀ (t : Tg) (x : Expr), ckTg c fnb sc t x = true → PG X x (gT X.K t)
  | .nm i, x, h => by
    cases x <;> try (exact Bool.noConfusion h)
    simp only [ckTg, Bool.and_eq_true, decide_eq_true_eq] at h
    obtain ⟨l1, l2⟩ := g.loc hf h.2
    exact pg_name g.nd (by rw [g.hN]; exact h.1) l1 l2
  | .tp ts, x, h => by
    cases x <;> try (exact Bool.noConfusion h)
    rename_i es j p
    simp only [ckTg] at h
    obtain ⟨h1, h2, h3⟩ := ok_tgs g hf ts es h
    exact pg_tup g.calm h1 h2 h3
theorem ok_tgs (g : Gd c C k X sc) {fnb : Str → Bool} (hf : ∀ x, fnb x = true → X.fn x = true) : ∀ (ts : Tgs) (xs : List Expr), ckTgs c fnb sc ts xs = true → PGs X xs (gTs X.K ts) ∧ (assignEach xs X.env).length = lenTs ts ∧ (assignEach xs X.env).findIdx? (·.1) = none
  | .nil, xs, h => by
    cases xs with
    | nil => exact ⟨pgs_nil, rfl, rfl⟩
    | cons y ys => exact Bool.noConfusion h
  | .cons t ts, xs, h => by
    cases xs with
    | nil => exact Bool.noConfusion h
    | cons y ys =>
      simp only [ckTgs, Bool.and_eq_true] at h
      obtain ⟨h1, h2, h3⟩ := ok_tgs g hf ts ys h.2
      have e := assign_each (xs := ys) (env := X.env) h.1.2
      refine ⟨pgs_cons (ok_tg g hf t y h.1.1) h1 (by rw [e]; rfl), by rw [e]; simp [lenTs, h2], ?_⟩
      rw [e, List.findIdx?_cons, h3]
      rfl
end
end
end VH
namespace VH
open PySem PySem.Spec PyProof.Rows L2

section
variable {c : Ck} {C : CallS} {k : Nat} {X : Cx} {sc : Scope}
theorem wpArgs_len (hC : MonoC C) : ∀ (es : Es) {ρ : Env} {Q : List (Ow × D) → Prop}, wpArgs C es ρ Q → wpArgs C es ρ fun l => l.length = esLen es ∧ Q l
  | .nil, ρ, Q, w => ⟨rfl, w⟩
  | .cons e es, ρ, Q, w => wpE_mono hC e ρ _ _ (fun o d ρ1 ⟨o', e, q⟩ => ⟨o', e, wpArgs_mono hC es _ _ _ (fun l ⟨h, q⟩ => ⟨by simp [esLen, h], q⟩) (wpArgs_len hC es q)⟩) w
theorem wpAs_len (hC : MonoC C) : ∀ (as : As) {ρ : Env} {Q : List (Nat ⊕ (Ow × D)) → Env → Prop}, wpAs C as ρ Q → wpAs C as ρ fun l ρ1 => l.length = asLen as ∧ Q l ρ1
  | .nil, ρ, Q, w => ⟨rfl, w⟩
  | .lend i r, ρ, Q, w => ⟨w.1, wpAs_mono hC r _ _ _ (fun l ρ1 ⟨h, q⟩ => ⟨by simp [asLen, h], q⟩) (wpAs_len hC r w.2)⟩
  | .val e r, ρ, Q, w => wpE_mono hC e ρ _ _ (fun o d ρ1 ⟨o', e, q⟩ => ⟨o', e, wpAs_mono hC r _ _ _ (fun l ρ2 ⟨h, q⟩ => ⟨by simp [asLen, h], q⟩) (wpAs_len hC r q)⟩) w
theorem noStar_all : ∀ (es : Es) (xs : List Expr), ckEs c es sc xs = true → xs.all noStar = true
  | .nil, xs, h => by
    cases xs with
    | nil => rfl
    | cons y ys => exact Bool.noConfusion h
  | .cons e es, xs, h => by
    cases xs with
    | nil => exact Bool.noConfusion h
    | cons y ys =>
      simp only [ckEs, Bool.and_eq_true] at h
      simp [h.1.1, noStar_all es ys h.2]
theorem noStar_as : ∀ (as : As) (xs : List Expr), ckAs c as sc xs = true → xs.all noStar = true
  | .nil, xs, h => by
    cases xs with
    | nil => rfl
    | cons y ys => exact Bool.noConfusion h
  | .lend i r, xs, h => by
    cases xs with
    | nil => exact Bool.noConfusion h
    | cons y ys =>
      cases y <;> try (exact Bool.noConfusion h)
      simp only [ckAs, Bool.and_eq_true] at h
      rw [List.all_cons, noStar_as r ys h.2]; rfl
  | .val e r, xs, h => by
    cases xs with
    | nil => exact Bool.noConfusion h
    | cons y ys =>
      simp only [ckAs, Bool.and_eq_true] at h
      simp [h.1.1, noStar_as r ys h.2]
/-- a value's test, where the text tests it plainly -/
def plainT : Expr → Bool
  | .BoolOp .. => false
  | .Compare .. => false
  | .UnaryOp .Not _ _ => false
  | .IfExp .. => false
  | _ => true
theorem plainT_ok {a : Expr} {env : PySem.Env} (h : plainT a = true) : ∀ whole, isTrue a env whole = (do let v ← whole; standAt a.pos; holding [v] (truthy v)) := by
  intro w
  cases a <;> first | rfl | (cases h; done) | skip
  rename_i op x p
  cases op <;> first | rfl | cases h
theorem pt_ife {a b d : Expr} {ta tb tc : TT} {pos : Pos} (hc : PT X d tc) (ha : PT X a ta) (hb : PT X b tb) : PT X (.IfExp d a b pos) (fun σ H Q => tc σ H fun t H1 => if t = true then ta σ H1 Q else tb σ H1 Q) := by
  refine ⟨fun pins s σ H Q I h => ?_⟩
  show wpAny _ _ (isTrue d X.env (eval d X.env) >>= fun t => if t = true then isTrue a X.env (eval a X.env) else isTrue b X.env (eval b X.env)) _ _ _
  refine wpAny_bind (thn (hc.run pins s σ H _ I h) fun t s1 ⟨H1, I1, q1⟩ => ?_)
  cases t with
  | true => exact ha.run pins s1 σ H1 Q I1 q1
  | false => exact hb.run pins s1 σ H1 Q I1 q1
theorem t_ife (hC : MonoC C) {a b d : Expr} {ea eb ec : E} {pos : Pos} (hc : PTv X C d ec) (ha : PTv X C a ea) (hb : PTv X C b eb) : PTv X C (.IfExp d a b pos) (.ife ec ea eb) := by
  refine (pt_ife hc ha hb).imp fun σ H Q ⟨ρ, fp, T, G, R, w⟩ => ?_
  refine tT_of hC R w fun o d ρ1 ⟨t, e, q⟩ => ⟨t, e, fun H1 fp1 S1 st R1 => ?_⟩
  cases t with
  | true => exact tT_then hC R st R1 q
  | false => exact tT_then hC R st R1 q
/-- and-chains -/
theorem w_rest_and {z : Expr} {r : List Expr} {p : Pos} {eb : E} (h : PTv X C (restB .And z r p) eb) (hw : ∀ op vs q, restB .And z r p = .BoolOp op vs q → PWv X C (restB .And z r p) eb) : PWv X C (.BoolOp .And (z :: r) p) eb := by
  cases r with
  | nil => exact w_one_and h
  | cons y ys => exact hw _ _ _ rfl
theorem w_rest_or {z : Expr} {r : List Expr} {p : Pos} {eb : E} (h : PTv X C (restB .Or z r p) eb) (hw : ∀ op vs q, restB .Or z r p = .BoolOp op vs q → PWv X C (restB .Or z r p) eb) : PWv X C (.BoolOp .Or (z :: r) p) eb := by
  cases r with
  | nil => exact w_one_or h
  | cons y ys => exact hw _ _ _ rfl
theorem v_rest {op : BoolOp} {z : Expr} {r : List Expr} {p : Pos} {eb : E} (h : PEv X C (restB op z r p) eb) : PEv X C (.BoolOp op (z :: r) p) eb := by
  cases r with
  | nil => exact v_one h
  | cons y ys => exact h
/-- what is known of a test -/
abbrev TOk (X : Cx) (C : CallS) (x : Expr) (e : E) : Prop := PTv X C x e ∧ ∀ op vs p, x = .BoolOp op vs p → PWv X C x e
theorem tok_plain (hC : MonoC C) {x : Expr} {e : E} (h : PEv X C x e) (hp : plainT x = true) : TOk X C x e := ⟨t_plain hC h (plainT_ok hp), fun op vs p e => by subst e; cases hp⟩
theorem both (hC : MonoC C) {x : Expr} {e : E} (h : PEv X C x e) (hp : plainT x = true) : PEv X C x e ∧ TOk X C x e := ⟨h, tok_plain hC h hp⟩
theorem nobool {x : Expr} {e : E} (hp : PTv X C x e) (h : ∀ op vs p, x ≠ .BoolOp op vs p) : TOk X C x e := ⟨hp, fun op vs p q => (h op vs p q).elim⟩
end

set_option maxHeartbeats 40000000 in
mutual
theorem ok_E {c : Ck} {C : CallS} {k : Nat} : ∀ (e : E) {X : Cx} {sc : Scope}, Gd c C k X sc → ∀ x : Expr, ckE c e sc x = true → PEv X C x e ∧ TOk X C x e
  | .non, X, sc, g, x, h => by
    unfold ckE at h
    split at h <;> first | exact both g.hC v_non rfl | cases h
  | .bl b, X, sc, g, x, h => by
    unfold ckE at h
    split at h <;> first | (simp at h; subst h; exact both g.hC v_bl rfl) | cases h
  | .int i, X, sc, g, x, h => by
    unfold ckE at h
    split at h <;> first | (simp at h; subst h; exact both g.hC v_int rfl) | cases h
  | .str i, X, sc, g, x, h => by
    unfold ckE at h
    split at h <;> first | (simp at h; subst h; exact both g.hC v_str rfl) | cases h
  | .glb n d, X, sc, g, x, h => by
    unfold ckE at h
    split at h <;> try (cases h; done)
    simp only [Bool.and_eq_true, decide_eq_true_eq] at h
    obtain ⟨⟨rfl, h2⟩, h3⟩ := h
    split at h3 <;> try (cases h3; done)
    rename_i d' e
    obtain ⟨rfl, hs⟩ := sameC_eq h3
    obtain ⟨hd, v, u, hm, r, hv⟩ := g.gl _ _ e
    exact both g.hC (v_glb (g.glob h2) hm r hv hs hd) rfl
  | .var m i, X, sc, g, x, h => by
    unfold ckE at h
    split at h <;> try (cases h; done)
    obtain ⟨h1, h2, h3, h4⟩ := g.slot h
    exact both g.hC (v_var h1 h2 h3 h4) rfl
  | .bin op a b, X, sc, g, x, h => by
    unfold ckE at h
    split at h <;> try (cases h; done)
    simp only [Bool.and_eq_true, decide_eq_true_eq] at h
    obtain ⟨⟨⟨⟨rfl, n1⟩, n2⟩, h1⟩, h2⟩ := h
    obtain ⟨r, ho, hr⟩ := bin_rule (X := X) op ⟨n1, n2⟩
    exact both g.hC (v_bin g.hC ho hr (ok_E a g _ h1).1 (ok_E b g _ h2).1) rfl
  | .un op a, X, sc, g, x, h => by
    unfold ckE at h
    split at h <;> try (cases h; done)
    simp only [Bool.and_eq_true, Bool.or_eq_true, decide_eq_true_eq] at h
    obtain ⟨⟨rfl, n1⟩, h1⟩ := h
    rcases n1 with rfl | rfl
    · exact both g.hC (v_neg g.hC (ok_E a g _ h1).1) rfl
    · exact both g.hC (v_inv g.hC (ok_E a g _ h1).1) rfl
  | .nt a, X, sc, g, x, h => by
    unfold ckE at h
    split at h <;> try (cases h; done)
    obtain ⟨p1, p2⟩ := ok_E a g _ h
    exact ⟨v_nt g.hC p1, nobool (t_nt g.hC p2.1) (fun _ _ _ e => by cases e)⟩
  | .and a b, X, sc, g, x, h => by
    unfold ckE at h
    split at h <;> try (cases h; done)
    simp only [Bool.and_eq_true] at h
    obtain ⟨p1, p2⟩ := ok_E a g _ h.1
    obtain ⟨q1, q2, q3⟩ := ok_E b g _ h.2
    have w := w_and (pos := ‹Pos›) g.hC p2.1 (w_rest_and q2 q3)
    exact ⟨v_and g.hC p1 (v_rest q1), w.pt, fun _ _ _ _ => w⟩
  | .or a b, X, sc, g, x, h => by
    unfold ckE at h
    split at h <;> try (cases h; done)
    simp only [Bool.and_eq_true] at h
    obtain ⟨p1, p2⟩ := ok_E a g _ h.1
    obtain ⟨q1, q2, q3⟩ := ok_E b g _ h.2
    have w := w_or (pos := ‹Pos›) g.hC p2.1 (w_rest_or q2 q3)
    exact ⟨v_or g.hC p1 (v_rest q1), w.pt, fun _ _ _ _ => w⟩
  | .cmp op a b, X, sc, g, x, h => by
    unfold ckE at h
    split at h <;> try (cases h; done)
    simp only [Bool.and_eq_true, Bool.not_eq_true', decide_eq_true_eq] at h
    obtain ⟨⟨⟨rfl, h1⟩, h2⟩, h3⟩ := h
    obtain ⟨r, ho, hr⟩ := cmp_rule (X := X) g.hu
    exact ⟨v_cmp g.hC ho hr (ok_E a g _ h1).1 (ok_E b g _ h2).1 h3, nobool (t_cmp g.hC ho hr (ok_E a g _ h1).1 (ok_E b g _ h2).1 h3) (fun _ _ _ e => by cases e)⟩
  | .chain op op2 a b d, X, sc, g, x, h => by
    unfold ckE at h
    split at h <;> try (cases h; done)
    simp only [Bool.and_eq_true, Bool.not_eq_true', decide_eq_true_eq] at h
    obtain ⟨⟨⟨⟨⟨⟨⟨⟨⟨rfl, n1⟩, n2⟩, rfl⟩, n3⟩, n4⟩, h1⟩, h2⟩, h3⟩, h4⟩ := h
    obtain ⟨r, ho, hr⟩ := cmp_rule (X := X) g.hu
    obtain ⟨r', ho', hr'⟩ := cmp_rule (X := X) g.hu
    exact ⟨v_chain g.hC ho ho' hr hr' (ok_E a g _ h1).1 (ok_E b g _ h2).1 (ok_E d g _ h3).1 h4, nobool (t_chain g.hC ho ho' hr hr' (ok_E a g _ h1).1 (ok_E b g _ h2).1 (ok_E d g _ h3).1 h4) (fun _ _ _ e => by cases e)⟩
  | .isN a, X, sc, g, x, h => by
    unfold ckE at h
    split at h <;> try (cases h; done)
    exact ⟨v_isN g.hC (ok_E a g _ h).1, nobool (t_isN g.hC (ok_E a g _ h).1) (fun _ _ _ e => by cases e)⟩
  | .notN a, X, sc, g, x, h => by
    unfold ckE at h
    split at h <;> try (cases h; done)
    exact ⟨v_notN g.hC (ok_E a g _ h).1, nobool (t_notN g.hC (ok_E a g _ h).1) (fun _ _ _ e => by cases e)⟩
  | .ife d a b, X, sc, g, x, h => by
    unfold ckE at h
    split at h <;> try (cases h; done)
    simp only [Bool.and_eq_true] at h
    exact ⟨v_ife g.hC (ok_E d g _ h.1.1).2.1 (ok_E a g _ h.1.2).1 (ok_E b g _ h.2).1, nobool (t_ife g.hC (ok_E d g _ h.1.1).2.1 (ok_E a g _ h.1.2).2.1 (ok_E b g _ h.2).2.1) (fun _ _ _ e => by cases e)⟩
  | .lst es, X, sc, g, x, h => by
    unfold ckE at h
    split at h <;> try (cases h; done)
    exact both g.hC (v_lst g.hC (ok_Es es g _ h).1) rfl
  | .tup es, X, sc, g, x, h => by
    unfold ckE at h
    split at h <;> try (cases h; done)
    exact both g.hC (v_tup g.hC (ok_Es es g _ h).1) rfl
  | .idx a b, X, sc, g, x, h => by
    unfold ckE at h
    split at h <;> try (cases h; done)
    simp only [Bool.and_eq_true] at h
    exact both g.hC (v_idx g.hC g.hu (ok_E a g _ h.1.2).1 (ok_E b g _ h.2).1 (plainIx_ok h.1.1)) rfl
  | .sidx i b, X, sc, g, x, h => by
    unfold ckE at h
    split at h <;> try (cases h; done)
    simp only [Bool.and_eq_true] at h
    obtain ⟨h1, h2, h3, h4⟩ := g.slot h.1.2
    exact both g.hC (v_sidx g.hC g.hu h1 h2 h3 h4 (ok_E b g _ h.2).1 (plainIx_ok h.1.1)) rfl
  | .slc a lo hi, X, sc, g, x, h => by
    unfold ckE at h
    split at h <;> try (cases h; done)
    simp only [Bool.and_eq_true] at h
    exact both g.hC (v_slc g.hC (ok_E a g _ h.1.1).1 ((ok_Eo lo g).1 _ h.1.2) ((ok_Eo hi g).1 _ h.2)) rfl
  | .rev a, X, sc, g, x, h => by
    unfold ckE at h
    split at h <;> try (cases h; done)
    exact both g.hC (v_rev g.hC (ok_E a g _ h).1) rfl
  | .callP f es, X, sc, g, x, h => by
    unfold ckE at h
    split at h <;> try (cases h; done)
    simp only [Bool.and_eq_true] at h
    obtain ⟨⟨h1, h2⟩, h3⟩ := h
    split at h1 <;> try (cases h1; done)
    rename_i n' np en
    simp only [Bool.and_eq_true, decide_eq_true_eq] at h1
    obtain ⟨⟨rfl, h4⟩, h5⟩ := h1
    have ns := noStar_all es _ h3
    simp only [List.all_cons, Bool.and_eq_true] at ns
    refine both g.hC (v_callP g.hC g.hres g.defs g.room en (g.glob h2) (g.nmd _ _ _ en) (ok_Es es g _ h3).2 ns.1 ns.2 h4 ?_) rfl
    intro ρ Q w
    have := wpArgs_len g.hC es w
    rw [h5] at this
    exact this
  | .callX f as, X, sc, g, x, h => by
    unfold ckE at h
    split at h <;> try (cases h; done)
    simp only [Bool.and_eq_true] at h
    obtain ⟨⟨h1, h2⟩, h3⟩ := h
    split at h1 <;> try (cases h1; done)
    rename_i n' np en
    simp only [Bool.and_eq_true, decide_eq_true_eq] at h1
    obtain ⟨rfl, h5⟩ := h1
    have ns := noStar_as as _ h3
    simp only [List.all_cons, Bool.and_eq_true] at ns
    refine both g.hC (v_callX g.hC g.hres g.defs g.room en (g.glob h2) (g.nmd _ _ _ en) (ok_As as g _ h3) ns.1 ns.2 ?_) rfl
    intro ρ Q w
    have := wpAs_len g.hC as w
    rw [h5] at this
    exact this
  | .b1 b a, X, sc, g, x, h => by
    unfold ckE at h
    split at h <;> try (cases h; done)
    simp only [Bool.and_eq_true] at h
    obtain ⟨rfl, hg, hm⟩ := g.blt h.1.1
    exact both g.hC (v_b1 g.hC g.calm hg hm (ok_E a g _ h.2).1 h.1.2) rfl
  | .b2 b a d, X, sc, g, x, h => by
    unfold ckE at h
    split at h <;> try (cases h; done)
    simp only [Bool.and_eq_true] at h
    obtain ⟨rfl, hg, hm⟩ := g.blt h.1.1.1.1
    exact both g.hC (v_b2 g.hC g.calm hg hm (ok_E a g _ h.1.2).1 (ok_E d g _ h.2).1 h.1.1.1.2 h.1.1.2) rfl
  | .app i e, X, sc, g, x, h => by
    unfold ckE at h
    split at h <;> try (cases h; done)
    simp only [Bool.and_eq_true, decide_eq_true_eq] at h
    obtain ⟨⟨⟨⟨rfl, hl⟩, hs⟩, hn⟩, he⟩ := h
    obtain ⟨h1, h2, h3, h4⟩ := g.slot hs
    exact both g.hC (v_app g.hC h1 h2 h3 h4 (ok_E e g _ he).1 hl hn) rfl
  | .ext i e, X, sc, g, x, h => by
    unfold ckE at h
    split at h <;> try (cases h; done)
    simp only [Bool.and_eq_true, decide_eq_true_eq] at h
    obtain ⟨⟨⟨⟨rfl, hl⟩, hs⟩, hn⟩, he⟩ := h
    obtain ⟨h1, h2, h3, h4⟩ := g.slot hs
    exact both g.hC (v_ext g.hC h1 h2 h3 h4 (ok_E e g _ he).1 hl hn) rfl
  | .pop i, X, sc, g, x, h => by
    unfold ckE at h
    split at h <;> try (cases h; done)
    simp only [Bool.and_eq_true, decide_eq_true_eq] at h
    obtain ⟨⟨rfl, hl⟩, hs⟩ := h
    obtain ⟨h1, h2, h3, h4⟩ := g.slot hs
    exact both g.hC (v_pop g.hC h1 h2 h3 h4 hl) rfl
  | .popAt i e, X, sc, g, x, h => by
    unfold ckE at h
    split at h <;> try (cases h; done)
    simp only [Bool.and_eq_true, decide_eq_true_eq] at h
    obtain ⟨⟨⟨⟨rfl, hl⟩, hs⟩, hn⟩, he⟩ := h
    obtain ⟨h1, h2, h3, h4⟩ := g.slot hs
    exact both g.hC (v_popAt g.hC h1 h2 h3 h4 (ok_E e g _ he).1 hl hn) rfl
  | .lc p t it cn e, X, sc, g, x, h => by
    unfold ckE at h
    split at h <;> try (cases h; done)
    simp only [Bool.and_eq_true, decide_eq_true_eq] at h
    obtain ⟨⟨⟨⟨⟨⟨ho, hb⟩, hns⟩, hi⟩, ht⟩, hcn⟩, he⟩ := h
    have ok := blkOk_by hb
    have ok' := ok
    rw [← g.hN, ← g.scope] at ok'
    refine both g.hC ?_ rfl
    refine (pe_lc (te := tE X.K C e) (tt := tCn X.K C cn) (g := gT X.K t) (wi := tI X.K C it) g.calm g.nd (ok_It it g _ _ hi) ok' (fun s H A0 cl fp => ok_tg (g.blk s H A0 cl fp ok.kind) (fun x hx => hx) t _ ht) (fun s H A0 cl fp => (ok_Eo cn (g.blk s H A0 cl fp ok.kind)).2 _ hcn)
      (fun s H A0 cl fp => (ok_E e (g.blk s H A0 cl fp ok.kind) _ he).1) (notSet_ok hns)).imp fun σ H Q w => ?_
    have ho' := ho
    rw [← g.hN] at ho'
    rw [ho']
    exact lc_ok g.hC w
  | .isi ty a, X, sc, g, x, h => by
    unfold ckE at h
    split at h <;> try (cases h; done)
    simp only [Bool.and_eq_true] at h
    obtain ⟨⟨⟨h1, h2⟩, h3⟩, h4⟩ := h
    obtain ⟨rfl, hg, hm⟩ := g.blt h1
    obtain ⟨rfl, hg2, hm2⟩ := g.blt h2
    exact both g.hC (v_isi g.hC hg hm hg2 hm2 (ok_E a g _ h4).1 h3) rfl
  | .lc2 t it cn t1 it1 c1 e, X, sc, g, x, h => by
    unfold ckE at h
    split at h <;> try (cases h; done)
    simp only [Bool.and_eq_true, decide_eq_true_eq] at h
    obtain ⟨⟨⟨⟨⟨⟨⟨⟨⟨⟨ho, hb⟩, hns⟩, hns1⟩, hi⟩, ht⟩, hcn⟩, hi1⟩, ht1⟩, hc1⟩, he⟩ := h
    have ok := blkOk_by hb
    have ok' := ok
    rw [← g.hN, ← g.scope] at ok'
    refine both g.hC ?_ rfl
    have ho' := ho
    rw [← g.hN] at ho'
    refine (pe_lc2 (te := tE X.K C e) (tt := tCn X.K C cn) (g := gT X.K t) (wi := tI X.K C it) (tt1 := tCn X.K C c1) (g1 := gT X.K t1) (wi1 := tI X.K C it1) (vs1 := tgs t1) g.calm g.nd (ok_It it g _ _ hi) ok' (fun i hi => by rw [ho']; exact List.mem_append_right _ hi) (fun s H A0 cl fp => ok_tg (g.blk s H A0 cl fp ok.kind) (fun x hx => hx) t _ ht) (fun s H A0 cl fp => (ok_Eo cn (g.blk s H A0 cl fp ok.kind)).2 _ hcn)
      (fun s H A0 cl fp => ok_It it1 (g.blk s H A0 cl fp ok.kind) _ _ hi1) (fun s H A0 cl fp => ok_tg (g.blk s H A0 cl fp ok.kind) (fun x hx => hx) t1 _ ht1) (fun s H A0 cl fp => (ok_Eo c1 (g.blk s H A0 cl fp ok.kind)).2 _ hc1)
      (fun s H A0 cl fp => (ok_E e (g.blk s H A0 cl fp ok.kind) _ he).1) (notSet_ok hns) (fun env => notSet_ok hns1)).imp fun σ H Q w => ?_
    rw [ho']
    exact lc2_ok g.hC w
  | .callF f es, X, sc, g, x, h => by
    unfold ckE at h
    split at h <;> try (cases h; done)
    simp only [Bool.and_eq_true] at h
    obtain ⟨⟨h1, h2⟩, h3⟩ := h
    split at h1 <;> try (cases h1; done)
    rename_i n' np en
    simp only [Bool.and_eq_true, decide_eq_true_eq] at h1
    obtain ⟨⟨rfl, h4⟩, h5⟩ := h1
    have ns := noStar_all es _ h3
    simp only [List.all_cons, Bool.and_eq_true] at ns
    refine both g.hC (v_callF g.hC g.hres g.defs g.room en (g.glob h2) (g.nmd _ _ _ en) (ok_Es es g _ h3).2 ns.1 ns.2 h4 ?_) rfl
    intro ρ Q w
    have := wpArgs_len g.hC es w
    rw [h5] at this
    exact this
  | .idxOf i e, X, sc, g, x, h => by
    unfold ckE at h
    split at h <;> try (cases h; done)
    simp only [Bool.and_eq_true, decide_eq_true_eq] at h
    obtain ⟨⟨⟨⟨rfl, hl⟩, hs⟩, hn⟩, he⟩ := h
    obtain ⟨h1, h2, h3, h4⟩ := g.slot hs
    exact both g.hC (v_idxOf g.hC g.hu h1 h2 h3 h4 (ok_E e g _ he).1 hl hn) rfl
  | .rem i e, X, sc, g, x, h => by
    unfold ckE at h
    split at h <;> try (cases h; done)
    simp only [Bool.and_eq_true, decide_eq_true_eq] at h
    obtain ⟨⟨⟨⟨rfl, hl⟩, hs⟩, hn⟩, he⟩ := h
    obtain ⟨h1, h2, h3, h4⟩ := g.slot hs
    exact both g.hC (v_rem g.hC h1 h2 h3 h4 (ok_E e g _ he).1 hl hn) rfl
  | .lrng a, X, sc, g, x, h => by
    unfold ckE at h
    split at h <;> try (cases h; done)
    simp only [Bool.and_eq_true] at h
    obtain ⟨⟨⟨h1, h2⟩, h3⟩, h4⟩ := h
    obtain ⟨rfl, hg, hm⟩ := g.blt h1
    obtain ⟨rfl, hg2, hm2⟩ := g.blt h2
    exact both g.hC (v_lrng g.hC g.calm hg hm hg2 hm2 (ok_E a g _ h4).1 h3) rfl
  | .mxd mx a d, X, sc, g, x, h => by
    unfold ckE at h
    split at h <;> try (cases h; done)
    simp only [Bool.and_eq_true, decide_eq_true_eq] at h
    obtain ⟨⟨⟨⟨h1, rfl⟩, h3⟩, h4⟩, h5⟩ := h
    obtain ⟨e, hg, hm⟩ := g.blt h1
    subst e
    exact both g.hC (v_mxd g.hC g.calm g.hu (by cases mx <;> rfl) hg hm (ok_E a g _ h4).1 (ok_E d g _ h5).1 h3) rfl
  | .wk t e, X, sc, g, x, h => by
    unfold ckE at h
    simp only [Bool.and_eq_true] at h
    obtain ⟨p1, p2, p3⟩ := ok_E e g _ h.2
    exact ⟨v_wk g.hC p1, t_wk g.hC p2, fun op vs p ex => w_wk g.hC (p3 op vs p ex)⟩
  | .mf2 f a b, X, sc, g, x, h => by
    unfold ckE at h
    split at h <;> try (cases h; done)
    simp only [Bool.and_eq_true, decide_eq_true_eq] at h
    obtain ⟨⟨⟨⟨⟨h1, h2⟩, h3⟩, h4⟩, h5⟩, h6⟩ := h
    obtain ⟨hd, hm⟩ := g.mf _ _ h2
    exact both g.hC (v_mf2 g.hC g.calm (g.glob h1) hm hd (ok_E a g _ h5).1 (ok_E b g _ h6).1 h3 h4) rfl
  | .dnew, X, sc, g, x, h => by
    unfold ckE at h
    split at h <;> try (cases h; done)
    exact both g.hC v_dnew rfl
  | .dc t it cn ke e, X, sc, g, x, h => by
    unfold ckE at h
    split at h <;> try (cases h; done)
    simp only [Bool.and_eq_true, decide_eq_true_eq] at h
    obtain ⟨⟨⟨⟨⟨⟨⟨ho, hb⟩, hns⟩, hi⟩, ht⟩, hcn⟩, hk⟩, he⟩ := h
    have ok := blkOk_by hb
    have ok' := ok
    rw [← g.hN, ← g.scope] at ok'
    refine both g.hC ?_ rfl
    refine (pe_dc (tv := tE X.K C e) (tk := tE X.K C ke) (tt := tCn X.K C cn) (g := gT X.K t) (wi := tI X.K C it) g.calm g.nd (ok_It it g _ _ hi) ok' (fun s H A0 cl fp => ok_tg (g.blk s H A0 cl fp ok.kind) (fun x hx => hx) t _ ht) (fun s H A0 cl fp => (ok_Eo cn (g.blk s H A0 cl fp ok.kind)).2 _ hcn)
      (fun s H A0 cl fp => (ok_E ke (g.blk s H A0 cl fp ok.kind) _ hk).1) (fun s H A0 cl fp => (ok_E e (g.blk s H A0 cl fp ok.kind) _ he).1) (notSet_ok hns)).imp fun σ H Q w => ?_
    have ho' := ho
    rw [← g.hN] at ho'
    rw [ho']
    exact dc_ok g.hC w
  | .dmut ext i ke e, X, sc, g, x, h => by
    unfold ckE at h
    split at h <;> try (cases h; done)
    simp only [Bool.and_eq_true, decide_eq_true_eq] at h
    obtain ⟨⟨⟨⟨⟨⟨hm, hl⟩, hs⟩, hp⟩, hn⟩, hk⟩, he⟩ := h
    obtain ⟨h1, h2, h3, h4⟩ := g.slot hs
    cases ext with
    | true =>
      rw [if_pos rfl] at hm
      subst hm
      exact both g.hC (v_dext g.hC g.hu h1 h2 h3 h4 (ok_E ke g _ hk).1 (ok_E e g _ he).1 (plainIx_ok hp) hl hn) rfl
    | false =>
      rw [if_neg Bool.false_ne_true] at hm
      subst hm
      exact both g.hC (v_dapp g.hC g.hu h1 h2 h3 h4 (ok_E ke g _ hk).1 (ok_E e g _ he).1 (plainIx_ok hp) hl hn) rfl
  | .dpop i ke, X, sc, g, x, h => by
    unfold ckE at h
    split at h <;> try (cases h; done)
    simp only [Bool.and_eq_true, decide_eq_true_eq] at h
    obtain ⟨⟨⟨⟨rfl, hl⟩, hs⟩, hn⟩, hk⟩ := h
    obtain ⟨h1, h2, h3, h4⟩ := g.slot hs
    exact both g.hC (v_dpop g.hC h1 h2 h3 h4 (ok_E ke g _ hk).1 hl hn) rfl
  | .dget two i ke e, X, sc, g, x, h => by
    cases two with
    | true =>
      simp only [ckE] at h
      split at h <;> try (cases h; done)
      simp only [Bool.and_eq_true, decide_eq_true_eq] at h
      obtain ⟨⟨⟨⟨⟨⟨rfl, hl⟩, hs⟩, hn⟩, hn2⟩, hk⟩, he⟩ := h
      obtain ⟨h1, h2, h3, h4⟩ := g.slot hs
      exact both g.hC (v_dget2 g.hC g.hu h1 h2 h3 h4 (ok_E ke g _ hk).1 (ok_E e g _ he).1 hl hn hn2) rfl
    | false =>
      cases e with
      | non =>
        simp only [ckE] at h
        split at h <;> try (cases h; done)
        simp only [Bool.and_eq_true, decide_eq_true_eq] at h
        obtain ⟨⟨⟨⟨rfl, hl⟩, hs⟩, hn⟩, hk⟩ := h
        obtain ⟨h1, h2, h3, h4⟩ := g.slot hs
        exact both g.hC (v_dget1 g.hC g.hu h1 h2 h3 h4 (ok_E ke g _ hk).1 hl hn) rfl
      | _ => simp only [ckE] at h; cases h
  | .tapp i j e, X, sc, g, x, h => by
    unfold ckE at h
    split at h <;> try (cases h; done)
    simp only [Bool.and_eq_true, decide_eq_true_eq] at h
    obtain ⟨⟨⟨⟨⟨rfl, hl⟩, hs⟩, hz⟩, hn⟩, he⟩ := h
    split at hz <;> try (cases hz; done)
    simp only [decide_eq_true_eq] at hz
    subst hz
    obtain ⟨h1, h2, h3, h4⟩ := g.slot hs
    exact both g.hC (v_tapp g.hC h1 h2 h3 h4 (ok_E e g _ he).1 hl hn) rfl
  | .tupM i e, X, sc, g, x, h => by
    unfold ckE at h
    split at h <;> try (cases h; done)
    simp only [Bool.and_eq_true] at h
    obtain ⟨⟨hs, hn⟩, he⟩ := h
    obtain ⟨h1, h2, h3, h4⟩ := g.slot hs
    exact both g.hC (v_tupM g.hC h1 h2 h3 h4 (ok_E e g _ he).1 hn) rfl
  | .bitl e, X, sc, g, x, h => by
    unfold ckE at h
    split at h <;> try (cases h; done)
    simp only [Bool.and_eq_true, decide_eq_true_eq] at h
    obtain ⟨⟨rfl, hl⟩, he⟩ := h
    exact both g.hC (v_bitl g.hC (ok_E e g _ he).1 rfl hl) rfl
theorem ok_Es {c : Ck} {C : CallS} {k : Nat} : ∀ (e : Es) {X : Cx} {sc : Scope}, Gd c C k X sc → ∀ x : List Expr, ckEs c e sc x = true → PAv X C x e ∧ PArgs X C x e
  | .nil, X, sc, g, x, h => by
    unfold ckEs at h
    split at h <;> first | exact ⟨a_nil, g_nil⟩ | cases h
  | .cons e es, X, sc, g, x, h => by
    unfold ckEs at h
    split at h <;> try (cases h; done)
    simp only [Bool.and_eq_true] at h
    obtain ⟨h1, h2⟩ := ok_Es es g _ h.2
    have he := (ok_E e g _ h.1.2).1
    exact ⟨a_cons g.hC he h1 (star_cons h.1.1), g_cons g.hC he h2 h.1.1⟩
theorem ok_Eo {c : Ck} {C : CallS} {k : Nat} : ∀ (e : Eo) {X : Cx} {sc : Scope}, Gd c C k X sc → (∀ x : Option Expr, ckEo c e sc x = true → oV C X x e) ∧ (∀ x : List Expr, ckC c e sc x = true → PTsv X C x e)
  | .nil, X, sc, g => by
    refine ⟨fun x h => ?_, fun x h => ?_⟩
    · unfold ckEo at h
      split at h <;> first | exact trivial | cases h
    · unfold ckC at h
      split at h <;> first | exact c_nil | cases h
  | .some e, X, sc, g => by
    refine ⟨fun x h => ?_, fun x h => ?_⟩
    · unfold ckEo at h
      split at h <;> try (cases h; done)
      exact (ok_E e g _ h).1
    · unfold ckC at h
      split at h <;> try (cases h; done)
      exact c_some (ok_E e g _ h).2.1
theorem ok_As {c : Ck} {C : CallS} {k : Nat} : ∀ (e : As) {X : Cx} {sc : Scope}, Gd c C k X sc → ∀ x : List Expr, ckAs c e sc x = true → PAs X C x e
  | .nil, X, sc, g, x, h => by
    unfold ckAs at h
    split at h <;> first | exact s_nil | cases h
  | .lend i r, X, sc, g, x, h => by
    unfold ckAs at h
    split at h <;> try (cases h; done)
    simp only [Bool.and_eq_true] at h
    obtain ⟨h1, h2, h3, h4⟩ := g.slot h.1
    exact s_lend g.hC h1 h2 h3 h4 (ok_As r g _ h.2)
  | .val e r, X, sc, g, x, h => by
    unfold ckAs at h
    split at h <;> try (cases h; done)
    simp only [Bool.and_eq_true] at h
    exact s_val g.hC (ok_E e g _ h.1.2).1 (ok_As r g _ h.2) h.1.1
theorem ok_It {c : Ck} {C : CallS} {k : Nat} : ∀ (e : VH.It) {X : Cx} {sc : Scope}, Gd c C k X sc → ∀ tg x : Expr, ckIt c e sc tg x = true → PIv X C tg x e
  | .seq e, X, sc, g, tg, x, h => by
    unfold ckIt at h
    exact i_seq g.hC (ok_E e g _ h).1
  | .rng1 a, X, sc, g, tg, x, h => by
    unfold ckIt at h
    split at h <;> try (cases h; done)
    simp only [Bool.and_eq_true] at h
    obtain ⟨rfl, hg, hm⟩ := g.blt h.1.1
    exact i_rng1 g.hC hg hm (ok_E a g _ h.2).1 h.1.2
  | .rng2 a b, X, sc, g, tg, x, h => by
    unfold ckIt at h
    split at h <;> try (cases h; done)
    simp only [Bool.and_eq_true] at h
    obtain ⟨rfl, hg, hm⟩ := g.blt h.1.1.1.1
    exact i_rng2 g.hC hg hm (ok_E a g _ h.1.2).1 (ok_E b g _ h.2).1 h.1.1.1.2 h.1.1.2
  | .enum e, X, sc, g, tg, x, h => by
    unfold ckIt at h
    split at h <;> try (cases h; done)
    simp only [Bool.and_eq_true] at h
    obtain ⟨⟨⟨h1, h2⟩, h3⟩, h4⟩ := h
    obtain ⟨rfl, hg, hm⟩ := g.blt h1
    cases tg <;> try (cases h2; done)
    exact i_enum g.hC hg hm (ok_E e g _ h4).1 h3
  | .zip a b, X, sc, g, tg, x, h => by
    unfold ckIt at h
    split at h <;> try (cases h; done)
    simp only [Bool.and_eq_true] at h
    obtain ⟨⟨⟨⟨⟨h1, h2⟩, h3⟩, h4⟩, h5⟩, h6⟩ := h
    obtain ⟨rfl, hg, hm⟩ := g.blt h1
    cases tg <;> try (cases h2; done)
    exact i_zip g.hC hg hm (ok_E a g _ h5).1 (ok_E b g _ h6).1 h3 h4
  | .rng3 a b k, X, sc, g, tg, x, h => by
    unfold ckIt at h
    split at h <;> try (cases h; done)
    simp only [Bool.and_eq_true] at h
    obtain ⟨⟨⟨⟨⟨h1, h2⟩, h3⟩, h4⟩, h5⟩, h6⟩ := h
    obtain ⟨rfl, hg, hm⟩ := g.blt h1
    obtain ⟨c1, c2⟩ := constI_ok (X := X) h6
    exact i_rng3 g.hC hg hm (ok_E a g _ h4).1 (ok_E b g _ h5).1 c1 h2 h3 c2
end
end VH
namespace VH
open PySem PySem.Spec PyProof.Rows L2

def allF : Str → Bool := fun _ => true
/-- a list comprehension of one clause, stored under a name -/
def lc1 : Expr → Bool
  | .ListComp _ [⟨_, _, _, 0⟩] _ _ => true
  | .ListComp _ [⟨_, _, _, 0⟩, ⟨_, _, _, 0⟩] _ _ => true
  | _ => false
def dc1 : Expr → Bool
  | .DictComp _ _ [⟨_, _, _, 0⟩] _ _ => true
  | _ => false
mutual
def ckS (c : Ck) : Sm → Scope → Stmt → Bool
  | .asg i e, sc, x => match x with
    | .Assign [.Name n _] v _ => decide (c.N[i]? = some n) && locB allF sc n && ckE c e sc v && (notComp v || lc1 v || dc1 v)
    | _ => false
  | .asgT t e, sc, x => match x with
    | .Assign [.Tuple es k p] v _ => ckTg c allF sc t (.Tuple es k p) && ckE c e sc v && notComp v && notTup v
    | _ => false
  | .set i b e, sc, x => match x with
    | .Assign [.Subscript (.Name n _) z _] v _ => slotB c sc i n && plainIx z && ckE c b sc z && ckE c e sc v && notComp v
    | _ => false
  | .aug i op e, sc, x => match x with
    | .AugAssign (.Name n _) op' v _ => decide (op = op') && decide (c.N[i]? = some n) && locB allF sc n && ckE c e sc v
    | _ => false
  | .augS i b op e, sc, x => match x with
    | .AugAssign (.Subscript (.Name n _) z _) op' v _ => decide (op = op') && slotB c sc i n && plainIx z && ckE c b sc z && ckE c e sc v
    | _ => false
  | .ex e, sc, x => match x with
    | .Expr v _ => ckE c e sc v && notComp v
    | _ => false
  | .ite d a b, sc, x => match x with
    | .If t y z _ => ckE c d sc t && ckSs c a sc y && ckSs c b sc z
    | _ => false
  | .fr t it body, sc, x => match x with
    | .For tg iter y [] _ => ckTg c allF sc t tg && ckIt c it sc tg iter && ckSs c body sc y && notSet iter
    | _ => false
  | .wh d body, sc, x => match x with
    | .While t y [] _ => ckE c d sc t && ckSs c body sc y
    | _ => false
  | .ret e, sc, x => match x with
    | .Return (some v) _ => ckE c e sc v
    | _ => false
  | .ret0, _, x => match x with
    | .Return none _ => true
    | _ => false
  | .brk, _, x => match x with
    | .Break _ => true
    | _ => false
  | .cnt, _, x => match x with
    | .Continue _ => true
    | _ => false
  | .pas, _, x => match x with
    | .Pass _ => true
    | _ => false
  | .nev, _, _ => true
  | .dset i b e, sc, x => match x with
    | .Assign [.Subscript (.Name n _) z _] v _ => slotB c sc i n && plainIx z && ckE c b sc z && ckE c e sc v
    | _ => false
  | .lkd _ s, sc, x => ckS c s sc x
def ckSs (c : Ck) : Sms → Scope → List Stmt → Bool
  | .nil, _, x => match x with
    | [] => true
    | _ => false
  | .cons s ss, sc, x => match x with
    | y :: ys => ckS c s sc y && ckSs c ss sc ys
    | [] => false
end
section
variable {c : Ck} {C : CallS} {k : Nat} {X : Cx} {sc : Scope} {lk : Nat → Bool}
theorem sw_lc {elt : Expr} {gs : List Comprehension} {scope : Scope} {pos py : Pos} {y : Str} {l : Nat} {env : PySem.Env} (hk : env.scope.kind = .function) :
    swapsWith (.ListComp elt gs scope pos) (some (.Name y py)) l env = pure (decide (env.scope.names.lookup y = some .local) && py.line == pos.line && !(scope.names.any fun (n, k) => n == y && (k == .local || k == .cell))) := by
  have hb : env.blockKind = .function := by unfold Env.blockKind; rw [hk]; rfl
  unfold swapsWith
  simp only [hb, Env.kindOf, Expr.pos]
  show pure _ = pure _
  congr 1
  cases env.scope.names.lookup y with
  | none => rfl
  | some q => cases q <;> rfl
theorem sw_dc {kx vx : Expr} {gs : List Comprehension} {scope : Scope} {pos py : Pos} {y : Str} {l : Nat} {env : PySem.Env} (hk : env.scope.kind = .function) :
    swapsWith (.DictComp kx vx gs scope pos) (some (.Name y py)) l env = pure (decide (env.scope.names.lookup y = some .local) && py.line == pos.line && !(scope.names.any fun (n, k) => n == y && (k == .local || k == .cell))) := by
  have hb : env.blockKind = .function := by unfold Env.blockKind; rw [hk]; rfl
  unfold swapsWith
  simp only [hb, Env.kindOf, Expr.pos]
  show pure _ = pure _
  congr 1
  cases env.scope.names.lookup y with
  | none => rfl
  | some q => cases q <;> rfl
theorem ps_setDc {i : Nat} {y : Str} {py : Pos} {kx vx tg iter : Expr} {ifs : List Expr} {scope : Scope} {own : List (Str × Nat)} {pos spos : Pos} {wi : TI} {g : TG} {tt : TT} {tk tv : TE} (hc : X.calm = true) (hN : X.N.Nodup) (hy : X.N[i]? = some y) (hyl : X.env.scope.names.lookup y = some .local)
    (hsw : swapsWith (.DictComp kx vx [⟨tg, iter, ifs, 0⟩] scope pos) (some (.Name y py)) spos.line X.env = pure true) (hi : PI X tg iter wi) (ok : BlkOk X.N X.env.scope scope own)
    (hg : ∀ (s : Shared) (H : Hp) (C : Addr) (cl : List (Str × Addr)) (fp : List Addr), PG (X.blk s H scope (compEnvC scope cl C X.env) fp) tg g) (ht : ∀ (s : Shared) (H : Hp) (C : Addr) (cl : List (Str × Addr)) (fp : List Addr), PTs (X.blk s H scope (compEnvC scope cl C X.env) fp) ifs tt)
    (hk : ∀ (s : Shared) (H : Hp) (C : Addr) (cl : List (Str × Addr)) (fp : List Addr), PE (X.blk s H scope (compEnvC scope cl C X.env) fp) kx tk)
    (he : ∀ (s : Shared) (H : Hp) (C : Addr) (cl : List (Str × Addr)) (fp : List Addr), PE (X.blk s H scope (compEnvC scope cl C X.env) fp) vx tv) (hs : ∀ x, foldedSetIterable iter X.env x = pure x) :
    PS X (.Assign [.Name y py] (.DictComp kx vx [⟨tg, iter, ifs, 0⟩] scope pos) spos) (tAsg (tDc wi g tt tk tv (own.map (·.2))) (gName i)) := by
  refine ⟨fun pins s σ H D I h => ?_⟩
  rw [exec_Assign_Name_used _ _ _ _ hsw]
  refine wpAny_bind (wpAny_standAt (wpAny_bind ?_))
  show wpAny _ X.A (do let _ ← comprehension (.DictComp kx vx [⟨tg, iter, ifs, 0⟩] scope pos) scope X.env (firstIterPos [⟨tg, iter, ifs, 0⟩] pos) newDict false (eval iter X.env) (some (assign (.Name y py) X.env))) _ _ s
  have h : tDc wi g tt tk tv (own.map (·.2)) σ H (fun x H1 => gName i x σ H1 D.nx) := h
  refine wpAny_bind (thn (dc_core (Qf := fun _ s' => SP X pins D .next s') hc hN I hi ok hg ht hk he hs h fun L C s' m H' I' q hn f => ?_) fun _ s' hq => wpAny_pure (wpAny_pure hq))
  show wpAny _ _ (assign (.Name y py) X.env (.ref L)) _ _ _
  refine wpAny_assign_Name (store_ok2 (v := V.ref L) I' hN hy (.inl hyl) rfl (fun s2 I2 ⟨a, sb, ha⟩ => ?_) (.inr hyl))
  obtain ⟨f0, f1, f2, f3, f4, f5⟩ := f
  have haC : C ≠ a := by
    rcases ha with z | z
    · rw [z]; exact f1
    · exact fun e => f4 y a z e.symm
  refine ⟨m, hn.sameBut sb haC, fun h3 sb3 => ?_⟩
  exact ⟨_, H', I2.turned (t' := s2.toks) (fun b o hb e => (sb3.2 b hb).trans e) f0 f1 f3 f4 f5, q⟩
theorem sub_sw {o b e : Expr} {p : Pos} {l : Nat} {env : PySem.Env} : swapsWithSole [.Subscript o b p] e l env = pure false := by
  cases e <;> rfl
theorem sole_ok {t e : Expr} {l : Nat} {env : PySem.Env} (h : notComp e = true) : swapsWithSole [t] e l env = pure false := notComp_ok (t := some t) (l := l) (env := env) h
theorem noTup_sw {es : List Expr} {j : Nat} {p : Pos} {v : Expr} {env : PySem.Env} (h : notTup v = true) : swappedStores [.Tuple es j p] v env = pure none := by
  cases v <;> first | rfl | cases h
theorem set_assign {n : Str} {p pos' : Pos} {b : Expr} (h : plainIx b = true) : ∀ v, assign (.Subscript (.Name n p) b pos') X.env v = (do
      let ov ← holding [v] (eval (.Name n p) X.env)
      let iv ← holding [v, ov] (eval b X.env)
      standAt pos'
      holding [v, ov, iv] (setItem ov iv v)
      release [v, ov, iv] []) := by
  intro v
  cases b <;> first | rfl | cases h
theorem aug_store {b : Expr} (h : plainIx b = true) : ∀ ov iv new, augStore b ov iv new = (do holding [new, ov, iv] (setItem ov iv new); release [new, ov, iv] []; pure .next) := by
  intro ov iv new
  cases b <;> first | rfl | cases h
theorem Gd.at (g : Gd c C k X sc) {i : Nat} {n : Str} (h : c.N[i]? = some n) : X.N[i]? = some n := by rw [g.hN]; exact h
theorem Gd.fkind (g : Gd c C k X sc) : X.env.scope.kind = .function := by rw [g.scope]; exact g.kind
theorem ok_asgLcA (g : Gd c C k X sc) {i : Nat} {n : Str} {py spos : Pos} {v : Expr} (e0 : E) (hi : c.N[i]? = some n) (hl : locB allF sc n = true) (hfn : ∀ x, X.fn x = true) (h1 : lc1 v = true) : ∀ (e : E), (∀ t e1, e ≠ .wk t e1) → ckE c e sc v = true → (∀ σ H Q, tE X.K C e0 σ H Q → tE X.K C e σ H Q) → PSv X C lk (.Assign [.Name n py] v spos) (.asg i e0) := by
  intro e hwk h im
  obtain ⟨l1, l2⟩ := g.loc (fun x _ => hfn x) hl
  have hv := (ok_E e g v h).1.imp im
  cases v <;> try (exact Bool.noConfusion h1)
  rename_i elt gs scope pos
  have sw := sw_lc (elt := elt) (gs := gs) (scope := scope) (pos := pos) (py := py) (y := n) (l := spos.line) (env := X.env) g.fkind
  cases hb : (decide (X.env.scope.names.lookup n = some .local) && py.line == pos.line && !(scope.names.any fun (m, k) => m == n && (k == .local || k == .cell))) with
  | false => rw [hb] at sw; exact q_asg g.hC g.nd (g.at hi) l1 hv sw l2
  | true =>
    rw [hb] at sw
    simp only [Bool.and_eq_true, decide_eq_true_eq] at hb
    have fin : ∀ {te : TE}, (∀ σ H Q, tE X.K C e0 σ H Q → te σ H Q) → ∀ A σ H, tS X.K C lk (.asg i e0) A σ H → tAsg te (gName i) A σ H := fun {te} ht A σ H ⟨ρ, fp, T, G, R, l, w⟩ =>
      ht _ _ _ (asg_core (t := .nm i) (e := e0) g.hC R (fun j hj => by simp [tgs] at hj; rw [hj]; exact l) (wpE_mono g.hC _ _ _ _ (fun o d ρ1 q => asg_nm q) w))
    cases e <;> first | exact Bool.noConfusion h | exact (hwk _ _ rfl).elim | (rename_i two i0 ke o; cases two <;> first | exact Bool.noConfusion h | (cases o <;> exact Bool.noConfusion h)) | skip
    · rename_i p t it cn e
      unfold ckE at h
      split at h <;> try (cases h; done)
      rename_i heq
      cases heq
      simp only [Bool.and_eq_true, decide_eq_true_eq] at h
      obtain ⟨⟨⟨⟨⟨⟨ho, hb2⟩, hns⟩, hi2⟩, ht⟩, hcn⟩, he⟩ := h
      have ok := blkOk_by hb2
      have ok' := ok
      rw [← g.hN, ← g.scope] at ok'
      have ho' := ho
      rw [← g.hN] at ho'
      refine (ps_setLc (te := tE X.K C e) (tt := tCn X.K C cn) (g := gT X.K t) (wi := tI X.K C it) g.calm g.nd (g.at hi) hb.1.1 sw (ok_It it g _ _ hi2) ok' (fun s H A0 cl fp => ok_tg (g.blk s H A0 cl fp ok.kind) (fun x hx => hx) t _ ht) (fun s H A0 cl fp => (ok_Eo cn (g.blk s H A0 cl fp ok.kind)).2 _ hcn)
        (fun s H A0 cl fp => (ok_E e (g.blk s H A0 cl fp ok.kind) _ he).1) (notSet_ok hns)).imp ?_
      rw [ho']
      exact fin fun σ H Q w => lc_ok g.hC (im σ H Q w)
    · rename_i t it cn t1 it1 c1 e
      unfold ckE at h
      split at h <;> try (cases h; done)
      rename_i heq
      cases heq
      simp only [Bool.and_eq_true, decide_eq_true_eq] at h
      obtain ⟨⟨⟨⟨⟨⟨⟨⟨⟨⟨ho, hb2⟩, hns⟩, hns1⟩, hi2⟩, ht⟩, hcn⟩, hi1⟩, ht1⟩, hc1⟩, he⟩ := h
      have ok := blkOk_by hb2
      have ok' := ok
      rw [← g.hN, ← g.scope] at ok'
      have ho' := ho
      rw [← g.hN] at ho'
      refine (ps_setLc2 (te := tE X.K C e) (tt := tCn X.K C cn) (g := gT X.K t) (wi := tI X.K C it) (tt1 := tCn X.K C c1) (g1 := gT X.K t1) (wi1 := tI X.K C it1) (vs1 := tgs t1) g.calm g.nd (g.at hi) hb.1.1 sw (ok_It it g _ _ hi2) ok' (fun i hi => by rw [ho']; exact List.mem_append_right _ hi) (fun s H A0 cl fp => ok_tg (g.blk s H A0 cl fp ok.kind) (fun x hx => hx) t _ ht) (fun s H A0 cl fp => (ok_Eo cn (g.blk s H A0 cl fp ok.kind)).2 _ hcn)
        (fun s H A0 cl fp => ok_It it1 (g.blk s H A0 cl fp ok.kind) _ _ hi1) (fun s H A0 cl fp => ok_tg (g.blk s H A0 cl fp ok.kind) (fun x hx => hx) t1 _ ht1) (fun s H A0 cl fp => (ok_Eo c1 (g.blk s H A0 cl fp ok.kind)).2 _ hc1)
        (fun s H A0 cl fp => (ok_E e (g.blk s H A0 cl fp ok.kind) _ he).1) (notSet_ok hns) (fun env => notSet_ok hns1)).imp ?_
      rw [ho']
      exact fin fun σ H Q w => lc2_ok g.hC (im σ H Q w)
theorem ok_asgLcB (g : Gd c C k X sc) {i : Nat} {n : Str} {py spos : Pos} {v : Expr} (e0 : E) (hi : c.N[i]? = some n) (hl : locB allF sc n = true) (hfn : ∀ x, X.fn x = true) (h1 : lc1 v = true) (e : E) (h : ckE c e sc v = true) (im : ∀ σ H Q, tE X.K C e0 σ H Q → tE X.K C e σ H Q) : PSv X C lk (.Assign [.Name n py] v spos) (.asg i e0) := by
  by_cases hw : ∃ t e1, e = .wk t e1
  · obtain ⟨t, e1, rfl⟩ := hw
    unfold ckE at h
    simp only [Bool.and_eq_true, Bool.not_eq_true'] at h
    exact ok_asgLcA g e0 hi hl hfn h1 e1 (fun t e3 q => by rw [q] at h; exact Bool.noConfusion h.1) h.2 fun σ H Q w => wk_tE g.hC (im σ H Q w)
  · exact ok_asgLcA g e0 hi hl hfn h1 e (fun t e3 q => hw ⟨t, e3, q⟩) h im
theorem ok_asgLc (g : Gd c C k X sc) {i : Nat} {n : Str} {py spos : Pos} {v : Expr} (e : E) (hi : c.N[i]? = some n) (hl : locB allF sc n = true) (hfn : ∀ x, X.fn x = true) (h : ckE c e sc v = true) (h1 : lc1 v = true) : PSv X C lk (.Assign [.Name n py] v spos) (.asg i e) :=
  ok_asgLcB g e hi hl hfn h1 e h fun _ _ _ w => w
theorem ok_asgDcA (g : Gd c C k X sc) {i : Nat} {n : Str} {py spos : Pos} {v : Expr} (e0 : E) (hi : c.N[i]? = some n) (hl : locB allF sc n = true) (hfn : ∀ x, X.fn x = true) (h1 : dc1 v = true) : ∀ (e : E), (∀ t e1, e ≠ .wk t e1) → ckE c e sc v = true → (∀ σ H Q, tE X.K C e0 σ H Q → tE X.K C e σ H Q) → PSv X C lk (.Assign [.Name n py] v spos) (.asg i e0) := by
  intro e hwk h im
  obtain ⟨l1, l2⟩ := g.loc (fun x _ => hfn x) hl
  have hv := (ok_E e g v h).1.imp im
  cases v <;> try (exact Bool.noConfusion h1)
  rename_i kx vx gs scope pos
  have sw := sw_dc (kx := kx) (vx := vx) (gs := gs) (scope := scope) (pos := pos) (py := py) (y := n) (l := spos.line) (env := X.env) g.fkind
  cases hb : (decide (X.env.scope.names.lookup n = some .local) && py.line == pos.line && !(scope.names.any fun (m, k) => m == n && (k == .local || k == .cell))) with
  | false => rw [hb] at sw; exact q_asg g.hC g.nd (g.at hi) l1 hv sw l2
  | true =>
    rw [hb] at sw
    simp only [Bool.and_eq_true, decide_eq_true_eq] at hb
    have fin : ∀ {te : TE}, (∀ σ H Q, tE X.K C e0 σ H Q → te σ H Q) → ∀ A σ H, tS X.K C lk (.asg i e0) A σ H → tAsg te (gName i) A σ H := fun {te} ht A σ H ⟨ρ, fp, T, G, R, l, w⟩ =>
      ht _ _ _ (asg_core (t := .nm i) (e := e0) g.hC R (fun j hj => by simp [tgs] at hj; rw [hj]; exact l) (wpE_mono g.hC _ _ _ _ (fun o d ρ1 q => asg_nm q) w))
    cases e <;> first | exact Bool.noConfusion h | exact (hwk _ _ rfl).elim | (rename_i two i0 ke o; cases two <;> first | exact Bool.noConfusion h | (cases o <;> exact Bool.noConfusion h)) | skip
    rename_i t it cn ke e
    unfold ckE at h
    split at h <;> try (cases h; done)
    rename_i heq
    cases heq
    simp only [Bool.and_eq_true, decide_eq_true_eq] at h
    obtain ⟨⟨⟨⟨⟨⟨⟨ho, hb2⟩, hns⟩, hi2⟩, ht⟩, hcn⟩, hk⟩, he⟩ := h
    have ok := blkOk_by hb2
    have ok' := ok
    rw [← g.hN, ← g.scope] at ok'
    have ho' := ho
    rw [← g.hN] at ho'
    refine (ps_setDc (tv := tE X.K C e) (tk := tE X.K C ke) (tt := tCn X.K C cn) (g := gT X.K t) (wi := tI X.K C it) g.calm g.nd (g.at hi) hb.1.1 sw (ok_It it g _ _ hi2) ok' (fun s H A0 cl fp => ok_tg (g.blk s H A0 cl fp ok.kind) (fun x hx => hx) t _ ht) (fun s H A0 cl fp => (ok_Eo cn (g.blk s H A0 cl fp ok.kind)).2 _ hcn)
      (fun s H A0 cl fp => (ok_E ke (g.blk s H A0 cl fp ok.kind) _ hk).1) (fun s H A0 cl fp => (ok_E e (g.blk s H A0 cl fp ok.kind) _ he).1) (notSet_ok hns)).imp ?_
    rw [ho']
    exact fin fun σ H Q w => dc_ok g.hC (im σ H Q w)
theorem ok_asgDc (g : Gd c C k X sc) {i : Nat} {n : Str} {py spos : Pos} {v : Expr} (e : E) (hi : c.N[i]? = some n) (hl : locB allF sc n = true) (hfn : ∀ x, X.fn x = true) (h : ckE c e sc v = true) (h1 : dc1 v = true) : PSv X C lk (.Assign [.Name n py] v spos) (.asg i e) := by
  by_cases hw : ∃ t e1, e = .wk t e1
  · obtain ⟨t, e1, rfl⟩ := hw
    have h0 := h
    unfold ckE at h
    simp only [Bool.and_eq_true, Bool.not_eq_true'] at h
    exact ok_asgDcA g (.wk t e1) hi hl hfn h1 e1 (fun t e3 q => by rw [q] at h; exact Bool.noConfusion h.1) h.2 fun σ H Q w => wk_tE g.hC w
  · exact ok_asgDcA g e hi hl hfn h1 e (fun t e3 q => hw ⟨t, e3, q⟩) h fun _ _ _ w => w
end
mutual
theorem ok_S {c : Ck} {C : CallS} {k : Nat} {lk : Nat → Bool} {X : Cx} {sc : Scope} (g : Gd c C k X sc) (hp : PassesOwn (model X.prog X.w) X.A X.env X.xe) (hfn : ∀ x, X.fn x = true) : ∀ (s : Sm) (x : Stmt), ckS c s sc x = true → PSv X C lk x s
  | .asg i e, x, h => by
    unfold ckS at h
    split at h <;> try (cases h; done)
    simp only [Bool.and_eq_true, Bool.or_eq_true, decide_eq_true_eq] at h
    obtain ⟨⟨⟨h1, h2⟩, h3⟩, h4⟩ := h
    rcases h4 with (h4 | h4) | h4
    · obtain ⟨l1, l2⟩ := g.loc (fun x _ => hfn x) h2
      exact q_asg g.hC g.nd (g.at h1) l1 (ok_E e g _ h3).1 (notComp_ok h4) l2
    · exact ok_asgLc g e h1 h2 hfn h3 h4
    · exact ok_asgDc g e h1 h2 hfn h3 h4
  | .asgT t e, x, h => by
    unfold ckS at h
    split at h <;> try (cases h; done)
    simp only [Bool.and_eq_true] at h
    obtain ⟨⟨⟨h1, h2⟩, h3⟩, h4⟩ := h
    exact q_asgT g.hC (ok_E e g _ h2).1 (ok_tg g (fun x _ => hfn x) t _ h1) (sole_ok h3) (noTup_sw h4) rfl
  | .set i b e, x, h => by
    unfold ckS at h
    split at h <;> try (cases h; done)
    simp only [Bool.and_eq_true] at h
    obtain ⟨⟨⟨⟨h1, h2⟩, h3⟩, h4⟩, h5⟩ := h
    obtain ⟨s1, s2, s3, s4⟩ := g.slot h1
    refine q_set g.hC s1 s2 s3 s4 (ok_E e g _ h4).1 (ok_E b g _ h3).1 (sole_ok h5) ?_ rfl (set_assign h2)
    rfl
  | .aug i op e, x, h => by
    unfold ckS at h
    split at h <;> try (cases h; done)
    simp only [Bool.and_eq_true, decide_eq_true_eq] at h
    obtain ⟨⟨⟨rfl, h2⟩, h3⟩, h4⟩ := h
    obtain ⟨l1, l2⟩ := g.loc (fun x _ => hfn x) h3
    exact q_aug g.hC g.nd (g.at h2) l1 (ok_E e g _ h4).1 l2
  | .augS i b op e, x, h => by
    unfold ckS at h
    split at h <;> try (cases h; done)
    simp only [Bool.and_eq_true, decide_eq_true_eq] at h
    obtain ⟨⟨⟨⟨rfl, h1⟩, h2⟩, h3⟩, h4⟩ := h
    obtain ⟨s1, s2, s3, s4⟩ := g.slot h1
    exact q_augS g.hC s1 s2 s3 s4 (ok_E e g _ h4).1 (ok_E b g _ h3).1 (aug_store h2)
  | .ex e, x, h => by
    unfold ckS at h
    split at h <;> try (cases h; done)
    simp only [Bool.and_eq_true] at h
    exact q_ex g.hC (ok_E e g _ h.1).1 (notComp_ok h.2)
  | .ite d a b, x, h => by
    unfold ckS at h
    split at h <;> try (cases h; done)
    simp only [Bool.and_eq_true] at h
    exact q_ite g.hC (ok_E d g _ h.1.1).2.1 (ok_Ss g hp hfn a _ h.1.2) (ok_Ss g hp hfn b _ h.2)
  | .fr t it body, x, h => by
    unfold ckS at h
    split at h <;> try (cases h; done)
    simp only [Bool.and_eq_true] at h
    obtain ⟨⟨⟨h1, h2⟩, h3⟩, h4⟩ := h
    exact q_fr g.hC hp g.calm (ok_It it g _ _ h2) (ok_tg g (fun x _ => hfn x) t _ h1) (ok_Ss g hp hfn body _ h3) (notSet_ok h4)
  | .wh d body, x, h => by
    unfold ckS at h
    split at h <;> try (cases h; done)
    simp only [Bool.and_eq_true] at h
    exact q_wh g.hC hp (ok_E d g _ h.1).2.1 (ok_Ss g hp hfn body _ h.2)
  | .ret e, x, h => by
    unfold ckS at h
    split at h <;> try (cases h; done)
    exact q_ret g.hC (ok_E e g _ h).1
  | .ret0, x, h => by
    unfold ckS at h
    split at h <;> first | exact q_ret0 | cases h
  | .brk, x, h => by
    unfold ckS at h
    split at h <;> first | exact q_brk | cases h
  | .cnt, x, h => by
    unfold ckS at h
    split at h <;> first | exact q_cnt | cases h
  | .pas, x, h => by
    unfold ckS at h
    split at h <;> first | exact q_pas | cases h
  | .nev, x, h => q_nev
  | .dset i b e, x, h => by
    unfold ckS at h
    split at h <;> try (cases h; done)
    simp only [Bool.and_eq_true] at h
    obtain ⟨⟨⟨h1, h2⟩, h3⟩, h4⟩ := h
    obtain ⟨s1, s2, s3, s4⟩ := g.slot h1
    refine q_dset g.hC g.hu s1 s2 s3 s4 (ok_E e g _ h4).1 (ok_E b g _ h3).1 sub_sw ?_ rfl (set_assign h2)
    rfl
  | .lkd S s, x, h => by
    unfold ckS at h
    exact q_lkd g.hC (ok_S g hp hfn s x h)
theorem ok_Ss {c : Ck} {C : CallS} {k : Nat} {lk : Nat → Bool} {X : Cx} {sc : Scope} (g : Gd c C k X sc) (hp : PassesOwn (model X.prog X.w) X.A X.env X.xe) (hfn : ∀ x, X.fn x = true) : ∀ (s : Sms) (x : List Stmt), ckSs c s sc x = true → PSsv X C lk x s
  | .nil, x, h => by
    unfold ckSs at h
    split at h <;> first | exact q_nil | cases h
  | .cons s ss, x, h => by
    unfold ckSs at h
    split at h <;> try (cases h; done)
    simp only [Bool.and_eq_true] at h
    exact q_cons g.hC (ok_S g hp hfn s _ h.1) (ok_Ss g hp hfn ss _ h.2)
end
end VH
namespace VH
open PySem PySem.Spec PyProof.Rows L2

structure Df where
  nm : Str
  np : Nat
  N : List Str
  lk : List Nat
  body : Sms
def lkF (d : Df) : Nat → Bool := fun i => d.lk.contains i
def startE (d : Df) (args : List (Ow × D)) : Env := args.map some ++ List.replicate (d.N.length - args.length) none
/-- what the parameters that stand as they were hold at the end -/
def outsOf (d : Df) (ρ : Env) : Env := (List.range d.np).map fun i => if lkF d i = true then (ρ[i]?).getD none else none
abbrev Tbl := List Df
def endOf (d : Df) (Q : Ow → D → List (Option (Ow × D)) → Prop) : De where
  nx := fun ρ => Q .all .non (outsOf d ρ)
  rt := fun o v ρ => ∃ o', resO o v = some o' ∧ Q o' v (outsOf d ρ)
  bk := fun _ => False
  ct := fun _ => False
def callK (P : Tbl) : Nat → CallS
  | 0, _, _, _ => False
  | k + 1, f, args, Q => ∃ d, P[f]? = some d ∧ args.length = d.np ∧ wpSs (callK P k) (lkF d) d.body (startE d args) (endOf d Q)
theorem endOf_le {d : Df} {Q Q' : Ow → D → List (Option (Ow × D)) → Prop} (h : ∀ o v outs, Q o v outs → Q' o v outs) : De.le (endOf d Q) (endOf d Q') :=
  ⟨fun _ q => h _ _ _ q, fun _ _ _ ⟨o', e, q⟩ => ⟨o', e, h _ _ _ q⟩, fun _ q => q, fun _ q => q⟩
theorem callK_mono (P : Tbl) : ∀ k, MonoC (callK P k)
  | 0 => fun f l Q Q' h w => w
  | k + 1 => fun f l Q Q' h ⟨d, e, n, w⟩ => ⟨d, e, n, wpSs_mono (callK_mono P k) _ _ _ _ (endOf_le h) w⟩
theorem resO_ours {o o' : Ow} {d : D} (h : resO o d = some o') : oursO o' = true := by
  unfold resO at h
  split at h
  · cases h; rfl
  · cases o <;> simp at h <;> subst h <;> rfl
theorem callK_res (P : Tbl) : ∀ k, ResC (callK P k)
  | 0 => fun f l Q w => w
  | k + 1 => fun f l Q ⟨d, e, n, w⟩ => ⟨d, e, n, wpSs_mono (callK_mono P k) _ _ (endOf d Q) (endOf d fun o d outs => oursO o = true ∧ Q o d outs) ⟨fun _ q => ⟨rfl, q⟩, fun _ _ _ ⟨o', e, q⟩ => ⟨o', e, resO_ours e, q⟩, fun _ q => q, fun _ q => q⟩ w⟩
/-- more fuel does no harm -/
theorem outsOf_get {d : Df} {ρ : Env} {i : Nat} {p : Ow × D} (h : (outsOf d ρ)[i]? = some (some p)) : i < d.np ∧ lkF d i = true ∧ ρ[i]? = some (some p) := by
  unfold outsOf at h
  rw [List.getElem?_map] at h
  cases e : (List.range d.np)[i]? with
  | none => rw [e] at h; cases h
  | some j =>
    rw [e] at h
    obtain ⟨hj, ej⟩ := List.getElem?_eq_some_iff.mp e
    simp at ej
    subst ej
    have h := Option.some.inj h
    dsimp only at h
    split at h
    · rename_i hl
      refine ⟨by simpa using hj, hl, ?_⟩
      cases q : ρ[i]? with
      | none => rw [q] at h; cases h
      | some x => rw [q] at h; simp at h; rw [h]
    · cases h
theorem outsOf_len {d : Df} {ρ : Env} : (outsOf d ρ).length = d.np := by unfold outsOf; simp

/-- a def's own check -/
def ckOf (bl : List Str) (gl : List (Str × D)) (P : Tbl) (d : Df) (mf : List (Str × String) := []) : Ck := ⟨d.N, fun f => (P[f]?).map fun e => (e.nm, e.np), bl, gl, mf⟩
/-- what stands of a def behind the top, and what is known of its text -/
structure DefAt (K : PySem.W.Frag) (mg : Str → Option Value) (bl : List Str) (gl : List (Str × D)) (P : Tbl) (d : Df) (mf : List (Str × String) := []) : Prop where
  ex : ∃ (st : Stmt) (a : Addr) (fd : FuncData) (ps : List Str), Fun K d.nm d.nm st a fd ∧ mg d.nm = some (.ref a) ∧ Binds K fd ps [] ∧ FnScope d.N ps (defScope st) ∧ ps.length = d.np ∧ ckSs (ckOf bl gl P d mf) d.body (defScope st) (defBody st) = true
  np : d.np ≤ d.N.length
  lk : ∀ i ∈ d.lk, i < d.np
  dbg : ∀ x ∈ d.N, (x == ("__debug__" : Str)) = false ∧ (x == ("__classdict__" : Str)) = false
  nmd : (d.nm == ("__debug__" : Str)) = false

section
variable {P : Program} {w : World} {K : PySem.W.Frag} {mg : Str → Option Value} {base : Heap} {bl : List Str} {gl : List (Str × D)} {T : Tbl} {mf : List (Str × String)}
theorem start_get {N : List Str} {vs : List V} {i : Nat} (h : i < vs.length) : (L2.start N vs)[i]? = (vs.map some)[i]? := by
  unfold L2.start
  rw [List.getElem?_append_left (by simpa using h)]
theorem repS_start {d : Df} {args : List (Ow × D)} {vs : List V} {H : Hp} {fp : Fp} {T' G : Set'} (hl : vs.length = args.length) (R : RepS K (args.map some) (vs.map some) H fp T' G) : RepS K (startE d args) (L2.start d.N vs) H fp T' G := by
  refine R.slots (by unfold startE L2.start; simp [hl]) fun i o v e => ?_
  unfold startE at e
  by_cases hi : i < args.length
  · rw [List.getElem?_append_left (by simpa using hi)] at e
    exact .inl ⟨e, start_get (by omega)⟩
  · rw [List.getElem?_append_right (by simpa using hi)] at e
    have := List.mem_of_getElem? e
    simp at this
/-- the table's facts -/
structure Facts (K : PySem.W.Frag) (mg : Str → Option Value) (bl : List Str) (gl : List (Str × D)) (T : Tbl) (mf : List (Str × String) := []) : Prop where
  hm : ∀ x ∈ bl, mg x = none
  hg : ∀ x d, gl.lookup x = some d → (x == ("__debug__" : Str)) = false ∧ ∃ v u, mg x = some u ∧ RelV v u ∧ ∀ H, Is K noA H v d
  hd : ∀ (f : Nat) (d : Df), T[f]? = some d → DefAt K mg bl gl T d mf
  hf : ∀ x id, mf.lookup x = some id → (x == ("__debug__" : Str)) = false ∧ mg x = some (.builtin id)
theorem fn_ok (Fa : Facts K mg bl gl T mf) {k f : Nat} {d : Df} (q : T[f]? = some d) {st : Stmt} {a : Addr} {fd : FuncData} {ps : List Str} (F : Fun K d.nm d.nm st a fd) (sc : FnScope d.N ps (defScope st)) (hl : ps.length = d.np) (hk : ckSs (ckOf bl gl T d mf) d.body (defScope st) (defBody st) = true)
    (ih : Defs P w K mg base (callK T k) (fun f => (T[f]?).map fun e => (e.nm, e.np)) k) : FnOk P w K mg base CX0 (k + 1) a fd ps (spC K (callK T (k + 1)) f d.np) := by
  have D0 := Fa.hd f d q
  refine F.ok sc (fun vs H Q E ⟨h1, _⟩ => by rw [h1, hl]) (fun cdv A outer s H vs Q E hr h => ?_)
  obtain ⟨hv, args, fp, G, ha, R, w0⟩ := h
  obtain ⟨d', e', ha', wp⟩ := w0
  rw [q] at e'
  cases e'
  have g : Gd (ckOf bl gl T d mf) (callK T k) k (cxOf CX0 P w K mg base d.N d.nm (defScope st) a cdv A outer s H E).nox (defScope st) :=
    { hC := callK_mono T k, hres := callK_res T k, calm := rfl, hN := rfl, nd := sc.nd, scope := rfl, kind := sc.kind, hu := by have := hr.un; show (A.deeper (envOfC d.nm (defScope st) s.heap.objs.size a cdv)).units + 65 < _; omega, room := hr, defs := ih, mg := Fa.hm, gl := Fa.hg, mf := Fa.hf,
      nmd := fun f n np e => by
        cases q2 : T[f]? with
        | none => simp only [ckOf, q2] at e; cases e
        | some d2 =>
          simp only [ckOf, q2] at e
          cases e
          exact (Fa.hd f d2 q2).nmd
      dbg := fun i x e => D0.dbg x (List.mem_of_getElem? e) }
  refine ⟨_, ok_Ss (lk := lkF d) g PassesOwn.never (fun _ => rfl) d.body (defBody st) hk, startE d args, fp, noA, G, repS_start (by omega) R, wpSs_mono (callK_mono T k) _ _ _ _ ?_ wp⟩
  have back : ∀ {ρ' : Env} {σ' : L2.St} {H' : Hp} {fp' : Fp} {T' : Set'}, LkS (lkF d) (L2.start d.N vs) σ' → RepS K ρ' σ' H' fp' T' G → RepS K (outsOf d ρ') (vs.map some) H' fp' T' G := fun {ρ' σ' H' fp' T'} l R' =>
    R'.slots (by rw [outsOf_len]; simp [hv]) fun i o v e => by
      obtain ⟨h1, h2, h3⟩ := outsOf_get e
      exact .inl ⟨h3, by rw [l i h2, start_get (by omega)]⟩
  refine ⟨fun ρ' q σ' H' fp' l st' R' => ?_, fun o v ρ' ⟨o', eo, q⟩ u σ' H' fp' S l st' R' r => ?_, fun _ z => z.elim, fun _ z => z.elim⟩
  · exact q .non H' fp' noA st' (by rw [cup_noA]; exact back l R') .non
  · refine q u H' fp' S st' (back l R') ?_
    unfold resO at eo
    split at eo
    · rename_i hs
      cases eo
      exact RepV.solid hs r.now
    · cases o <;> simp at eo <;> subst eo <;> exact r
theorem defs_ok (Fa : Facts K mg bl gl T mf) : ∀ k, Defs P w K mg base (callK T k) (fun f => (T[f]?).map fun e => (e.nm, e.np)) k
  | 0 => ⟨fun f x np e => by
      cases q : T[f]? with
      | none => rw [q] at e; cases e
      | some d =>
        rw [q] at e
        cases e
        obtain ⟨st, a, fd, ps, F, hmg, hb, sc, hl, hk⟩ := (Fa.hd f d q).ex
        exact ⟨a, fd, ps, ⟨fun vs H Q E ⟨h1, _⟩ => by rw [h1, hl], fun A outer s H args us vs Q E _ _ _ _ ⟨_, _, _, _, _, _, z⟩ => False.elim z⟩, hmg, F.kp, hb⟩⟩
  | k + 1 => ⟨fun f x np e => by
      cases q : T[f]? with
      | none => rw [q] at e; cases e
      | some d =>
        rw [q] at e
        cases e
        obtain ⟨st, a, fd, ps, F, hmg, hb, sc, hl, hk⟩ := (Fa.hd f d q).ex
        exact ⟨a, fd, ps, fn_ok Fa q F sc hl hk (defs_ok Fa k), hmg, F.kp, hb⟩⟩
end
end VH
namespace VH
open PySem PySem.Spec PyProof.Rows L2

/-- what is asked of the law's own def -/
structure LawAt (K : PySem.W.Frag) (mg : Str → Option Value) (bl : List Str) (gl : List (Str × D)) (T : Tbl) (f : Nat) (fa : Addr) (mf : List (Str × String) := []) : Prop where
  facts : Facts K mg bl gl T mf
  own : ∃ (d : Df) (st : Stmt) (fd : FuncData), T[f]? = some d ∧ Fun K d.nm d.nm st fa fd ∧ (∀ (s : Shared) (u : Value), BindsTo s fd ⟨[u], []⟩ [("script", u)]) ∧ FnScope d.N ["script"] (defScope st) ∧ d.np = 1 ∧
    ckSs (ckOf bl gl T d mf) d.body (defScope st) (defBody st) = true
theorem walk_vh {l : PySem.W.OpenLaw} {n k f : Nat} {q : Program} {loose : List Str} {XP : (Str → Option Value) → Heap → Prop} {YP : World → Heap → Prop} {d : DefRec} {K : Params → PySem.W.Frag} {T : Tbl} {bl : List Str} {gl : List (Str × D)} {mf : List (Str × String)}
    (hn : l.most = some n) (hn2 : n ≤ sizeLine) (hdf : d.params.defaults = []) (hr : Room (k + 1) callerA) (hY : ∀ (w : World) (h : Heap), YP w h → (K w.params).In h)
    (F : ∀ (w : World) (mg : Str → Option Value) (fa : Addr) (h : Heap), (K w.params).In h → h.Ns mainGlobals mg → mg d.name = some (.ref fa) → LawAt (K w.params) mg bl gl T f fa mf)
    (plain : ∀ ns : List Int, ns.length ≤ n → (∀ z ∈ ns, Builtin.Int.intBits z ≤ 1048576) → callK T (k + 1) f [(.all, .scr ns)] fun _ d _ => d = .bl true) :
    PySem.W.WalkO q loose XP YP l.row.toRowW d [] (fun f vs => PySem.call f vs) := by
  refine L2.walk_ofB (n := n) (k := k + 1) (x := "script") (CX := fun _ => CX0) (sp := fun w => spC (K w.params) (callK T (k + 1)) f 1) hn hn2 hdf hr hY (fun w mg fa h KX G hmg => ?_) (fun w H a ns hl hb hO hS => ?_) fun _ _ _ _ _ z => z
  · have LA := F w mg fa h KX G hmg
    obtain ⟨d', st, fd, e, Fn, hbi, sc, np, hk⟩ := LA.own
    refine ⟨fd, hbi, fun base _ _ => ?_⟩
    have := fn_ok (P := l.prog) (w := w) (base := base) LA.facts e Fn sc (by rw [np]; rfl) hk (defs_ok LA.facts k)
    rw [np] at this
    exact this
  · refine ⟨rfl, [(.all, .scr ns)], nofp, noA, rfl, ⟨rfl, fun i o d e => ?_, fun _ _ _ z => z.elim, fun a z => by obtain ⟨_, z⟩ := z; exact z.elim, fun a z => ?_, fun a z => ?_⟩, callK_mono T (k + 1) _ _ _ _ (fun o d outs e v H' fp' S st R r => ?_) (plain ns hl hb)⟩
    · cases i with
      | zero =>
        simp at e
        obtain ⟨rfl, rfl⟩ := e
        refine ⟨.ref a, rfl, ⟨by decide, by decide⟩, .scr ?_⟩
        rcases hS with (h | ⟨o, h⟩) | h
        · rcases hO a with z | ⟨o, xs, z⟩
          · rw [h] at z; cases z
          · rw [h] at z; cases z
        · exact .inl ⟨o, h⟩
        · exact .inr h
      | succ i => simp at e
    · rcases z with ⟨_, z⟩ | z
      · exact z.elim
      · exact z.elim
    · rcases z with (⟨_, z⟩ | z) | z
      · exact z.elim
      · exact z.elim
      · exact z.elim
    · subst e
      exact r.now.inv_bl
end VH
namespace VH
open PySem PySem.Spec PyProof.Rows L2

/-- plain and at most n deep -/
def Pl (n : Nat) (d : D) : Prop := (toP d).canLay0 = true ∧ (toP d).depth ≤ n
theorem Pl.plain {n : Nat} {d : D} (h : Pl n d) (hn : n ≤ 64) : plainD d = true := by
  unfold plainD SeqAt.shaped
  rw [h.1, Bool.true_and, decide_eq_true_eq]
  exact Nat.le_trans h.2 hn
class Enc (α : Type) where
  enc : α → D
  n : Nat
  pl : ∀ a, Pl n (enc a)
  dec : DecidableEq α
  eqD : ∀ a b, deq (enc a) (enc b) = decide (a = b)
open Enc (enc)
instance {α : Type} [e : Enc α] : DecidableEq α := e.dec
instance : Enc Int where
  enc := D.int
  n := 0
  pl := fun a => ⟨rfl, Nat.le_refl _⟩
  dec := inferInstance
  eqD := fun a b => by
    show (a == b) = _
    by_cases h : a = b
    · subst h; simp
    · rw [decide_eq_false h]; exact beq_eq_false_iff_ne.mpr h
instance : Enc Bool where
  enc := D.bl
  n := 0
  pl := fun a => ⟨rfl, Nat.le_refl _⟩
  dec := inferInstance
  eqD := fun a b => by cases a <;> cases b <;> rfl
theorem toPs_map {α : Type} (f : α → D) : ∀ xs : List α, toPs (xs.map f) = xs.map fun x => toP (f x)
  | [] => rfl
  | x :: xs => by simp [toPs, toPs_map f xs]
theorem pl_list {α : Type} {f : α → D} {n : Nat} (h : ∀ a, Pl n (f a)) : ∀ xs : List α, PyData.canLayAll0 (toPs (xs.map f)) = true ∧ PyData.depthAll (toPs (xs.map f)) ≤ n
  | [] => ⟨rfl, Nat.zero_le _⟩
  | x :: xs => by
    obtain ⟨h1, h2⟩ := pl_list h xs
    obtain ⟨h3, h4⟩ := h x
    exact ⟨by show ((toP (f x)).canLay0 && PyData.canLayAll0 (toPs (xs.map f))) = true; rw [h1, h3]; rfl, by show max _ _ ≤ n; omega⟩
theorem eqv_list {α : Type} [DecidableEq α] {f : α → D} (h : ∀ a b, deq (f a) (f b) = decide (a = b)) : ∀ xs ys : List α, PyData.eqvAll (toPs (xs.map f)) (toPs (ys.map f)) = decide (xs = ys)
  | [], [] => rfl
  | [], y :: ys => rfl
  | x :: xs, [] => rfl
  | x :: xs, y :: ys => by
    show (deq (f x) (f y) && PyData.eqvAll (toPs (xs.map f)) (toPs (ys.map f))) = _
    rw [h, eqv_list h xs ys]
    by_cases h1 : x = y
    · by_cases h2 : xs = ys
      · subst h1; subst h2; simp
      · simp [h1, h2]
    · simp [h1]
instance {α : Type} [Enc α] : Enc (List α) where
  enc := fun xs => .lst (xs.map enc)
  n := Enc.n α + 1
  pl := fun xs => by
    obtain ⟨h1, h2⟩ := pl_list (f := enc) Enc.pl xs
    exact ⟨h1, Nat.succ_le_succ h2⟩
  dec := inferInstance
  eqD := fun xs ys => eqv_list (f := enc) Enc.eqD xs ys
instance {α β : Type} [Enc α] [Enc β] : Enc (α × β) where
  enc := fun p => .tup [enc p.1, enc p.2]
  n := max (Enc.n α) (Enc.n β) + 1
  pl := fun p => by
    obtain ⟨h1, h2⟩ := Enc.pl p.1
    obtain ⟨h3, h4⟩ := Enc.pl p.2
    refine ⟨?_, ?_⟩
    · show ((toP (enc p.1)).canLay0 && ((toP (enc p.2)).canLay0 && true)) = true
      rw [h1, h3]; rfl
    · show max _ (max _ 0) + 1 ≤ _
      omega
  dec := inferInstance
  eqD := fun p q => by
    show (deq (enc p.1) (enc q.1) && (deq (enc p.2) (enc q.2) && true)) = _
    rw [Enc.eqD, Enc.eqD]
    obtain ⟨a, b⟩ := p
    obtain ⟨c, d⟩ := q
    by_cases h1 : a = c
    · by_cases h2 : b = d <;> simp [h1, h2]
    · simp [h1]
theorem plainE {α : Type} [Enc α] (a : α) (h : Enc.n α ≤ 64 := by decide) : plainD (enc a) = true := (Enc.pl a).plain h
theorem plainL {α : Type} [Enc α] (a : List α) (h : Enc.n α + 1 ≤ 64 := by decide) : plainD (.lst (a.map enc)) = true := (Enc.pl a).plain h
theorem any_enc {α : Type} [Enc α] (a : α) : ∀ xs : List α, ((xs.map enc).any fun z => deq z (enc a)) = decide (a ∈ xs)
  | [] => rfl
  | x :: xs => by
    rw [List.map_cons, List.any_cons, any_enc a xs, Enc.eqD]
    by_cases h1 : x = a
    · simp [h1]
    · have : ¬ a = x := fun h => h1 h.symm
      simp [h1, this]
/-- flat things are solid -/
theorem solid_ints' : ∀ ns : List Int, solidL (ns.map D.int) = true
  | [] => rfl
  | n :: ns => by simp [solidL, solid, solid_ints' ns]
theorem solidL_of {α : Type} {f : α → D} (h : ∀ a, solid (f a) = true) : ∀ xs : List α, solidL (xs.map f) = true
  | [] => rfl
  | x :: xs => by simp [solidL, h x, solidL_of h xs]
theorem toInts_map : ∀ ns : List Int, toInts (ns.map D.int) = some ns
  | [] => rfl
  | n :: ns => by simp [toInts, toInts_map ns]
theorem toBls_map : ∀ ns : List Bool, toBls (ns.map D.bl) = some ns
  | [] => rfl
  | n :: ns => by simp [toBls, toBls_map ns]
theorem toPairs_map : ∀ ps : List (Int × Int), toPairs (ps.map enc) = some ps
  | [] => rfl
  | p :: ps => by
    show (toPairs (ps.map enc)).map _ = _
    rw [toPairs_map ps]; rfl
theorem kidsO_solid {o : Ow} {ds : List D} (h : solidL ds = true) : kidsO o ds = some .all := if_pos h

section
variable {body : Env → De → Prop} {bind : D → Env → Option Env} {A : De}
theorem wpFor_inv (I : Nat → Env → Prop) : ∀ (ds : List D) (i0 : Nat) (ρ : Env), I i0 ρ →
    (∀ (i : Nat) (d : D) (ρ : Env), ds[i]? = some d → I (i0 + i) ρ → ∃ ρ1, bind d ρ = some ρ1 ∧ body ρ1 ⟨I (i0 + i + 1), A.rt, A.nx, I (i0 + i + 1)⟩) → (∀ ρ, I (i0 + ds.length) ρ → A.nx ρ) → (∀ ρ A B, De.le A B → body ρ A → body ρ B) → wpFor body bind A ds ρ
  | [], i0, ρ, h, _, e, _ => e ρ h
  | d :: ds, i0, ρ, h, s, e, m => by
    obtain ⟨ρ1, e1, w⟩ := s 0 d ρ rfl h
    have nx : ∀ ρ2, I (i0 + 1) ρ2 → wpFor body bind A ds ρ2 := fun ρ2 q => wpFor_inv I ds (i0 + 1) ρ2 q (fun i d ρ hd hi => by
      have := s (i + 1) d ρ (by simpa using hd) (by rw [show i0 + (i + 1) = i0 + 1 + i by omega]; exact hi)
      rw [show i0 + (i + 1) + 1 = i0 + 1 + i + 1 by omega] at this
      exact this) (fun ρ q => e ρ (by rw [List.length_cons, show i0 + (ds.length + 1) = i0 + 1 + ds.length by omega]; exact q)) m
    exact ⟨ρ1, e1, m ρ1 ⟨I (i0 + 1), A.rt, A.nx, I (i0 + 1)⟩ _ ⟨nx, fun _ _ _ q => q, fun _ q => q, nx⟩ w⟩
end
/-- for, by an invariant -/
theorem fr_inv {C : CallS} (hC : MonoC C) {lk : Nat → Bool} {t : Tg} {o : Ow} {sb : Sms} {A : De} {ds : List D} {ρ : Env} (I : Nat → Env → Prop) (h0 : I 0 ρ)
    (step : ∀ (i : Nat) (d : D) (ρ : Env), ds[i]? = some d → I i ρ → ∃ ρ1, bindT t (itmO o) d ρ = some ρ1 ∧ wpSs C lk sb ρ1 ⟨I (i + 1), A.rt, A.nx, I (i + 1)⟩) (fin : ∀ ρ, I ds.length ρ → A.nx ρ) :
    wpFor (fun ρ A => wpSs C lk sb ρ A) (bindT t (itmO o)) A ds ρ :=
  wpFor_inv I ds 0 ρ h0 (fun i d ρ hd hi => by
    have := step i d ρ hd (by rw [Nat.zero_add] at hi; exact hi)
    rw [Nat.zero_add]; exact this) (fun ρ q => fin ρ (by rw [Nat.zero_add] at q; exact q)) fun ρ A B h w => wpSs_mono hC sb ρ A B h w
/-- a statement, then the rest -/
theorem wpSs_cut {C : CallS} (hC : MonoC C) {lk : Nat → Bool} {s : Sm} {ss : Sms} {ρ : Env} {A : De} (I : Env → Prop) (h : wpS C lk s ρ ⟨I, A.rt, A.bk, A.ct⟩) (g : ∀ ρ, I ρ → wpSs C lk ss ρ A) : wpSs C lk (.cons s ss) ρ A :=
  wpS_mono hC s ρ ⟨I, A.rt, A.bk, A.ct⟩ ⟨fun ρ1 => wpSs C lk ss ρ1 A, A.rt, A.bk, A.ct⟩ ⟨g, fun _ _ _ q => q, fun _ q => q, fun _ q => q⟩ h
section
variable {test : Env → (Bool → Env → Prop) → Prop} {body : Env → De → Prop} {A : De}
theorem wpWh_more (ht : ∀ ρ (Q Q' : Bool → Env → Prop), (∀ b ρ, Q b ρ → Q' b ρ) → test ρ Q → test ρ Q') (hb : ∀ ρ A B, De.le A B → body ρ A → body ρ B) : ∀ (n : Nat) (ρ : Env), wpWh test body A n ρ → wpWh test body A (n + 1) ρ
  | 0, _, w => False.elim w
  | n + 1, ρ, w => ht _ _ _ (fun b ρ1 q => by
      cases b with
      | true => exact hb _ ⟨wpWh test body A n, A.rt, A.nx, wpWh test body A n⟩ ⟨wpWh test body A (n + 1), A.rt, A.nx, wpWh test body A (n + 1)⟩ ⟨fun _ q => wpWh_more ht hb n _ q, fun _ _ _ q => q, fun _ q => q, fun _ q => wpWh_more ht hb n _ q⟩ q
      | false => exact q) w
theorem wpWh_le (ht : ∀ ρ (Q Q' : Bool → Env → Prop), (∀ b ρ, Q b ρ → Q' b ρ) → test ρ Q → test ρ Q') (hb : ∀ ρ A B, De.le A B → body ρ A → body ρ B) {n m : Nat} (h : n ≤ m) (ρ : Env) (w : wpWh test body A n ρ) : wpWh test body A m ρ := by
  obtain ⟨k, rfl⟩ := Nat.exists_eq_add_of_le h
  clear h
  induction k with
  | zero => exact w
  | succ k ih => exact wpWh_more ht hb _ ρ ih
theorem wpWh_inv (I : Nat → Env → Prop) (ht : ∀ ρ (Q Q' : Bool → Env → Prop), (∀ b ρ, Q b ρ → Q' b ρ) → test ρ Q → test ρ Q') (hb : ∀ ρ A B, De.le A B → body ρ A → body ρ B)
    (step : ∀ m ρ, I m ρ → test ρ fun t ρ1 => if t = true then body ρ1 ⟨fun ρ2 => ∃ m', m' < m ∧ I m' ρ2, A.rt, A.nx, fun ρ2 => ∃ m', m' < m ∧ I m' ρ2⟩ else A.nx ρ1) : ∀ (n m : Nat) (ρ : Env), m < n → I m ρ → wpWh test body A n ρ
  | 0, m, ρ, h, _ => by omega
  | n + 1, m, ρ, h, i => ht _ _ _ (fun b ρ1 q => by
      cases b with
      | true => exact hb _ ⟨fun ρ2 => ∃ m', m' < m ∧ I m' ρ2, A.rt, A.nx, fun ρ2 => ∃ m', m' < m ∧ I m' ρ2⟩ ⟨wpWh test body A n, A.rt, A.nx, wpWh test body A n⟩ ⟨fun ρ2 ⟨m', l, i'⟩ => wpWh_inv I ht hb step n m' ρ2 (by omega) i', fun _ _ _ q => q, fun _ q => q, fun ρ2 ⟨m', l, i'⟩ => wpWh_inv I ht hb step n m' ρ2 (by omega) i'⟩ q
      | false => exact q) (step m ρ i)
end
theorem wh_inv {C : CallS} (hC : MonoC C) {lk : Nat → Bool} {c : E} {sb : Sms} {A : De} {ρ : Env} (I : Nat → Env → Prop) (m : Nat) (h0 : I m ρ)
    (step : ∀ m ρ, I m ρ → wpE C c ρ fun _ d ρ1 => ∃ t, truth d = some t ∧ if t = true then wpSs C lk sb ρ1 ⟨fun ρ2 => ∃ m', m' < m ∧ I m' ρ2, A.rt, A.nx, fun ρ2 => ∃ m', m' < m ∧ I m' ρ2⟩ else A.nx ρ1) : wpS C lk (.wh c sb) ρ A :=
  ⟨m + 1, wpWh_inv (test := fun ρ Q => wpE C c ρ fun _ d ρ1 => ∃ t, truth d = some t ∧ Q t ρ1) (body := fun ρ A => wpSs C lk sb ρ A) I (fun ρ Q Q' h w => wpE_mono hC c _ _ _ (fun _ d ρ1 (q : ∃ t, truth d = some t ∧ Q t ρ1) => (by obtain ⟨t, e, q⟩ := q; exact ⟨t, e, h _ _ q⟩)) w) (fun ρ A B h w => wpSs_mono hC sb ρ A B h w) step (m + 1) m ρ (Nat.lt_succ_self m) h0⟩

/-- a turn of a comprehension that changes nothing -/
def pureT (C : CallS) (o : Ow) (t : Tg) (c : Eo) (e : E) : D → Env → (Option (Ow × D) → Env → Prop) → Prop := fun d ρ' K => ∃ ρ2, bindT t (itmO o) d (wipeE (lock ρ') (tgs t)) = some ρ2 ∧ wpC C c ρ2 fun b ρ3 =>
  if b = true then wpE C e ρ3 fun o' d' _ => ∃ k, chO o' d' = some k ∧ K (some (k, d')) ρ' else K none ρ'
theorem lc_pure {C : CallS} {t : Tg} {it : VH.It} {c : Eo} {e : E} {ρ : Env} {Q : KE} (w : wpIt C it ρ fun o ds ρ1 => ds.length < sizeLine ∧ wpLcL (pureT C o t c e) ds ρ1 fun k l ρ2 => Q (rootO k) (.lst l) ρ2) (hC : MonoC C) : wpE C (.lc true t it c e) ρ Q :=
  wpIt_mono hC it _ _ _ (fun o ds ρ1 ⟨z, q⟩ => ⟨z, by rw [if_pos rfl]; exact q⟩) w
/-- what one turn gives: f x, or nothing -/
def TurnF (C : CallS) (o : Ow) (t : Tg) (c : Eo) (e : E) (ρ : Env) (d : D) (k : Ow) (r : Option D) : Prop := ∃ ρ2, bindT t (itmO o) d (wipeE (lock ρ) (tgs t)) = some ρ2 ∧ wpC C c ρ2 fun b ρ3 =>
  if b = true then wpE C e ρ3 fun o' d' _ => chO o' d' = some k ∧ r = some d' else r = none
theorem lcl_fm {C : CallS} (hC : MonoC C) {o : Ow} {t : Tg} {c : Eo} {e : E} {ρ : Env} {k : Ow} {f : D → Option D} {Q : Ow → List D → Env → Prop} : ∀ {ds : List D}, (∀ d ∈ ds, TurnF C o t c e ρ d k (f d)) → (k = .all ∨ k = .sh) → (∀ k', (k' = .all ∨ k' = k) → Q k' (ds.filterMap f) ρ) → wpLcL (pureT C o t c e) ds ρ Q
  | [], _, _, q => q .all (.inl rfl)
  | d :: ds, h, hk, q => by
    obtain ⟨ρ2, eb, w⟩ := h d List.mem_cons_self
    refine ⟨ρ2, eb, wpC_mono hC c _ _ _ (fun b ρ3 w => ?_) w⟩
    cases b with
    | false =>
      rw [if_neg Bool.false_ne_true] at w ⊢
      refine lcl_fm hC (fun d hd => h d (List.mem_cons_of_mem _ hd)) hk fun k' hk' => ?_
      have := q k' hk'
      rw [List.filterMap_cons, w] at this
      exact this
    | true =>
      rw [if_pos rfl] at w ⊢
      refine wpE_mono hC e _ _ _ (fun o' d' ρ4 ⟨ek, er⟩ => ⟨k, ek, ?_⟩) w
      refine lcl_fm hC (fun d hd => h d (List.mem_cons_of_mem _ hd)) hk fun k' hk' => ?_
      have := q (minO k k') (by rcases hk with rfl | rfl <;> rcases hk' with rfl | rfl <;> first | exact .inl rfl | exact .inr rfl)
      rw [List.filterMap_cons, er] at this
      exact this
/-- a comprehension over typed things: each kept or not, and what it becomes -/
theorem lc_typed {C : CallS} (hC : MonoC C) {α β : Type} {ea : α → D} {eb : β → D} {o : Ow} {t : Tg} {c : Eo} {e : E} {ρ : Env} {k : Ow} (xs : List α) (g : α → Option β) {Q : Ow → List D → Env → Prop}
    (h : ∀ x ∈ xs, TurnF C o t c e ρ (ea x) k ((g x).map eb)) (hk : k = .all ∨ k = .sh) (q : ∀ k', (k' = .all ∨ k' = k) → Q k' ((xs.filterMap g).map eb) ρ) : wpLcL (pureT C o t c e) (xs.map ea) ρ Q := by
  induction xs generalizing Q with
  | nil => exact q .all (.inl rfl)
  | cons x xs ih =>
    obtain ⟨ρ2, ebd, w⟩ := h x List.mem_cons_self
    refine ⟨ρ2, ebd, wpC_mono hC c _ _ _ (fun b ρ3 w => ?_) w⟩
    cases b with
    | false =>
      rw [if_neg Bool.false_ne_true] at w ⊢
      refine ih (fun d hd => h d (List.mem_cons_of_mem _ hd)) fun k' hk' => ?_
      have := q k' hk'
      rw [List.filterMap_cons] at this
      cases e2 : g x with
      | none => rw [e2] at this; exact this
      | some y => rw [e2] at w; cases w
    | true =>
      rw [if_pos rfl] at w ⊢
      refine wpE_mono hC e _ _ _ (fun o' d' ρ4 ⟨ek, er⟩ => ⟨k, ek, ?_⟩) w
      refine ih (fun d hd => h d (List.mem_cons_of_mem _ hd)) fun k' hk' => ?_
      have := q (minO k k') (by rcases hk with rfl | rfl <;> rcases hk' with rfl | rfl <;> first | exact .inl rfl | exact .inr rfl)
      rw [List.filterMap_cons] at this
      cases e2 : g x with
      | none => rw [e2] at er; cases er
      | some y =>
        rw [e2] at er this
        have er := Option.some.inj er
        rw [← er]
        exact this
/-- .. none left out, what is made is ours -/
theorem lc_map {C : CallS} (hC : MonoC C) {α β : Type} {ea : α → D} {eb : β → D} {o : Ow} {t : Tg} {e : E} {ρ : Env} (xs : List α) (g : α → β) {Q : Ow → List D → Env → Prop}
    (h : ∀ x ∈ xs, ∃ ρ2, bindT t (itmO o) (ea x) (wipeE (lock ρ) (tgs t)) = some ρ2 ∧ wpE C e ρ2 fun o' d' _ => chO o' d' = some .all ∧ d' = eb (g x)) (q : Q .all ((xs.map g).map eb) ρ) : wpLcL (pureT C o t .nil e) (xs.map ea) ρ Q := by
  refine lc_typed hC (k := .all) (eb := eb) xs (fun x => some (g x)) (fun x hx => ?_) (.inl rfl) fun k' hk' => ?_
  · obtain ⟨ρ2, e1, w⟩ := h x hx
    exact ⟨ρ2, e1, wpE_mono hC e _ _ _ (fun o' d' _ ⟨a, b⟩ => ⟨a, by rw [b]; rfl⟩) w⟩
  · have : k' = .all := by rcases hk' with h | h <;> exact h
    rw [this]
    have e2 : xs.filterMap (fun x => some (g x)) = xs.map g := by rw [List.filterMap_eq_map']
    rw [e2]
    exact q
/-- a comprehension of two clauses, no tests -/
theorem lc2_map {C : CallS} (hC : MonoC C) {α β γ : Type} {ea : α → D} {eb : β → D} {ec : γ → D} {o : Ow} {t t1 : Tg} {it1 : VH.It} {e : E} {Bd : Nat} (ys : α → List β) (g : α → β → γ) {ρ : Env} : ∀ (xs : List α) {Q : Ow → List D → Env → Prop},
    (∀ x ∈ xs, ∃ ρ2, bindT t (itmO o) (ea x) (wipeE (lock ρ) (tgs t ++ tgs t1)) = some ρ2 ∧ wpIt C it1 ρ2 fun o1 ds1 _ => (o1 ≠ .tra ∧ o1 ≠ .tra1) ∧ ds1.length ≤ Bd ∧ ds1 = (ys x).map eb ∧
      ∀ y ∈ ys x, ∃ ρ3, bindT t1 (itmO o1) (eb y) (wipeE (lock ρ2) (tgs t1)) = some ρ3 ∧ wpE C e ρ3 fun o' d' _ => chO o' d' = some .all ∧ d' = ec (g x y)) →
    Q .all ((xs.flatMap fun x => (ys x).map (g x)).map ec) ρ →
    wpLcM (fun d ρ' K => ∃ ρ2, bindT t (itmO o) d (wipeE (lock ρ') (tgs t ++ tgs t1)) = some ρ2 ∧ wpC C .nil ρ2 fun b _ =>
        if b = true then wpIt C it1 ρ2 fun o1 ds1 _ => (o1 ≠ .tra ∧ o1 ≠ .tra1) ∧ ds1.length ≤ Bd ∧
          wpLcL (fun d1 _ K1 => ∃ ρ3, bindT t1 (itmO o1) d1 (wipeE (lock ρ2) (tgs t1)) = some ρ3 ∧ wpC C .nil ρ3 fun b1 ρ4 =>
            if b1 = true then wpE C e ρ4 fun o' d' _ => ∃ k, chO o' d' = some k ∧ K1 (some (k, d')) ρ' else K1 none ρ') ds1 ρ' K
        else K .all [] ρ') (xs.map ea) ρ Q
  | [], Q, _, q => q
  | x :: xs, Q, h, q => by
    obtain ⟨ρ2, eb2, w⟩ := h x List.mem_cons_self
    refine ⟨ρ2, eb2, ?_⟩
    refine wpIt_mono hC it1 _ _ _ (fun o1 ds1 _ ⟨nt, hB, ed, hy⟩ => ⟨nt, hB, ?_⟩) w
    subst ed
    have inner : ∀ (zs : List β), (∀ y ∈ zs, y ∈ ys x) → ∀ {K : Ow → List D → Env → Prop}, K .all ((zs.map (g x)).map ec) ρ → wpLcL (fun d1 _ K1 => ∃ ρ3, bindT t1 (itmO o1) d1 (wipeE (lock ρ2) (tgs t1)) = some ρ3 ∧ wpC C .nil ρ3 fun b1 ρ4 =>
            if b1 = true then wpE C e ρ4 fun o' d' _ => ∃ k, chO o' d' = some k ∧ K1 (some (k, d')) ρ else K1 none ρ) (zs.map eb) ρ K := by
      intro zs
      induction zs with
      | nil => intro _ K hk; exact hk
      | cons z zs ih =>
        intro hz K hk
        obtain ⟨ρ3, e3, w3⟩ := hy z (hz z List.mem_cons_self)
        refine ⟨ρ3, e3, ?_⟩
        refine wpE_mono hC e _ _ _ (fun o' d' ρ4 ⟨ek, er⟩ => ⟨.all, ek, ?_⟩) w3
        refine ih (fun y hm => hz y (List.mem_cons_of_mem _ hm)) ?_
        rw [er]; exact hk
    refine inner (ys x) (fun y hy => hy) ?_
    refine lc2_map hC ys g xs (fun x hx => h x (List.mem_cons_of_mem _ hx)) ?_
    have e : ((x :: xs).flatMap fun x => (ys x).map (g x)).map ec = ((ys x).map (g x)).map ec ++ ((xs.flatMap fun x => (ys x).map (g x)).map ec) := by rw [List.flatMap_cons, List.map_append]
    rw [← e]
    exact q
/-- a comprehension that changes things: by an invariant -/
theorem lcl_inv {C : CallS} (hC : MonoC C) {o : Ow} {t : Tg} {c : Eo} {e : E} {Q : Ow → List D → Env → Prop} (I : Nat → List D → Env → Prop) : ∀ (ds : List D) (i0 : Nat) (l0 : List D) (ρ : Env), I i0 l0 ρ →
    (∀ (i : Nat) (d : D) (l : List D) (ρ : Env), ds[i]? = some d → I (i0 + i) l ρ → ∃ ρ2, bindT t (itmO o) d (wipeE ρ (tgs t)) = some ρ2 ∧ wpC C c ρ2 fun b ρ3 =>
      if b = true then wpE C e ρ3 fun o' d' ρ4 => chO o' d' = some .all ∧ I (i0 + i + 1) (l ++ [d']) (backE ρ ρ4 (tgs t)) else I (i0 + i + 1) l (backE ρ ρ3 (tgs t))) →
    (∀ l ρ, I (i0 + ds.length) (l0 ++ l) ρ → Q .all l ρ) →
    wpLcL (fun d ρ' K => ∃ ρ2, bindT t (itmO o) d (wipeE ρ' (tgs t)) = some ρ2 ∧ wpC C c ρ2 fun b ρ3 =>
          if b = true then wpE C e ρ3 fun o' d' ρ4 => ∃ k, chO o' d' = some k ∧ K (some (k, d')) (backE ρ' ρ4 (tgs t)) else K none (backE ρ' ρ3 (tgs t))) ds ρ Q
  | [], i0, l0, ρ, h, _, q => q [] ρ (by rw [List.append_nil]; exact h)
  | d :: ds, i0, l0, ρ, h, s, q => by
    obtain ⟨ρ2, eb, w⟩ := s 0 d l0 ρ rfl h
    have next : ∀ (l1 : List D) (ρ1 : Env) {Q' : Ow → List D → Env → Prop}, I (i0 + 1) l1 ρ1 → (∀ l ρ, I (i0 + (d :: ds).length) (l1 ++ l) ρ → Q' .all l ρ) → wpLcL (fun d ρ' K => ∃ ρ2, bindT t (itmO o) d (wipeE ρ' (tgs t)) = some ρ2 ∧ wpC C c ρ2 fun b ρ3 =>
          if b = true then wpE C e ρ3 fun o' d' ρ4 => ∃ k, chO o' d' = some k ∧ K (some (k, d')) (backE ρ' ρ4 (tgs t)) else K none (backE ρ' ρ3 (tgs t))) ds ρ1 Q' := fun l1 ρ1 Q' hi hq =>
      lcl_inv hC I ds (i0 + 1) l1 ρ1 hi (fun i d l ρ hd hi => by
        have := s (i + 1) d l ρ (by simpa using hd) (by rw [show i0 + (i + 1) = i0 + 1 + i by omega]; exact hi)
        rw [show i0 + (i + 1) + 1 = i0 + 1 + i + 1 by omega] at this
        exact this) fun l ρ hl => hq l ρ (by rw [List.length_cons, show i0 + (ds.length + 1) = i0 + 1 + ds.length by omega]; exact hl)
    refine ⟨ρ2, eb, wpC_mono hC c _ _ _ (fun b ρ3 w => ?_) w⟩
    cases b with
    | false =>
      rw [if_neg Bool.false_ne_true] at w ⊢
      exact next l0 _ w q
    | true =>
      rw [if_pos rfl] at w ⊢
      refine wpE_mono hC e _ _ _ (fun o' d' ρ4 ⟨ek, hi⟩ => ⟨.all, ek, ?_⟩) w
      refine next (l0 ++ [d']) _ hi fun l ρ hl => ?_
      have := q (d' :: l) ρ (by rw [List.append_assoc] at hl; exact hl)
      exact this
theorem lc_inv {C : CallS} (hC : MonoC C) {o : Ow} {t : Tg} {c : Eo} {e : E} {Q : Ow → List D → Env → Prop} {ds : List D} {ρ : Env} (I : Nat → List D → Env → Prop) (h0 : I 0 [] ρ)
    (s : ∀ (i : Nat) (d : D) (l : List D) (ρ : Env), ds[i]? = some d → I i l ρ → ∃ ρ2, bindT t (itmO o) d (wipeE ρ (tgs t)) = some ρ2 ∧ wpC C c ρ2 fun b ρ3 =>
      if b = true then wpE C e ρ3 fun o' d' ρ4 => chO o' d' = some .all ∧ I (i + 1) (l ++ [d']) (backE ρ ρ4 (tgs t)) else I (i + 1) l (backE ρ ρ3 (tgs t)))
    (q : ∀ l ρ, I ds.length l ρ → Q .all l ρ) :
    wpLcL (fun d ρ' K => ∃ ρ2, bindT t (itmO o) d (wipeE ρ' (tgs t)) = some ρ2 ∧ wpC C c ρ2 fun b ρ3 =>
          if b = true then wpE C e ρ3 fun o' d' ρ4 => ∃ k, chO o' d' = some k ∧ K (some (k, d')) (backE ρ' ρ4 (tgs t)) else K none (backE ρ' ρ3 (tgs t))) ds ρ Q :=
  lcl_inv hC I ds 0 [] ρ h0 (fun i d l ρ hd hi => by
    have := s i d l ρ hd (by rw [Nat.zero_add] at hi; exact hi)
    rw [Nat.zero_add]; exact this) fun l ρ hl => q l ρ (by rw [Nat.zero_add] at hl; exact hl)
theorem lc_step {C : CallS} (hC : MonoC C) {t : Tg} {it : VH.It} {c : Eo} {e : E} {ρ : Env} {Q : KE} (w : wpIt C it ρ fun o ds ρ1 => ds.length < sizeLine ∧ (o ≠ .tra ∧ o ≠ .tra1) ∧
    wpLcL (fun d ρ' K => ∃ ρ2, bindT t (itmO o) d (wipeE ρ' (tgs t)) = some ρ2 ∧ wpC C c ρ2 fun b ρ3 =>
          if b = true then wpE C e ρ3 fun o' d' ρ4 => ∃ k, chO o' d' = some k ∧ K (some (k, d')) (backE ρ' ρ4 (tgs t)) else K none (backE ρ' ρ3 (tgs t))) ds ρ1 fun k l ρ2 => Q (rootO k) (.lst l) ρ2) : wpE C (.lc false t it c e) ρ Q :=
  wpIt_mono hC it _ _ _ (fun o ds ρ1 ⟨z, q⟩ => ⟨z, by rw [if_neg Bool.false_ne_true]; exact q⟩) w
theorem call_of {P : Tbl} {k f : Nat} {d : Df} {args : List (Ow × D)} {Q : Ow → D → List (Option (Ow × D)) → Prop} (e : P[f]? = some d) (n : args.length = d.np) (w : wpSs (callK P k) (lkF d) d.body (startE d args) (endOf d Q)) : callK P (k + 1) f args Q := ⟨d, e, n, w⟩
/-- what a call gives, closed to reduction -/
@[irreducible] def cal (P : Tbl) (k : Nat) : CallS := callK P k
theorem cal_eq (P : Tbl) (k : Nat) : cal P k = callK P k := by unfold cal; rfl
theorem cal_mono (P : Tbl) (k : Nat) : MonoC (cal P k) := by rw [cal_eq]; exact callK_mono P k
theorem cal_of {P : Tbl} {k f : Nat} {args : List (Ow × D)} {Q : Ow → D → List (Option (Ow × D)) → Prop} (d : Df) (e : P[f]? = some d) (n : args.length = d.np) (w : wpSs (cal P k) (lkF d) d.body (startE d args) (endOf d Q)) : cal P (k + 1) f args Q := by
  rw [cal_eq] at w ⊢
  exact ⟨d, e, n, w⟩
theorem wp2_lock {o : Ow} {d : D} {W : Env → KE → Prop} {ρ : Env} {Q : KE} (h : isTra o d = true) (w : W (lock ρ) fun o' d' _ => Q (unlO o' d') d' ρ) : wp2 o d W ρ Q := by
  unfold wp2; rw [if_pos h]; exact w
theorem wp2_free {o : Ow} {d : D} {W : Env → KE → Prop} {ρ : Env} {Q : KE} (h : isTra o d = false) (w : W ρ Q) : wp2 o d W ρ Q := by
  unfold wp2; rw [h, if_neg Bool.false_ne_true]; exact w
theorem nodup1 (a : Nat) : [a].Nodup := by simp
theorem nodup2 {a b : Nat} (h : a ≠ b) : [a, b].Nodup := by simp [h]
section
open Enc (enc)
variable {C : CallS} {lk : Nat → Bool} {c a b : E} {sa sb ss : Sms} {ρ : Env} {A : De} {Q : KE}
theorem st_ite (hC : MonoC C) (w : wpE C c ρ fun _ d ρ1 => ∃ t, truth d = some t ∧ (t = true → wpSs C lk sa ρ1 ⟨fun ρ => wpSs C lk ss ρ A, A.rt, A.bk, A.ct⟩) ∧ (t = false → wpSs C lk sb ρ1 ⟨fun ρ => wpSs C lk ss ρ A, A.rt, A.bk, A.ct⟩)) :
    wpSs C lk (.cons (.ite c sa sb) ss) ρ A :=
  wpE_mono hC c _ _ _ (fun _ d ρ1 ⟨t, e, h1, h2⟩ => ⟨t, e, by
    cases t with
    | true => exact h1 rfl
    | false => exact h2 rfl⟩) w
theorem r_ret {e : E} (w : wpE C e ρ A.rt) : wpSs C lk (.cons (.ret e) ss) ρ A := w
theorem r_asg {e : E} {i : Nat} (w : wpE C e ρ fun o d ρ1 => ∃ o', asgO o d = some o' ∧ wpSs C lk ss (ρ1.set i (some (o', d))) A) (hl : lk i = false := by rfl) : wpSs C lk (.cons (.asg i e) ss) ρ A := ⟨hl, w⟩
theorem r_ex {e : E} (w : wpE C e ρ fun _ _ ρ1 => wpSs C lk ss ρ1 A) : wpSs C lk (.cons (.ex e) ss) ρ A := w
theorem e_c {P : Bool → Env → Prop} (w : wpE C a ρ fun _ d ρ1 => ∃ t, truth d = some t ∧ P t ρ1) : wpC C (.some a) ρ P := w
theorem e_b1 {b1 : B1} (w : wpE C a ρ fun o d ρ1 => sem1 b1 o d fun o' d' => Q o' d' ρ1) : wpE C (.b1 b1 a) ρ Q := w
theorem e_wk {o' : Ow} (w : wpE C a ρ fun o d ρ1 => ∃ o2, wkO o' o d = some o2 ∧ Q o2 d ρ1) : wpE C (.wk o' a) ρ Q := w
theorem e_bin {op : Operator} (w : wpE C a ρ fun o1 d1 ρ1 => wp2 o1 d1 (wpE C b) ρ1 fun o2 d2 ρ2 => sem2 op o1 d1 o2 d2 fun o d => Q o d ρ2) : wpE C (.bin op a b) ρ Q := w
theorem e_cmp {op : CmpOp} (w : wpE C a ρ fun o1 d1 ρ1 => wp2 o1 d1 (wpE C b) ρ1 fun _ d2 ρ2 => semC op d1 d2 fun t => Q .all (.bl t) ρ2) : wpE C (.cmp op a b) ρ Q := w
theorem e_nt (w : wpE C a ρ fun _ d ρ1 => ∃ t, truth d = some t ∧ Q .all (.bl (!t)) ρ1) : wpE C (.nt a) ρ Q := w
theorem i_seq' {P : Ow → List D → Env → Prop} (w : wpE C a ρ fun o d ρ1 => match d with
    | .lst ds => P o ds ρ1
    | .tup ds => P o ds ρ1
    | _ => False) : wpIt C (.seq a) ρ P := w
theorem r_fr {t : Tg} {it : VH.It} {body : Sms} (w : wpIt C it ρ fun o ds ρ1 => (o ≠ .tra ∧ o ≠ .tra1) ∧ wpFor (fun ρ A => wpSs C lk body ρ A) (bindT t (itmO o)) ⟨fun ρ => wpSs C lk ss ρ A, A.rt, A.bk, A.ct⟩ ds ρ1) (hl : ((tgs t).all fun i => !lk i) = true := by rfl) : wpSs C lk (.cons (.fr t it body) ss) ρ A := ⟨hl, w⟩
theorem s_ite (hC : MonoC C) (w : wpE C c ρ fun _ d ρ1 => ∃ t, truth d = some t ∧ (t = true → wpSs C lk sa ρ1 A) ∧ (t = false → wpSs C lk sb ρ1 A)) : wpS C lk (.ite c sa sb) ρ A :=
  wpE_mono hC c _ _ _ (fun _ d ρ1 ⟨t, e, h1, h2⟩ => ⟨t, e, by
    cases t with
    | true => exact h1 rfl
    | false => exact h2 rfl⟩) w
theorem e_and (hC : MonoC C) (w : wpE C a ρ fun o d ρ1 => ∃ t, truth d = some t ∧ (t = true → wpE C b ρ1 Q) ∧ (t = false → Q o d ρ1)) : wpE C (.and a b) ρ Q :=
  wpE_mono hC a _ _ _ (fun o d ρ1 ⟨t, e, h1, h2⟩ => ⟨t, e, by
    cases t with
    | true => exact h1 rfl
    | false => exact h2 rfl⟩) w
theorem e_or (hC : MonoC C) (w : wpE C a ρ fun o d ρ1 => ∃ t, truth d = some t ∧ (t = true → Q o d ρ1) ∧ (t = false → wpE C b ρ1 Q)) : wpE C (.or a b) ρ Q :=
  wpE_mono hC a _ _ _ (fun o d ρ1 ⟨t, e, h1, h2⟩ => ⟨t, e, by
    cases t with
    | true => exact h1 rfl
    | false => exact h2 rfl⟩) w
theorem e_ife (hC : MonoC C) (w : wpE C c ρ fun _ d ρ1 => ∃ t, truth d = some t ∧ (t = true → wpE C a ρ1 Q) ∧ (t = false → wpE C b ρ1 Q)) : wpE C (.ife c a b) ρ Q :=
  wpE_mono hC c _ _ _ (fun o d ρ1 ⟨t, e, h1, h2⟩ => ⟨t, e, by
    cases t with
    | true => exact h1 rfl
    | false => exact h2 rfl⟩) w
theorem sc_eq {d1 d2 : D} {t : Bool} {P : Bool → Prop} (h1 : plainD d1 = true) (h2 : plainD d2 = true) (e : deq d1 d2 = t) (q : P t) : semC .Eq d1 d2 P := ⟨h1, h2, by rw [e]; exact q⟩
theorem sc_ne {d1 d2 : D} {t : Bool} {P : Bool → Prop} (h1 : plainD d1 = true) (h2 : plainD d2 = true) (e : deq d1 d2 = t) (q : P (!t)) : semC .NotEq d1 d2 P := ⟨h1, h2, by rw [e]; exact q⟩
theorem sc_in {α : Type} [Enc α] {a : α} {xs : List α} {P : Bool → Prop} (h1 : plainD (enc a) = true) (h2 : plainD (.lst (xs.map enc)) = true) (q : P (decide (a ∈ xs))) : semC .In (enc a) (.lst (xs.map enc)) P := ⟨h1, h2, by rw [any_enc]; exact q⟩
theorem e_sc {i : Nat} {o : Ow} {d : D} (e : ρ[i]? = some (some (o, d))) (hs : solid d = false) (ho : o = .all ∨ o = .one) (w : Q .tra1 d (ρ.set i (some (.one, d)))) : wpE C (.var .sc i) ρ Q :=
  ⟨o, d, e, by
    show (if solid d = true then _ else _)
    rw [if_neg (by rw [hs]; exact Bool.false_ne_true)]
    rcases ho with rfl | rfl <;> exact w⟩
theorem e_scS {i : Nat} {d : D} (e : ρ[i]? = some (some (.sh, d))) (hs : solid d = false) (w : Q .sh d ρ) : wpE C (.var .sc i) ρ Q :=
  ⟨.sh, d, e, by
    show (if solid d = true then _ else _)
    rw [if_neg (by rw [hs]; exact Bool.false_ne_true)]
    exact w⟩
theorem e_sh {i : Nat} {o : Ow} {d : D} (e : ρ[i]? = some (some (o, d))) (hs : solid d = false) (ho : o = .all ∨ o = .one ∨ o = .sh) (w : Q .sh d (ρ.set i (some (.sh, d)))) : wpE C (.var .sh i) ρ Q :=
  ⟨o, d, e, by
    show (if solid d = true then _ else _)
    rw [if_neg (by rw [hs]; exact Bool.false_ne_true)]
    rcases ho with rfl | rfl | rfl <;> exact w⟩
theorem deq_int {i j : Int} : deq (.int i) (.int j) = decide (i = j) := Enc.eqD i j
theorem ite_cut (hC : MonoC C) {c : Bool} (I : Env → Prop) (h1 : c = true → wpSs C lk sa ρ ⟨I, A.rt, A.bk, A.ct⟩) (h2 : c = false → wpSs C lk sb ρ ⟨I, A.rt, A.bk, A.ct⟩) (g : ∀ ρ, I ρ → A.nx ρ) : if c = true then wpSs C lk sa ρ A else wpSs C lk sb ρ A := by
  cases c with
  | true => exact wpSs_mono hC sa ρ ⟨I, A.rt, A.bk, A.ct⟩ A ⟨g, fun _ _ _ q => q, fun _ q => q, fun _ q => q⟩ (h1 rfl)
  | false => exact wpSs_mono hC sb ρ ⟨I, A.rt, A.bk, A.ct⟩ A ⟨g, fun _ _ _ q => q, fun _ q => q, fun _ q => q⟩ (h2 rfl)
theorem asgO_all {d : D} : asgO .all d = some .all := by unfold asgO; split <;> rfl
end
def insB {α : Type} (le : α → α → Bool) (x : α) : List α → List α
  | [] => [x]
  | y :: ys => if le x y = true then x :: y :: ys else y :: insB le x ys
def srtB {α : Type} (le : α → α → Bool) : List α → List α
  | [] => []
  | x :: xs => insB le x (srtB le xs)
theorem insB_perm {α : Type} (le : α → α → Bool) (x : α) : ∀ ys : List α, (insB le x ys).Perm (x :: ys)
  | [] => List.Perm.refl _
  | y :: ys => by
    unfold insB
    split
    · exact List.Perm.refl _
    · exact ((insB_perm le x ys).cons y).trans (List.Perm.swap x y ys)
theorem srtB_perm {α : Type} (le : α → α → Bool) : ∀ xs : List α, (srtB le xs).Perm xs
  | [] => List.Perm.refl _
  | x :: xs => (insB_perm le x _).trans ((srtB_perm le xs).cons x)
theorem insB_pw {α : Type} {le : α → α → Bool} {R : α → α → Prop} (h1 : ∀ a b, le a b = true → R a b) (h2 : ∀ a b, le a b = false → R b a) (tr : ∀ a b c, R a b → R b c → R a c) (x : α) : ∀ ys : List α, ys.Pairwise R → (insB le x ys).Pairwise R
  | [], _ => List.pairwise_singleton _ _
  | y :: ys, hp => by
    rw [List.pairwise_cons] at hp
    unfold insB
    split <;> rename_i hle
    · refine List.pairwise_cons.mpr ⟨fun z hz => ?_, List.pairwise_cons.mpr hp⟩
      rcases List.mem_cons.mp hz with rfl | hz
      · exact h1 _ _ hle
      · exact tr _ _ _ (h1 _ _ hle) (hp.1 z hz)
    · refine List.pairwise_cons.mpr ⟨fun z hz => ?_, insB_pw h1 h2 tr x ys hp.2⟩
      rcases List.mem_cons.mp ((insB_perm le x ys).subset hz) with rfl | hz
      · exact h2 _ _ (by simpa using hle)
      · exact hp.1 z hz
theorem srtB_pw {α : Type} {le : α → α → Bool} {R : α → α → Prop} (h1 : ∀ a b, le a b = true → R a b) (h2 : ∀ a b, le a b = false → R b a) (tr : ∀ a b c, R a b → R b c → R a c) : ∀ xs : List α, (srtB le xs).Pairwise R
  | [] => List.Pairwise.nil
  | x :: xs => insB_pw h1 h2 tr x _ (srtB_pw h1 h2 tr xs)
def srtI : List Int → List Int := srtB fun a b => decide (a ≤ b)
def leP (p q : Int × Int) : Bool := decide (p.1 < q.1) || (decide (p.1 = q.1) && decide (p.2 ≤ q.2))
def srtP : List (Int × Int) → List (Int × Int) := srtB leP
theorem srtI_perm (xs : List Int) : (srtI xs).Perm xs := srtB_perm _ xs
theorem srtP_perm (xs : List (Int × Int)) : (srtP xs).Perm xs := srtB_perm _ xs
theorem srtI_pw (xs : List Int) : (srtI xs).Pairwise (· ≤ ·) := srtB_pw (le := fun a b => decide (a ≤ b)) (R := fun a b : Int => a ≤ b) (fun a b h => of_decide_eq_true h) (fun a b h => by have := of_decide_eq_false h; omega) (fun a b c h1 h2 => Int.le_trans h1 h2) xs
theorem leP_iff {p q : Int × Int} : leP p q = true ↔ lexLe p q := by unfold leP lexLe; simp
theorem srtP_pw (xs : List (Int × Int)) : (srtP xs).Pairwise lexLe := srtB_pw (fun a b h => leP_iff.mp h) (fun a b h => by
    have : ¬ lexLe a b := fun z => by rw [leP_iff.mpr z] at h; cases h
    unfold lexLe at this ⊢; omega) (fun a b c h1 h2 => by unfold lexLe at *; omega) xs
theorem sortedI_eq {a b : List Int} (p : a.Perm b) (h : a.Pairwise (· ≤ ·)) : a = srtI b := List.Perm.eq_of_pairwise (le := (· ≤ ·)) (fun x y _ _ h1 h2 => Int.le_antisymm h1 h2) h (srtI_pw b) (p.trans (srtI_perm b).symm)
theorem sortedP_eq {a b : List (Int × Int)} (p : a.Perm b) (h : a.Pairwise lexLe) : a = srtP b := List.Perm.eq_of_pairwise (le := lexLe) (fun x y _ _ h1 h2 => by unfold lexLe at *; exact Prod.ext (by omega) (by omega)) h (srtP_pw b) (p.trans (srtP_perm b).symm)
theorem srtI_id {a : List Int} (h : a.Pairwise (· ≤ ·)) : srtI a = a := (sortedI_eq (List.Perm.refl a) h).symm
theorem srtP_id {a : List (Int × Int)} (h : a.Pairwise lexLe) : srtP a = a := (sortedP_eq (List.Perm.refl a) h).symm
theorem mem_srtI {x : Int} {xs : List Int} : x ∈ srtI xs ↔ x ∈ xs := (srtI_perm xs).mem_iff
theorem mem_srtP {x : Int × Int} {xs : List (Int × Int)} : x ∈ srtP xs ↔ x ∈ xs := (srtP_perm xs).mem_iff
theorem len_srtI (xs : List Int) : (srtI xs).length = xs.length := (srtI_perm xs).length_eq
theorem len_srtP (xs : List (Int × Int)) : (srtP xs).length = xs.length := (srtP_perm xs).length_eq
def maxI : List Int → Int
  | [] => 0
  | [x] => x
  | x :: y :: r => max x (maxI (y :: r))
def minI : List Int → Int
  | [] => 0
  | [x] => x
  | x :: y :: r => min x (minI (y :: r))
theorem maxI_mem : ∀ {xs : List Int}, xs ≠ [] → maxI xs ∈ xs
  | [], h => (h rfl).elim
  | [x], _ => List.mem_singleton.mpr rfl
  | x :: y :: r, _ => by
    have ih := maxI_mem (xs := y :: r) (by simp)
    unfold maxI
    rcases Int.le_total x (maxI (y :: r)) with h | h
    · rw [Int.max_eq_right h]; exact List.mem_cons_of_mem _ ih
    · rw [Int.max_eq_left h]; exact List.mem_cons_self
theorem maxI_ge : ∀ {xs : List Int} {y : Int}, y ∈ xs → y ≤ maxI xs
  | [x], y, h => by rw [List.mem_singleton] at h; subst h; exact Int.le_refl _
  | x :: z :: r, y, h => by
    unfold maxI
    rcases List.mem_cons.mp h with rfl | h
    · omega
    · have := maxI_ge (xs := z :: r) h; omega
theorem minI_mem : ∀ {xs : List Int}, xs ≠ [] → minI xs ∈ xs
  | [], h => (h rfl).elim
  | [x], _ => List.mem_singleton.mpr rfl
  | x :: y :: r, _ => by
    have ih := minI_mem (xs := y :: r) (by simp)
    unfold minI
    rcases Int.le_total x (minI (y :: r)) with h | h
    · rw [Int.min_eq_left h]; exact List.mem_cons_self
    · rw [Int.min_eq_right h]; exact List.mem_cons_of_mem _ ih
theorem minI_le : ∀ {xs : List Int} {y : Int}, y ∈ xs → minI xs ≤ y
  | [x], y, h => by rw [List.mem_singleton] at h; subst h; exact Int.le_refl _
  | x :: z :: r, y, h => by
    unfold minI
    rcases List.mem_cons.mp h with rfl | h
    · omega
    · have := minI_le (xs := z :: r) h; omega
theorem maxI_eq {xs : List Int} {m : Int} (h : m ∈ xs) (hm : ∀ y, y ∈ xs → y ≤ m) : m = maxI xs := Int.le_antisymm (maxI_ge h) (hm _ (maxI_mem (List.ne_nil_of_mem h)))
theorem minI_eq {xs : List Int} {m : Int} (h : m ∈ xs) (hm : ∀ y, y ∈ xs → m ≤ y) : m = minI xs := Int.le_antisymm (hm _ (minI_mem (List.ne_nil_of_mem h))) (minI_le h)
section
variable {o : Ow} {Q : Ow → D → Prop}
theorem s1_sort {ns : List Int} (q : Q .all (.lst ((srtI ns).map D.int))) : sem1 .sorted_ o (.lst (ns.map D.int)) Q := .inl ⟨ns, toInts_map ns, fun ns' p h => by rw [sortedI_eq p h]; exact q⟩
theorem s1_sortP {ns : List (Int × Int)} (q : Q .all (.lst ((srtP ns).map encP))) : sem1 .sorted_ o (.lst (ns.map encP)) Q := .inr ⟨ns, toPairs_map ns, fun ns' p h => by rw [sortedP_eq p h]; exact q⟩
theorem s1_max {ns : List Int} (hn : ns ≠ []) (q : Q .all (.int (maxI ns))) : sem1 .max_ o (.lst (ns.map D.int)) Q := ⟨ns, toInts_map ns, List.length_pos_iff.mpr hn, fun m h1 h2 => by rw [maxI_eq h1 h2]; exact q⟩
theorem s1_min {ns : List Int} (hn : ns ≠ []) (q : Q .all (.int (minI ns))) : sem1 .min_ o (.lst (ns.map D.int)) Q := ⟨ns, toInts_map ns, List.length_pos_iff.mpr hn, fun m h1 h2 => by rw [minI_eq h1 h2]; exact q⟩
theorem s1_sum {ns : List Int} (q : Q .all (.int ns.sum)) : sem1 .sum o (.lst (ns.map D.int)) Q := ⟨ns, toInts_map ns, q⟩
theorem s1_all {ns : List Bool} (q : Q .all (.bl (ns.all id))) : sem1 .all_ o (.lst (ns.map D.bl)) Q := ⟨ns, toBls_map ns, q⟩
theorem s1_any {ns : List Bool} (q : Q .all (.bl (ns.any id))) : sem1 .any_ o (.lst (ns.map D.bl)) Q := ⟨ns, toBls_map ns, q⟩
end
end VH
namespace VH
open PySem PySem.Spec PyProof.Rows L2
local macro_rules | `(tactic| trivial) => `(tactic| first
  | exact rfl
  | refine ⟨⟨_, rfl⟩, ?_⟩
  | refine ⟨⟨_, _, rfl⟩, ?_⟩
  | refine ⟨_, _, rfl, ?_⟩
  | refine ⟨_, rfl, ?_⟩
  | refine ⟨_, _, _, _, _, rfl, rfl, rfl, rfl, ?_⟩
  | refine ⟨_, _, _, _, rfl, rfl, .inr rfl, rfl, ?_⟩
  | refine ⟨_, _, _, _, rfl, rfl, .inl rfl, rfl, ?_⟩
  | refine ⟨_, _, _, rfl, rfl, .inr rfl, rfl, ?_⟩
  | refine ⟨_, _, _, rfl, rfl, .inl rfl, rfl, ?_⟩
  | refine ⟨.inr ⟨by decide, by decide⟩, ?_⟩
  | refine ⟨by decide, by decide, ?_⟩
  | refine ⟨by decide, ?_⟩
  | refine ⟨Nat.le_of_ble_eq_true rfl, ?_⟩
  | refine ⟨List.nodup_nil, _, rfl, ?_⟩
  | refine ⟨nodup1 _, _, rfl, ?_⟩
  | refine ⟨nodup2 (by decide), _, rfl, ?_⟩
  | refine ⟨rfl, ?_⟩)
def dFeed : Df where
  nm := (Str.ofString "_law_feed")
  np := 1
  N := [(Str.ofString "script")]
  lk := [0]
  body := (.cons (.ret (.lst (.cons (.b1 .list_ (.var .pk 0)) (.cons (.int 0) (.cons (.int 0) (.cons (.int 1) .nil)))))) .nil)
def dDraw : Df where
  nm := (Str.ofString "_law_draw")
  np := 2
  N := [(Str.ofString "feed"), (Str.ofString "many"), (Str.ofString "cell"), (Str.ofString "told"), (Str.ofString "mixed")]
  lk := [0, 1]
  body := (.cons (.ite (.and (.cmp .Eq (.sidx 0 (.int 2)) (.int 0)) (.cmp .Lt (.sidx 0 (.int 1)) (.b1 .len (.sidx 0 (.int 0))))) (.cons (.asg 2 (.b1 .abs (.b1 .int_ (.idx (.sidx 0 (.int 0)) (.sidx 0 (.int 1)))))) (.cons (.augS 0 (.int 1) .Add (.int 1)) (.cons (.ite (.cmp .GtE (.var .pk 2) (.bin .Pow (.int 10) (.int 18))) (.cons (.set 0 (.int 2) (.var .sh 2)) .nil) (.cons (.set 0 (.int 3) (.bin .Mod (.b1 .int_ (.bin .Add (.bin .Add (.bin .Mult (.sidx 0 (.int 3)) (.int 48271)) (.bin .Mult (.var .pk 2) (.int 69621))) (.sidx 0 (.int 1)))) (.int 2147483647))) .nil)) .nil))) .nil) (.cons (.ite (.cmp .Gt (.sidx 0 (.int 2)) (.int 0)) (.cons (.asg 3 (.bin .Mod (.b1 .int_ (.sidx 0 (.int 2))) (.var .pk 1))) (.cons (.set 0 (.int 2) (.bin .FloorDiv (.sidx 0 (.int 2)) (.var .pk 1))) (.cons (.ret (.var .mv 3)) .nil))) .nil) (.cons (.set 0 (.int 3) (.bin .Mod (.b1 .int_ (.bin .Add (.bin .Mult (.sidx 0 (.int 3)) (.int 16807)) (.int 12345))) (.int 2147483647))) (.cons (.asg 4 (.bin .Mod (.b1 .int_ (.bin .Add (.bin .Mult (.sidx 0 (.int 3)) (.sidx 0 (.int 3))) (.sidx 0 (.int 3)))) (.int 2147483629))) (.cons (.ret (.bin .Mod (.bin .FloorDiv (.var .pk 4) (.int 11)) (.var .pk 1))) .nil)))))
def dPairs : Df where
  nm := (Str.ofString "_law_pairs")
  np := 1
  N := [(Str.ofString "n"), (Str.ofString "found"), (Str.ofString "i"), (Str.ofString "j")]
  lk := [0]
  body := (.cons (.asg 1 (.lst .nil)) (.cons (.fr (.nm 2) (.rng1 (.var .pk 0)) (.cons (.asg 1 (.bin .Add (.var .pk 1) (.lc true (.nm 3) (.rng2 (.bin .Add (.var .pk 2) (.int 1)) (.var .pk 0)) .nil (.tup (.cons (.var .sh 2) (.cons (.var .sh 3) .nil)))))) .nil)) (.cons (.ret (.var .mv 1)) .nil)))
def dOrder (i : Nat) : Df where
  nm := (Str.ofString "_law_order")
  np := 2
  N := [(Str.ofString "feed"), (Str.ofString "n"), (Str.ofString "rest"), (Str.ofString "k"), (Str.ofString "order")]
  lk := [0, 1]
  body := (.cons (.asg 2 (.lc true (.nm 3) (.rng1 (.var .pk 1)) .nil (.var .sh 3))) (.cons (.asg 4 (.lst .nil)) (.cons (.fr (.nm 3) (.rng1 (.var .pk 1)) (.cons (.ex (.app 4 (.popAt 2 (.callX i (.lend 0 (.val (.b1 .len (.var .pk 2)) .nil)))))) .nil)) (.cons (.ret (.var .mv 4)) .nil))))

def dWeb (a b c : Nat) : Df where
  nm := (Str.ofString "_law_web")
  np := 2
  N := [(Str.ofString "feed"), (Str.ofString "n"), (Str.ofString "kind"), (Str.ofString "ties"), (Str.ofString "k"), (Str.ofString "share"), (Str.ofString "pair"), (Str.ofString "names"), (Str.ofString "i"), (Str.ofString "j")]
  lk := [0, 1]
  body := (.cons (.asg 2 (.callX a (.lend 0 (.val (.int 9) .nil)))) (.cons (.asg 3 (.lc true (.nm 4) (.rng1 (.bin .Sub (.var .pk 1) (.int 1))) .nil (.tup (.cons (.var .sh 4) (.cons (.bin .Add (.var .pk 4) (.int 1)) .nil))))) (.cons (.ite (.and (.cmp .Eq (.var .pk 2) (.int 0)) (.cmp .Gt (.var .pk 1) (.int 2))) (.cons (.asg 3 (.bin .Add (.var .pk 3) (.lst (.cons (.tup (.cons (.int 0) (.cons (.bin .Sub (.var .pk 1) (.int 1)) .nil))) .nil)))) .nil) .nil) (.cons (.ite (.cmp .Eq (.var .pk 2) (.int 1)) (.cons (.asg 3 (.lc true (.nm 4) (.rng2 (.int 1) (.var .pk 1)) .nil (.tup (.cons (.int 0) (.cons (.var .sh 4) .nil))))) .nil) .nil) (.cons (.ite (.cmp .Eq (.var .pk 2) (.int 2)) (.cons (.asg 3 (.lc false (.nm 4) (.rng2 (.int 1) (.var .pk 1)) .nil (.tup (.cons (.callX a (.lend 0 (.val (.var .sh 4) .nil))) (.cons (.var .sh 4) .nil))))) .nil) .nil) (.cons (.ite (.cmp .Eq (.var .pk 2) (.int 3)) (.cons (.asg 3 (.callP b (.cons (.var .pk 1) .nil))) .nil) .nil) (.cons (.ite (.cmp .Eq (.var .pk 2) (.int 4)) (.cons (.asg 3 (.bin .Add (.lc true (.nm 4) (.rng1 (.bin .Sub (.var .pk 1) (.int 2))) .nil (.tup (.cons (.var .sh 4) (.cons (.bin .Add (.var .pk 4) (.int 2)) .nil)))) (.lc true (.nm 4) (.rng3 (.int 0) (.bin .Sub (.var .pk 1) (.int 1)) 2) .nil (.tup (.cons (.var .sh 4) (.cons (.bin .Add (.var .pk 4) (.int 1)) .nil)))))) .nil) .nil) (.cons (.ite (.cmp .Gt (.var .pk 2) (.int 4)) (.cons (.asg 5 (.bin .Add (.int 1) (.callX a (.lend 0 (.val (.int 5) .nil))))) (.cons (.asg 3 (.lst .nil)) (.cons (.fr (.nm 6) (.seq (.callP b (.cons (.var .pk 1) .nil))) (.cons (.ite (.cmp .Lt (.callX a (.lend 0 (.val (.int 6) .nil))) (.var .pk 5)) (.cons (.ex (.app 3 (.var .sh 6))) .nil) .nil) .nil)) .nil))) .nil) (.cons (.asg 7 (.callX c (.lend 0 (.val (.var .sh 1) .nil)))) (.cons (.ret (.b1 .sorted_ (.lc true (.tp (.cons (.nm 8) (.cons (.nm 9) .nil))) (.seq (.slc (.var .pk 3) .nil (.some (.int 40)))) .nil (.tup (.cons (.b2 .min_ (.sidx 7 (.var .pk 8)) (.sidx 7 (.var .pk 9))) (.cons (.b2 .max_ (.sidx 7 (.var .pk 8)) (.sidx 7 (.var .pk 9))) .nil)))))) .nil))))))))))
def feedD (xs : List Int) (i a b : Int) : D := .lst [.lst (xs.map D.int), .int i, .int a, .int b]
/-- a feed in good order -/
def Feed (f : D) : Prop := ∃ (xs : List Int) (i a b : Int), f = feedD xs i a b ∧ 0 ≤ i ∧ 0 ≤ a ∧ 0 ≤ b ∧ b < 2147483647
section
variable {Q : Ow → D → List (Option (Ow × D)) → Prop}
theorem draw_ok0 {P : Tbl} {f k : Nat} (ef : P[f]? = some dDraw) {xs : List Int} {i a b many : Int} (hi : 0 ≤ i) (ha : 0 ≤ a) (hb : 0 ≤ b) (hb2 : b < 2147483647) (hm : 0 < many) (hm2 : many < 1073741824)
    (h : ∀ i' a' b' told : Int, 0 ≤ i' → 0 ≤ a' → 0 ≤ b' → b' < 2147483647 → 0 ≤ told → told < many → Q .all (.int told) [some (.all, feedD xs i' a' b'), some (.all, .int many)]) :
    cal P (k + 1) f [(.all, feedD xs i a b), (.all, .int many)] Q := by
  have hC := cal_mono P k
  refine cal_of dDraw ef rfl ?_
  refine wpSs_cut hC (fun ρ => ∃ (i' a' b' : Int) (v : Option (Ow × D)), ρ = [some (.all, feedD xs i' a' b'), some (.all, .int many), v, none, none] ∧ 0 ≤ i' ∧ 0 ≤ a' ∧ 0 ≤ b' ∧ b' < 2147483647) ?_ ?_
  rotate_left
  · rintro ρ ⟨i', a', b', v, rfl, h1, h2, h3, h4⟩
    refine st_ite hC ?_
    trivial; trivial; trivial
    refine ⟨_, rfl, fun hc => ?_, fun hc => ?_⟩
    · have hc := of_decide_eq_true hc
      repeat trivial
      exact h _ _ _ _ h1 (Int.ediv_nonneg h2 (by omega)) h3 h4 (Int.emod_nonneg _ (by omega)) (Int.emod_lt_of_pos _ hm)
    · have hc := of_decide_eq_false hc
      repeat trivial
      refine ⟨.inl ⟨by omega, by omega⟩, ?_⟩
      repeat trivial
      exact h _ _ _ _ h1 h2 (Int.emod_nonneg _ (by omega)) (Int.emod_lt_of_pos _ (by omega)) (Int.emod_nonneg _ (by omega)) (Int.emod_lt_of_pos _ hm)
  refine s_ite hC (e_and hC ?_)
  repeat trivial
  refine ⟨fun ha0 => ?_, fun ha0 => ?_⟩
  · rw [deq_int, decide_eq_true_eq] at ha0
    repeat trivial
    refine ⟨fun hlt => ?_, fun hlt => ?_⟩
    · have hlt := of_decide_eq_true hlt
      rw [List.length_map] at hlt
      obtain ⟨n, rfl⟩ : ∃ n : Nat, i = n := ⟨i.toNat, by omega⟩
      have hn : n < xs.length := by omega
      have e1 : atI (xs.map D.int) (n : Int) = some (.int xs[n]) := atI_nat (by rw [List.getElem?_map, List.getElem?_eq_getElem hn]; rfl)
      repeat trivial
      refine ⟨_, e1, ?_⟩
      repeat trivial
      generalize (if xs[n] < 0 then -xs[n] else xs[n]) = cell
      split <;> rename_i hc
      · have hc := of_decide_eq_true hc
        repeat trivial
        exact ⟨_, _, _, _, rfl, by omega, by have : (10 : Int) ^ 18 ≤ _ := hc; omega, hb, hb2⟩
      · repeat trivial
        exact ⟨_, _, _, _, rfl, by omega, ha, Int.emod_nonneg _ (by omega), Int.emod_lt_of_pos _ (by omega)⟩
    · exact ⟨_, _, _, none, rfl, hi, ha, hb, hb2⟩
  · refine ⟨_, rfl, fun h => ?_, fun _ => ⟨_, _, _, none, rfl, hi, ha, hb, hb2⟩⟩
    have : deq (.int a) (.int 0) = true := h
    rw [ha0] at this; cases this

theorem draw_ok {P : Tbl} {f k : Nat} (ef : P[f]? = some dDraw) {fd : D} {many : Int} (hf : Feed fd) (hm : 0 < many) (hm2 : many < 1073741824)
    (h : ∀ fd' told, Feed fd' → 0 ≤ told → told < many → Q .all (.int told) [some (.all, fd'), some (.all, .int many)]) : cal P (k + 1) f [(.all, fd), (.all, .int many)] Q := by
  obtain ⟨xs, i, a, b, rfl, h1, h2, h3, h4⟩ := hf
  exact draw_ok0 ef h1 h2 h3 h4 hm hm2 fun i' a' b' told g1 g2 g3 g4 g5 g6 => h _ _ ⟨xs, i', a', b', rfl, g1, g2, g3, g4⟩ g5 g6
theorem feed_ok {P : Tbl} {f k : Nat} (ef : P[f]? = some dFeed) {xs : List Int} (h : ∀ fd outs, Feed fd → Q .all fd outs) : cal P (k + 1) f [(.all, .scr xs)] Q := by
  have hC := cal_mono P k
  refine cal_of dFeed ef rfl ?_
  repeat trivial
  exact h _ _ ⟨xs, 0, 0, 1, rfl, by decide, by decide, by decide, by decide⟩
/-- a permutation of 0 .. n-1 -/
def ups (n : Int) : List Int := (List.range n.toNat).map fun i => Int.ofNat i
theorem ups_map (n : Int) : ((List.range n.toNat).map fun i => D.int (Int.ofNat i)) = (ups n).map D.int := by unfold ups; rw [List.map_map]; rfl
theorem ups_len (n : Int) : (ups n).length = n.toNat := by unfold ups; simp
theorem erase_map {α β : Type} (f : α → β) : ∀ (l : List α) (j : Nat), (l.map f).eraseIdx j = (l.eraseIdx j).map f
  | [], j => by simp
  | a :: r, 0 => rfl
  | a :: r, j + 1 => by simp [erase_map f r j]
theorem erase_perm {α : Type} : ∀ (l : List α) (j : Nat) (h : j < l.length), (l[j] :: l.eraseIdx j).Perm l
  | a :: r, 0, _ => List.Perm.refl _
  | a :: r, j + 1, h => by
    have hj : j < r.length := by simpa using h
    have ih := erase_perm r j hj
    show (r[j] :: a :: r.eraseIdx j).Perm (a :: r)
    exact (List.Perm.swap a r[j] _).trans (ih.cons a)
theorem seqIndex_at {j : Int} {n : Nat} (h0 : 0 ≤ j) (h1 : j < n) : seqIndex? j n = some j.toNat := seqIndex_of h0 h1
theorem order_ok {P : Tbl} {f g k : Nat} (ef : P[f]? = some (dOrder g)) (eg : P[g]? = some dDraw) {fd : D} {n : Int} (hf : Feed fd) (hn : n < 16777216) (hn0 : 0 ≤ n)
    (h : ∀ (fd' : D) (l : List Int), Feed fd' → l.Perm (ups n) → Q .all (.lst (l.map D.int)) [some (.all, fd'), some (.all, .int n)]) : cal P (k + 2) f [(.all, fd), (.all, .int n)] Q := by
  have hC := cal_mono P (k + 1)
  have hsz : sizeLine = 16777216 := sizeLine_eq
  refine cal_of (dOrder g) ef rfl ?_
  refine ⟨rfl, lc_pure ?_ hC⟩
  repeat trivial
  refine ⟨by omega, by omega, ?_, ?_⟩
  · rw [List.length_map, List.length_range]; omega
  rw [ups_map]
  refine lc_map hC (ea := D.int) (eb := D.int) (ups n) (fun p => p) (fun p hp => ⟨_, rfl, ?_⟩) ?_
  · repeat trivial
  rw [List.map_id']
  repeat trivial
  refine ⟨by omega, by omega, ⟨by decide, by decide⟩, ?_⟩
  rw [ups_map]
  refine fr_inv hC (fun i ρ => ∃ (fd' : D) (rest order : List Int) (v : Option (Ow × D)), ρ = [some (.all, fd'), some (.all, .int n), some (.all, .lst (rest.map D.int)), v, some (.all, .lst (order.map D.int))] ∧ Feed fd' ∧ (order ++ rest).Perm (ups n) ∧ order.length = i)
    ⟨fd, ups n, [], none, rfl, hf, List.Perm.refl _, rfl⟩ ?_ ?_
  · rintro i d ρ hd ⟨fd', rest, order, v, rfl, hf', hp, hl⟩
    have hi : i < n.toNat := by
      have := (List.getElem?_eq_some_iff.mp hd).1
      rw [List.length_map, ups_len] at this
      exact this
    have hlen := hp.length_eq
    rw [List.length_append, ups_len] at hlen
    refine ⟨_, rfl, ?_⟩
    repeat trivial
    refine draw_ok (many := ((rest.map D.int).length : Nat)) eg hf' (by rw [List.length_map]; omega) (by rw [List.length_map]; omega) fun fd2 told hf2 t0 t1 => ?_
    rw [List.length_map] at t1
    refine ⟨_, rfl, ?_⟩
    have ht : told.toNat < rest.length := by omega
    refine ⟨told, told.toNat, _, .int rest[told.toNat], _, rfl, rfl, .inr rfl, by omega, by omega, seqIndex_at t0 (by rw [List.length_map]; exact t1), by rw [List.getElem?_map, List.getElem?_eq_getElem ht]; rfl, ?_⟩
    refine ⟨_, _, _, rfl, rfl, .inr rfl, by rw [List.length_map]; omega, ?_⟩
    refine ⟨fd2, rest.eraseIdx told.toNat, order ++ [rest[told.toNat]], some (nrm (itmO .sh) d, d), ?_, hf2, ?_, by rw [List.length_append]; simp [hl]⟩
    · show [_, _, some (_, D.lst _), _, some (_, D.lst _)] = _
      rw [List.map_append, erase_map]
      rfl
    · refine List.Perm.trans ?_ hp
      rw [List.append_assoc]
      refine List.Perm.append_left _ ?_
      exact erase_perm rest told.toNat ht
  · rintro ρ ⟨fd', rest, order, v, rfl, hf', hp, hl⟩
    rw [List.length_map, ups_len] at hl
    have hlen := hp.length_eq
    rw [List.length_append, ups_len] at hlen
    have : rest = [] := List.length_eq_zero_iff.mp (by omega)
    subst this
    rw [List.append_nil] at hp
    have := h fd' order hf' hp
    repeat trivial
def rng (a b : Int) : List Int := (List.range (b - a).toNat).map fun k => a + Int.ofNat k
theorem rng_map (a b : Int) : ((List.range (b - a).toNat).map fun k => D.int (a + Int.ofNat k)) = (rng a b).map D.int := by
  unfold rng; rw [List.map_map]; rfl
theorem rng_len (a b : Int) : (rng a b).length = (b - a).toNat := by unfold rng; simp
theorem mem_rng {a b x : Int} : x ∈ rng a b ↔ a ≤ x ∧ x < b := by
  unfold rng
  rw [List.mem_map]
  constructor
  · rintro ⟨k, hk, rfl⟩
    rw [List.mem_range] at hk
    have e : Int.ofNat k = (k : Int) := rfl
    rw [e]
    exact ⟨by omega, by omega⟩
  · rintro ⟨h1, h2⟩
    exact ⟨(x - a).toNat, List.mem_range.mpr (by omega), by simp; omega⟩
theorem mem_ups {n x : Int} : x ∈ ups n ↔ 0 ≤ x ∧ x < n := by
  unfold ups
  rw [List.mem_map]
  constructor
  · rintro ⟨k, hk, rfl⟩
    rw [List.mem_range] at hk
    exact ⟨by simp, by simp; omega⟩
  · rintro ⟨h1, h2⟩
    exact ⟨x.toNat, List.mem_range.mpr (by omega), by simp; omega⟩
theorem solid_pairs : ∀ ps : List (Int × Int), solidL (ps.map encP) = true := solidL_of fun _ => rfl
def pairsL (n : Int) : List (Int × Int) := (ups n).flatMap fun i => (rng (i + 1) n).map fun j => (i, j)
theorem mem_pairsL {n : Int} {p : Int × Int} : p ∈ pairsL n ↔ 0 ≤ p.1 ∧ p.1 < p.2 ∧ p.2 < n := by
  unfold pairsL
  rw [List.mem_flatMap]
  constructor
  · rintro ⟨i, hi, h⟩
    obtain ⟨j, hj, rfl⟩ := List.mem_map.mp h
    rw [mem_ups] at hi
    rw [mem_rng] at hj
    exact ⟨hi.1, by show i < j; omega, hj.2⟩
  · rintro ⟨h1, h2, h3⟩
    exact ⟨p.1, mem_ups.mpr ⟨h1, by omega⟩, List.mem_map.mpr ⟨p.2, mem_rng.mpr ⟨by omega, h3⟩, rfl⟩⟩
theorem flat_len {α β : Type} (f : α → List β) (B : Nat) : ∀ xs : List α, (∀ x ∈ xs, (f x).length ≤ B) → (xs.flatMap f).length ≤ xs.length * B
  | [], _ => by simp
  | x :: xs, h => by
    have ih := flat_len f B xs fun y hy => h y (List.mem_cons_of_mem _ hy)
    have := h x List.mem_cons_self
    rw [List.flatMap_cons, List.length_append, List.length_cons, Nat.succ_mul]
    omega
theorem pairs_ok {P : Tbl} {f k : Nat} (ef : P[f]? = some dPairs) {n : Nat} (hn : n ≤ 4000) (h : ∀ outs, Q .all (.lst ((pairsL n).map encP)) outs) : cal P (k + 1) f [(.all, .int n)] Q := by
  have hC := cal_mono P k
  have hsz : sizeLine = 16777216 := sizeLine_eq
  refine cal_of dPairs ef rfl ?_
  repeat trivial
  refine ⟨by omega, by omega, ⟨by decide, by decide⟩, ?_⟩
  rw [ups_map]
  have step : ∀ i : Int, ((rng (i + 1) n).map fun j => (i, j)).length ≤ n ∨ i < 0 := fun i => by
    rw [List.length_map, rng_len]; omega
  refine fr_inv hC (fun i ρ => ∃ v w, ρ = [some (.all, .int n), some (.all, .lst ((((ups n).take i).flatMap fun i => (rng (i + 1) n).map fun j => (i, j)).map encP)), v, w]) ⟨none, none, rfl⟩ ?_ ?_
  · rintro i d ρ hd ⟨v, w, rfl⟩
    obtain ⟨x, hx, rfl⟩ : ∃ x, (ups n)[i]? = some x ∧ d = .int x := by
      rw [List.getElem?_map] at hd
      cases h : (ups n)[i]? with
      | none => rw [h] at hd; cases hd
      | some x => rw [h] at hd; exact ⟨x, rfl, (Option.some.inj hd).symm⟩
    have hx0 := mem_ups.mp (List.mem_of_getElem? hx)
    have hi : i < n := by
      have := (List.getElem?_eq_some_iff.mp hx).1
      rw [ups_len] at this; omega
    have et : (ups n).take (i + 1) = (ups n).take i ++ [x] := by
      rw [List.take_add_one, hx]; rfl
    have hlen : (((ups n).take i).flatMap fun i => (rng (i + 1) n).map fun j => (i, j)).length ≤ i * n := by
      have := flat_len (fun i => (rng (i + 1) n).map fun j => (i, j)) n ((ups n).take i) fun y hy => (step y).resolve_right (by have := mem_ups.mp (List.mem_of_mem_take hy); omega)
      refine Nat.le_trans this (Nat.mul_le_mul_right _ ?_)
      rw [List.length_take]; omega
    have hlx : ((rng (x + 1) n).map fun j => (x, j)).length ≤ n := (step x).resolve_right (by omega)
    have hbig : i * n + n ≤ 4000 * 4000 := by
      have : (i + 1) * n ≤ 4000 * 4000 := Nat.mul_le_mul (by omega) hn
      rw [Nat.succ_mul] at this; exact this
    refine ⟨_, rfl, ?_⟩
    refine ⟨rfl, e_bin ?_⟩
    trivial
    refine wp2_lock (o := .tra) (d := .lst ((((ups n).take i).flatMap fun i => (rng (i + 1) n).map fun j => (i, j)).map encP)) rfl (lc_pure ?_ hC)
    repeat trivial
    refine ⟨⟨by omega, by omega, by omega, by omega⟩, ?_, ?_⟩
    · rw [List.length_map, List.length_range]; omega
    rw [rng_map]
    refine lc_map hC (ea := D.int) (eb := encP) (rng (x + 1) n) (fun j => (x, j)) (fun j hj => ⟨_, rfl, ?_⟩) ?_
    · repeat trivial
    · refine ⟨?_, .all, .all, kidsO_solid (solid_pairs _), kidsO_solid (solid_pairs _), ?_⟩
      · rw [List.length_map, List.length_map]; omega
      refine ⟨_, rfl, some (nrm (itmO .sh) (.int x), .int x), w, ?_⟩
      rw [et, List.flatMap_append, List.map_append]
      simp
      rfl
  · rintro ρ ⟨v, w, rfl⟩
    have := h [some (.all, .int n)]
    rw [List.length_map, List.take_length]
    repeat trivial
/-- ties of a web of n places, each once -/
def GoodT (n : Int) (l : List (Int × Int)) : Prop := (∀ p ∈ l, 0 ≤ p.1 ∧ p.1 < p.2 ∧ p.2 < n) ∧ l.Nodup
theorem nodup_map {α β : Type} (f : α → β) : ∀ l : List α, (∀ a ∈ l, ∀ b ∈ l, f a = f b → a = b) → l.Nodup → (l.map f).Nodup
  | [], _, _ => List.nodup_nil
  | x :: l, h, hd => by
    rw [List.nodup_cons] at hd
    rw [List.map_cons, List.nodup_cons]
    refine ⟨fun hm => ?_, nodup_map f l (fun a ha b hb => h a (List.mem_cons_of_mem _ ha) b (List.mem_cons_of_mem _ hb)) hd.2⟩
    obtain ⟨y, hy, e⟩ := List.mem_map.mp hm
    have := h y (List.mem_cons_of_mem _ hy) x List.mem_cons_self e
    subst this
    exact hd.1 hy
theorem ups_nodup (n : Int) : (ups n).Nodup := nodup_map _ _ (fun a _ b _ e => Int.ofNat.inj e) List.nodup_range
theorem rng_nodup (a b : Int) : (rng a b).Nodup := nodup_map (fun k => a + Int.ofNat k) _ (fun x _ y _ (e : a + Int.ofNat x = a + Int.ofNat y) => Int.ofNat.inj (Int.add_left_cancel e)) List.nodup_range
theorem flat_nodup {α β : Type} (f : α → List β) : ∀ l : List α, (∀ a ∈ l, (f a).Nodup) → (∀ a ∈ l, ∀ b ∈ l, ∀ x, x ∈ f a → x ∈ f b → a = b) → l.Nodup → (l.flatMap f).Nodup
  | [], _, _, _ => List.nodup_nil
  | x :: l, h1, h2, hd => by
    rw [List.nodup_cons] at hd
    rw [List.flatMap_cons, List.nodup_append]
    refine ⟨h1 x List.mem_cons_self, flat_nodup f l (fun a ha => h1 a (List.mem_cons_of_mem _ ha)) (fun a ha b hb => h2 a (List.mem_cons_of_mem _ ha) b (List.mem_cons_of_mem _ hb)) hd.2, fun y hy z hz e => ?_⟩
    subst e
    obtain ⟨w, hw, hyw⟩ := List.mem_flatMap.mp hz
    have := h2 x List.mem_cons_self w (List.mem_cons_of_mem _ hw) y hy hyw
    subst this
    exact hd.1 hw
theorem goodT_pairs (n : Int) : GoodT n (pairsL n) := by
  refine ⟨fun p hp => mem_pairsL.mp hp, flat_nodup _ _ (fun i _ => nodup_map _ _ (fun a _ b _ e => (Prod.mk.inj e).2) (rng_nodup _ _)) (fun i _ j _ p hi hj => ?_) (ups_nodup n)⟩
  obtain ⟨_, _, rfl⟩ := List.mem_map.mp hi
  obtain ⟨_, _, e⟩ := List.mem_map.mp hj
  exact (Prod.mk.inj e).1.symm
theorem rgc_two {i j : Int} (h1 : -1000000 ≤ i) (h2 : i < 1000000) (h3 : -1000000 ≤ j) (h4 : j < 1000000) : RgC i j 2 ((j - i + 1) / 2).toNat := by
  have e : Builtin.Range.rangeSize i j 2 = (((j - i + 1) / 2).toNat : Int) := by
    unfold Builtin.Range.rangeSize
    rw [if_pos (by decide)]
    split <;> omega
  refine ⟨by decide, by decide, ?_, e⟩
  unfold Builtin.Range.small
  rw [e]
  simp only [Builtin.Range.rangeFitsLong, Bool.and_eq_true, Bool.or_eq_true, decide_eq_true_eq, beq_iff_eq]
  simp
  omega
theorem goodT_nil (n : Int) : GoodT n [] := ⟨fun p hp => by simp at hp, List.nodup_nil⟩
theorem pairsL_len (n : Nat) : (pairsL n).length ≤ n * n := by
  have := flat_len (fun i => (rng (i + 1) n).map fun j => (i, j)) n (ups n) fun y hy => by
    have := mem_ups.mp hy
    rw [List.length_map, rng_len]; omega
  rw [ups_len] at this
  exact this
/-- the name of a place -/
def nameOf (l : List Int) (i : Int) : Int := l.getD i.toNat 0
def reName (l : List Int) (p : Int × Int) : Int × Int := (if nameOf l p.2 < nameOf l p.1 then nameOf l p.2 else nameOf l p.1, if nameOf l p.2 > nameOf l p.1 then nameOf l p.2 else nameOf l p.1)
theorem nameOf_get {l : List Int} {i : Int} {n : Nat} (hl : l.Perm (ups n)) (h0 : 0 ≤ i) (h1 : i < n) : l[i.toNat]? = some (nameOf l i) ∧ 0 ≤ nameOf l i ∧ nameOf l i < n := by
  have hlen := hl.length_eq
  rw [ups_len] at hlen
  have hi : i.toNat < l.length := by omega
  have e : l[i.toNat]? = some (nameOf l i) := by
    unfold nameOf
    rw [List.getD_eq_getElem?_getD, List.getElem?_eq_getElem hi]; rfl
  have hm := hl.subset (List.mem_of_getElem? e)
  exact ⟨e, mem_ups.mp hm⟩
theorem nameOf_inj {l : List Int} {i j : Int} {n : Nat} (hl : l.Perm (ups n)) (h0 : 0 ≤ i) (h1 : i < n) (g0 : 0 ≤ j) (g1 : j < n) (e : nameOf l i = nameOf l j) : i = j := by
  have a := (nameOf_get hl h0 h1).1
  have b := (nameOf_get hl g0 g1).1
  rw [← e] at b
  have nd : l.Nodup := hl.nodup_iff.mpr (ups_nodup n)
  have := (List.getElem?_inj (List.getElem?_eq_some_iff.mp a).1 nd).mp (a.trans b.symm)
  omega
theorem goodT_rename {l : List Int} {n : Nat} {ts : List (Int × Int)} (hl : l.Perm (ups n)) (hg : GoodT n ts) : GoodT n (ts.map (reName l)) := by
  refine ⟨fun p hp => ?_, nodup_map _ _ (fun p hp q hq e => ?_) hg.2⟩
  · obtain ⟨q, hq, rfl⟩ := List.mem_map.mp hp
    obtain ⟨q0, q1, q2⟩ := hg.1 q hq
    have a := (nameOf_get hl q0 (by omega)).2
    have b := (nameOf_get hl (by omega : 0 ≤ q.2) q2).2
    have ne : nameOf l q.1 ≠ nameOf l q.2 := fun e => by
      have := nameOf_inj hl q0 (by omega) (by omega) q2 e
      omega
    unfold reName
    dsimp only
    split <;> split <;> omega
  · obtain ⟨p0, p1, p2⟩ := hg.1 p hp
    obtain ⟨q0, q1, q2⟩ := hg.1 q hq
    unfold reName at e
    have e1 := (Prod.mk.inj e).1
    have e2 := (Prod.mk.inj e).2
    have inj : ∀ {i j : Int}, 0 ≤ i → i < n → 0 ≤ j → j < n → nameOf l i = nameOf l j → i = j := fun h0 h1 g0 g1 e => nameOf_inj hl h0 h1 g0 g1 e
    have c1 := @inj p.1 q.1 p0 (by omega) q0 (by omega)
    have c2 := @inj p.1 q.2 p0 (by omega) (by omega) q2
    have c3 := @inj p.2 q.1 (by omega) p2 q0 (by omega)
    have c4 := @inj p.2 q.2 (by omega) p2 (by omega) q2
    have : p.1 = q.1 ∧ p.2 = q.2 := by
      split at e1 <;> split at e1 <;> split at e2 <;> split at e2 <;> (first | omega | exact ⟨c1 (by omega), c4 (by omega)⟩ | (have := c2 (by omega); have := c3 (by omega); omega))
    exact Prod.ext this.1 this.2
theorem GoodT.perm {n : Int} {a b : List (Int × Int)} (h : GoodT n a) (p : b.Perm a) : GoodT n b := ⟨fun q hq => h.1 q (p.subset hq), p.nodup_iff.mpr h.2⟩
theorem GoodT.sub {n : Int} {a b : List (Int × Int)} (h : GoodT n a) (p : b.Sublist a) : GoodT n b := ⟨fun q hq => h.1 q (p.subset hq), p.nodup h.2⟩
theorem slc_to {α β : Type} (f : α → β) (xs : List α) (m : Nat) {k : Int} (hk : k = m) : ((xs.map f).drop (HT.sIx (xs.map f).length 0 none)).take (HT.sIx (xs.map f).length (xs.map f).length (some k) - HT.sIx (xs.map f).length 0 none) = (xs.take m).map f := by
  subst hk
  rw [HT.sIx_none, HT.sIx_nat, List.drop_zero, Nat.sub_zero, List.map_take]
  rcases Nat.le_total m (xs.map f).length with h | h
  · rw [Nat.min_eq_left h]
  · rw [Nat.min_eq_right h, List.take_of_length_le (Nat.le_refl _), List.take_of_length_le h]
theorem atI_name {l : List Int} {i : Int} {n : Nat} (hl : l.Perm (ups n)) (h0 : 0 ≤ i) (h1 : i < n) : atI (l.map D.int) i = some (.int (nameOf l i)) := by
  have e : i = (i.toNat : Int) := by omega
  have := (nameOf_get hl h0 h1).1
  have h := atI_nat (xs := l.map D.int) (j := i.toNat) (by rw [List.getElem?_map, this]; rfl)
  rw [← e] at h
  exact h
end
end VH
namespace VH
open PySem PySem.Spec PyProof.Rows L2
local macro_rules | `(tactic| trivial) => `(tactic| first
  | exact rfl
  | refine ⟨⟨_, rfl⟩, ?_⟩
  | refine ⟨⟨_, _, rfl⟩, ?_⟩
  | refine ⟨_, _, rfl, ?_⟩
  | refine ⟨_, rfl, ?_⟩
  | refine ⟨_, _, _, _, _, rfl, rfl, rfl, rfl, ?_⟩
  | refine ⟨_, _, _, _, rfl, rfl, .inr rfl, rfl, ?_⟩
  | refine ⟨_, _, _, _, rfl, rfl, .inl rfl, rfl, ?_⟩
  | refine ⟨_, _, _, rfl, rfl, .inr rfl, rfl, ?_⟩
  | refine ⟨_, _, _, rfl, rfl, .inl rfl, rfl, ?_⟩
  | refine ⟨.inr ⟨by decide, by decide⟩, ?_⟩
  | refine ⟨by decide, by decide, ?_⟩
  | refine ⟨by decide, ?_⟩
  | refine ⟨Nat.le_of_ble_eq_true rfl, ?_⟩
  | refine ⟨List.nodup_nil, _, rfl, ?_⟩
  | refine ⟨nodup1 _, _, rfl, ?_⟩
  | refine ⟨nodup2 (by decide), _, rfl, ?_⟩
  | refine ⟨rfl, ?_⟩)
section
variable {Q : Ow → D → List (Option (Ow × D)) → Prop}
theorem web_ok {P : Tbl} {f a b c k : Nat} (ef : P[f]? = some (dWeb a b c)) (ea : P[a]? = some dDraw) (eb : P[b]? = some dPairs) (ec : P[c]? = some (dOrder a)) {fd : D} {n : Nat} (hf : Feed fd) (hn : n ≤ 100)
    (h : ∀ (fd' : D) (l : List (Int × Int)), Feed fd' → GoodT n l → l.length ≤ 40 → l.Pairwise lexLe → Q .all (.lst (l.map encP)) [some (.all, fd'), some (.all, .int n)]) : cal P (k + 3) f [(.all, fd), (.all, .int n)] Q := by
  have hC := cal_mono P (k + 2)
  have hsz : sizeLine = 16777216 := sizeLine_eq
  refine cal_of (dWeb a b c) ef rfl ?_
  repeat trivial
  refine draw_ok ea hf (by decide) (by decide) fun fd1 kind hf1 k0 k1 => ?_
  repeat trivial
  refine ⟨by omega, by omega, ?_, ?_⟩
  · rw [List.length_map, List.length_range]; omega
  rw [ups_map]
  refine lc_map hC (ea := D.int) (eb := encP) (ups (n - 1)) (fun k => (k, k + 1)) (fun x hx => ⟨_, rfl, ?_⟩) ?_
  · repeat trivial
  trivial
  have line_good : GoodT n ((ups (n - 1)).map fun k => (k, k + 1)) := by
    refine ⟨fun p hp => ?_, nodup_map _ _ (fun a _ b _ e => (Prod.mk.inj e).1) (ups_nodup _)⟩
    obtain ⟨x, hx, rfl⟩ := List.mem_map.mp hp
    have := mem_ups.mp hx
    exact ⟨this.1, by show x < x + 1; omega, by show x + 1 < n; omega⟩
  let I : VH.Env → Prop := fun ρ => ∃ (fd' : D) (ties : List (Int × Int)) (v4 v5 v6 v7 v8 v9 : Option (Ow × D)), ρ = [some (.all, fd'), some (.all, .int n), some (.all, .int kind), some (.all, .lst (ties.map encP)), v4, v5, v6, v7, v8, v9] ∧ Feed fd' ∧ GoodT n ties ∧ ties.length ≤ 10000
  have i0 : I [some (.all, fd1), some (.all, .int n), some (.all, .int kind), some (.all, .lst (((ups (n - 1)).map fun k => (k, k + 1)).map encP)), none, none, none, none, none, none] :=
    ⟨fd1, _, _, _, _, _, _, _, rfl, hf1, line_good, by rw [List.length_map, ups_len]; omega⟩
  refine wpSs_cut hC I ?_ ?_
  · -- kind 0
    refine s_ite hC (e_and hC ?_)
    repeat trivial
    refine ⟨fun hk => ?_, fun hk => ⟨_, rfl, fun h => (by rw [hk] at h; cases h), fun _ => i0⟩⟩
    repeat trivial
    refine ⟨fun hn2 => ?_, fun hn2 => i0⟩
    have hn2 := of_decide_eq_true hn2
    refine ⟨rfl, e_bin ?_⟩
    trivial
    refine wp2_lock (o := .tra) (d := .lst (((ups (n - 1)).map fun k => (k, k + 1)).map encP)) rfl ?_
    repeat trivial
    refine ⟨by rw [List.length_map, List.length_map, ups_len]; show _ + 1 ≤ _; omega, .all, .all, kidsO_solid (solid_pairs _), rfl, _, rfl, ?_⟩
    refine ⟨fd1, ((ups (n - 1)).map fun k => (k, k + 1)) ++ [(0, (n : Int) - 1)], none, none, none, none, none, none, ?_, hf1, ⟨fun p hp => ?_, ?_⟩, ?_⟩
    · rw [List.map_append]; rfl
    · rcases List.mem_append.mp hp with hp | hp
      · exact line_good.1 p hp
      · rw [List.mem_singleton] at hp
        subst hp
        exact ⟨Int.le_refl 0, by show (0 : Int) < n - 1; omega, by show (n : Int) - 1 < n; omega⟩
    · rw [List.nodup_append]
      refine ⟨line_good.2, by simp, fun x hx y hy e => ?_⟩
      rw [List.mem_singleton] at hy
      subst e; subst hy
      obtain ⟨z, hz, e⟩ := List.mem_map.mp hx
      have e1 := (Prod.mk.inj e).1
      have e2 := (Prod.mk.inj e).2
      omega
    · rw [List.length_append, List.length_map, ups_len]; show _ + 1 ≤ _; omega
  -- kind 1
  rintro ρ ⟨fd2, ties, v4, v5, v6, v7, v8, v9, rfl, hf2, hg, hl⟩
  refine wpSs_cut hC I ?_ ?_
  · refine s_ite hC ?_
    repeat trivial
    refine ⟨fun hk => ?_, fun hk => ⟨fd2, ties, v4, v5, v6, v7, v8, v9, rfl, hf2, hg, hl⟩⟩
    refine ⟨rfl, lc_pure ?_ hC⟩
    repeat trivial
    refine ⟨⟨by decide, by decide, by omega, by omega⟩, ?_, ?_⟩
    · rw [List.length_map, List.length_range]; omega
    rw [rng_map]
    refine lc_map hC (ea := D.int) (eb := encP) (rng 1 n) (fun k => (0, k)) (fun x hx => ⟨_, rfl, ?_⟩) ?_
    · repeat trivial
    refine ⟨_, rfl, fd2, _, v4, v5, v6, v7, v8, v9, rfl, hf2, ⟨fun p hp => ?_, nodup_map _ _ (fun a _ b _ e => (Prod.mk.inj e).2) (rng_nodup _ _)⟩, ?_⟩
    · obtain ⟨x, hx, rfl⟩ := List.mem_map.mp hp
      have := mem_rng.mp hx
      exact ⟨Int.le_refl 0, by show (0 : Int) < x; omega, this.2⟩
    · rw [List.length_map, rng_len]; omega
  -- kind 2
  rintro ρ ⟨fd2, ties, v4, v5, v6, v7, v8, v9, rfl, hf2, hg, hl⟩
  refine wpSs_cut hC I ?_ ?_
  · refine s_ite hC ?_
    repeat trivial
    refine ⟨fun hk => ?_, fun hk => ⟨fd2, ties, v4, v5, v6, v7, v8, v9, rfl, hf2, hg, hl⟩⟩
    refine ⟨rfl, lc_step hC ?_⟩
    repeat trivial
    refine ⟨⟨by decide, by decide, by omega, by omega⟩, ?_, ⟨by decide, by decide⟩, ?_⟩
    · rw [List.length_map, List.length_range]; omega
    rw [rng_map]
    refine lc_inv hC (fun i l ρ => ∃ (fd' : D) (tl : List (Int × Int)) (w : Option (Ow × D)), ρ = [some (.all, fd'), some (.all, .int n), some (.all, .int kind), some (.all, .lst (ties.map encP)), w, v5, v6, v7, v8, v9] ∧ Feed fd' ∧ l = tl.map encP ∧ tl.map (fun p => p.2) = (rng 1 n).take i ∧ ∀ p ∈ tl, 0 ≤ p.1 ∧ p.1 < p.2)
      ⟨fd2, [], v4, rfl, hf2, rfl, rfl, fun p hp => by simp at hp⟩ ?_ ?_
    · rintro i d l ρ hd ⟨fd', tl, w, rfl, hf', rfl, ht, hb⟩
      obtain ⟨x, hx, rfl⟩ : ∃ x, (rng 1 n)[i]? = some x ∧ d = .int x := by
        rw [List.getElem?_map] at hd
        cases h : (rng 1 n)[i]? with
        | none => rw [h] at hd; cases hd
        | some x => rw [h] at hd; exact ⟨x, rfl, (Option.some.inj hd).symm⟩
      have hx1 := mem_rng.mp (List.mem_of_getElem? hx)
      refine ⟨_, rfl, ?_⟩
      repeat trivial
      refine draw_ok ea hf' (by omega) (by omega) fun fd3 told hf3 t0 t1 => ?_
      refine ⟨_, rfl, ?_⟩
      repeat trivial
      refine ⟨fd3, tl ++ [(told, x)], solOf w, rfl, hf3, by rw [List.map_append]; rfl, ?_, fun p hp => ?_⟩
      · rw [List.map_append, ht, List.take_add_one, hx]; rfl
      · rcases List.mem_append.mp hp with hp | hp
        · exact hb p hp
        · rw [List.mem_singleton] at hp
          subst hp
          exact ⟨t0, t1⟩
    · rintro l ρ ⟨fd', tl, w, rfl, hf', rfl, ht, hb⟩
      rw [List.length_map, List.take_length] at ht
      refine ⟨_, rfl, fd', tl, w, v5, v6, v7, v8, v9, rfl, hf', ⟨fun p hp => ?_, ?_⟩, ?_⟩
      · have hm : p.2 ∈ rng 1 n := by rw [← ht]; exact List.mem_map.mpr ⟨p, hp, rfl⟩
        have := hb p hp
        exact ⟨this.1, this.2, (mem_rng.mp hm).2⟩
      · have h1 : (tl.map fun p => p.2).Nodup := by rw [ht]; exact rng_nodup _ _
        clear ht hb
        induction tl with
        | nil => exact List.nodup_nil
        | cons p r ih =>
          rw [List.map_cons, List.nodup_cons] at h1
          rw [List.nodup_cons]
          exact ⟨fun hm => h1.1 (List.mem_map.mpr ⟨p, hm, rfl⟩), ih h1.2⟩
      · have := congrArg List.length ht
        rw [List.length_map, rng_len] at this
        omega
  -- kind 3
  rintro ρ ⟨fd2, ties, v4, v5, v6, v7, v8, v9, rfl, hf2, hg, hl⟩
  refine wpSs_cut hC I ?_ ?_
  · refine s_ite hC ?_
    repeat trivial
    refine ⟨fun hk => ?_, fun hk => ⟨fd2, ties, v4, v5, v6, v7, v8, v9, rfl, hf2, hg, hl⟩⟩
    repeat trivial
    refine pairs_ok eb (by omega) fun outs => ?_
    refine ⟨_, rfl, fd2, pairsL n, v4, v5, v6, v7, v8, v9, rfl, hf2, goodT_pairs n, ?_⟩
    have := flat_len (fun i => (rng (i + 1) n).map fun j => (i, j)) n (ups n) fun y hy => by
      have := mem_ups.mp hy
      rw [List.length_map, rng_len]; omega
    rw [ups_len] at this
    have h2 : (n : Int).toNat * n ≤ 100 * 100 := Nat.mul_le_mul (by omega) hn
    exact Nat.le_trans this h2
  -- kind 4
  rintro ρ ⟨fd2, ties, v4, v5, v6, v7, v8, v9, rfl, hf2, hg, hl⟩
  refine wpSs_cut hC I ?_ ?_
  · refine s_ite hC ?_
    repeat trivial
    refine ⟨fun hk => ?_, fun hk => ⟨fd2, ties, v4, v5, v6, v7, v8, v9, rfl, hf2, hg, hl⟩⟩
    refine ⟨rfl, e_bin (lc_pure ?_ hC)⟩
    repeat trivial
    refine ⟨by omega, by omega, ?_, ?_⟩
    · rw [List.length_map, List.length_range]; omega
    rw [ups_map]
    refine lc_map hC (ea := D.int) (eb := encP) (ups (n - 2)) (fun k => (k, k + 2)) (fun x hx => ⟨_, rfl, ?_⟩) ?_
    · repeat trivial
    refine wp2_free rfl (lc_pure ?_ hC)
    repeat trivial
    refine ⟨(n : Int) - 1, _, rfl, rgc_two (by decide) (by decide) (by omega) (by omega), ?_, ?_⟩
    · rw [List.length_map, List.length_range]; omega
    have em : ∀ m : Nat, ((List.range m).map fun k => D.int (0 + Int.ofNat k * 2)) = ((List.range m).map fun k => (0 : Int) + Int.ofNat k * 2).map D.int := fun m => by rw [List.map_map]; rfl
    rw [em]
    refine lc_map hC (ea := D.int) (eb := encP) _ (fun k => (k, k + 1)) (fun x hx => ⟨_, rfl, ?_⟩) ?_
    · repeat trivial
    refine ⟨by rw [List.length_map, List.length_map, List.length_map, List.length_map, List.length_map, List.length_range, ups_len]; omega, .all, .all, kidsO_solid (solid_pairs _), kidsO_solid (solid_pairs _), _, rfl, ?_⟩
    refine ⟨fd2, (ups (n - 2)).map (fun k => (k, k + 2)) ++ (((List.range (((n : Int) - 1 - 0 + 1) / 2).toNat).map fun k => (0 : Int) + Int.ofNat k * 2).map fun k => (k, k + 1)), v4, v5, v6, v7, v8, v9, by rw [List.map_append]; rfl, hf2, ⟨fun p hp => ?_, ?_⟩, ?_⟩
    · rcases List.mem_append.mp hp with hp | hp
      · obtain ⟨x, hx, rfl⟩ := List.mem_map.mp hp
        have := mem_ups.mp hx
        exact ⟨this.1, by show x < x + 2; omega, by show x + 2 < n; omega⟩
      · obtain ⟨y, hy, rfl⟩ := List.mem_map.mp hp
        obtain ⟨x, hx, rfl⟩ := List.mem_map.mp hy
        rw [List.mem_range] at hx
        have e : Int.ofNat x = (x : Int) := rfl
        rw [e]
        exact ⟨by show (0 : Int) ≤ 0 + (x : Int) * 2; omega, by show (0 : Int) + (x : Int) * 2 < 0 + (x : Int) * 2 + 1; omega, by show (0 : Int) + (x : Int) * 2 + 1 < n; omega⟩
    · rw [List.nodup_append]
      refine ⟨nodup_map _ _ (fun a _ b _ e => (Prod.mk.inj e).1) (ups_nodup _), nodup_map _ _ (fun a _ b _ e => (Prod.mk.inj e).1) (nodup_map _ _ (fun a _ b _ e => ?_) List.nodup_range), fun x hx y hy e => ?_⟩
      · have e : (0 : Int) + (a : Int) * 2 = 0 + (b : Int) * 2 := e
        omega
      · subst e
        obtain ⟨z, _, e1⟩ := List.mem_map.mp hx
        obtain ⟨w, _, e2⟩ := List.mem_map.mp hy
        have e3 := e1.trans e2.symm
        have a1 := (Prod.mk.inj e3).1
        have a2 := (Prod.mk.inj e3).2
        omega
    · rw [List.length_append, List.length_map, List.length_map, List.length_map, List.length_range, ups_len]; omega
  -- drawn ties
  rintro ρ ⟨fd2, ties, v4, v5, v6, v7, v8, v9, rfl, hf2, hg, hl⟩
  refine wpSs_cut hC I ?_ ?_
  · refine s_ite hC ?_
    repeat trivial
    refine ⟨fun hk => ?_, fun hk => ⟨fd2, ties, v4, v5, v6, v7, v8, v9, rfl, hf2, hg, hl⟩⟩
    repeat trivial
    refine draw_ok ea hf2 (by decide) (by decide) fun fd3 share hf3 s0 s1 => ?_
    repeat trivial
    refine pairs_ok eb (by omega) fun outs => ?_
    refine ⟨⟨by decide, by decide⟩, ?_⟩
    refine fr_inv hC (fun i ρ => ∃ (fd' : D) (tl : List (Int × Int)) (v5 v6 : Option (Ow × D)), ρ = [some (.all, fd'), some (.all, .int n), some (.all, .int kind), some (.all, .lst (tl.map encP)), v4, some (.all, .int (1 + share)), v6, v7, v8, v9] ∧ Feed fd' ∧ tl.Sublist ((pairsL n).take i))
      ⟨fd3, [], v5, v6, rfl, hf3, List.Sublist.refl _⟩ ?_ ?_
    · rintro i d ρ hd ⟨fd', tl, v5, v6, rfl, hf', hs⟩
      obtain ⟨p, hp, rfl⟩ : ∃ p, (pairsL n)[i]? = some p ∧ d = encP p := by
        rw [List.getElem?_map] at hd
        cases h : (pairsL n)[i]? with
        | none => rw [h] at hd; cases hd
        | some x => rw [h] at hd; exact ⟨x, rfl, (Option.some.inj hd).symm⟩
      have et : (pairsL n).take (i + 1) = (pairsL n).take i ++ [p] := by
        rw [List.take_add_one, hp]; rfl
      refine ⟨_, rfl, ?_⟩
      refine st_ite hC ?_
      repeat trivial
      refine draw_ok ea hf' (by decide) (by decide) fun fd4 told hf4 t0 t1 => ?_
      repeat trivial
      refine ⟨fun hlt => ?_, fun hlt => ?_⟩
      · repeat trivial
        refine ⟨.all, _, .all, rfl, rfl, .inr rfl, ?_, ?_⟩
        · have := (hs.trans (List.take_sublist _ _)).length_le
          rw [List.length_map]
          have := pairsL_len n
          have h2 : n * n ≤ 100 * 100 := Nat.mul_le_mul hn hn
          omega
        · refine ⟨fd4, tl ++ [p], v5, some (.all, encP p), ?_, hf4, ?_⟩
          · show [_, _, _, some (_, D.lst _), _, _, _, _, _, _] = _
            rw [List.map_append]; rfl
          · rw [et]; exact List.Sublist.append hs (List.Sublist.refl _)
      · exact ⟨fd4, tl, v5, _, rfl, hf4, by rw [et]; exact hs.trans (List.sublist_append_left _ _)⟩
    · rintro ρ ⟨fd', tl, v5, v6, rfl, hf', hs⟩
      have hs2 : tl.Sublist (pairsL n) := hs.trans (List.take_sublist _ _)
      refine ⟨fd', tl, _, _, _, _, _, _, rfl, hf', ⟨fun p hp => (goodT_pairs n).1 p (hs2.subset hp), hs2.nodup (goodT_pairs n).2⟩, ?_⟩
      have := hs2.length_le
      have := pairsL_len n
      have h2 : n * n ≤ 100 * 100 := Nat.mul_le_mul hn hn
      omega
  rintro ρ ⟨fd2, ties, v4, v5, v6, v7, v8, v9, rfl, hf2, hg, hl⟩
  repeat trivial
  refine order_ok ec ea hf2 (by omega) (by omega) fun fd3 l hf3 hp => ?_
  have hlen := hp.length_eq
  rw [ups_len] at hlen
  repeat trivial
  refine ⟨.all, kidsO_solid (solid_pairs _), ?_⟩
  rw [slc_to encP ties 40 (k := 40) rfl]
  have hg4 : GoodT n (ties.take 40) := hg.sub (List.take_sublist _ _)
  have hl4 : (ties.take 40).length ≤ 40 := by rw [List.length_take]; omega
  refine ⟨by rw [List.length_map]; omega, ?_⟩
  rw [if_pos rfl]
  refine lc_map hC (ea := encP) (eb := encP) (ties.take 40) (reName l) (fun p hp4 => ⟨_, rfl, ?_⟩) ?_
  · obtain ⟨p0, p1, p2⟩ := hg4.1 p hp4
    have a1 := atI_name hp p0 (by omega)
    have a2 := atI_name hp (by omega : 0 ≤ p.2) p2
    repeat trivial
    refine ⟨_, a1, ?_⟩
    repeat trivial
    refine ⟨_, a2, ?_⟩
    repeat trivial
    refine ⟨_, a1, ?_⟩
    repeat trivial
    refine ⟨_, a2, ?_⟩
    repeat trivial
  · refine .inr ⟨_, toPairs_map _, fun ps hperm hsort => ?_⟩
    have hlp := hperm.length_eq
    rw [List.length_map] at hlp
    have := h fd3 ps hf3 ((goodT_rename hp hg4).perm hperm) (by omega) hsort
    repeat trivial
end
end VH
namespace VH
open PySem PySem.Spec PyProof.Rows L2
local macro_rules | `(tactic| trivial) => `(tactic| first
  | exact rfl
  | refine ⟨⟨_, rfl⟩, ?_⟩
  | refine ⟨⟨_, _, rfl⟩, ?_⟩
  | refine ⟨_, _, rfl, ?_⟩
  | refine ⟨_, rfl, ?_⟩
  | refine ⟨_, _, _, _, _, rfl, rfl, rfl, rfl, ?_⟩
  | refine ⟨_, _, _, _, rfl, rfl, .inr rfl, rfl, ?_⟩
  | refine ⟨_, _, _, _, rfl, rfl, .inl rfl, rfl, ?_⟩
  | refine ⟨_, _, _, rfl, rfl, .inr rfl, rfl, ?_⟩
  | refine ⟨_, _, _, rfl, rfl, .inl rfl, rfl, ?_⟩
  | refine ⟨.inr ⟨by decide, by decide⟩, ?_⟩
  | refine ⟨by decide, by decide, ?_⟩
  | refine ⟨by decide, ?_⟩
  | refine ⟨Nat.le_of_ble_eq_true rfl, ?_⟩
  | refine ⟨List.nodup_nil, _, rfl, ?_⟩
  | refine ⟨nodup1 _, _, rfl, ?_⟩
  | refine ⟨nodup2 (by decide), _, rfl, ?_⟩
  | refine ⟨rfl, ?_⟩)

/-- a comprehension with a test: those kept, each made anew -/
theorem lc_fm {C : CallS} (hC : MonoC C) {α β : Type} {ea : α → D} {eb : β → D} {o : Ow} {t : Tg} {c e : E} {ρ : Env} (xs : List α) (p : α → Bool) (g : α → β) {Q : Ow → List D → Env → Prop}
    (h : ∀ x ∈ xs, ∃ ρ2, bindT t (itmO o) (ea x) (wipeE (lock ρ) (tgs t)) = some ρ2 ∧ wpE C c ρ2 fun _ d ρ3 => truth d = some (p x) ∧ (p x = true → wpE C e ρ3 fun o' d' _ => chO o' d' = some .all ∧ d' = eb (g x))) (q : Q .all (((xs.filter p).map g).map eb) ρ) :
    wpLcL (pureT C o t (.some c) e) (xs.map ea) ρ Q := by
  refine lc_typed hC (k := .all) (eb := eb) xs (fun x => if p x = true then some (g x) else none) (fun x hx => ?_) (.inl rfl) fun k' hk' => ?_
  · obtain ⟨ρ2, e1, w⟩ := h x hx
    refine ⟨ρ2, e1, wpE_mono hC c _ _ _ (fun _ d ρ3 ⟨e2, w2⟩ => ⟨p x, e2, ?_⟩) w⟩
    cases hp : p x with
    | true =>
      rw [if_pos rfl, if_pos rfl]
      exact wpE_mono hC e _ _ _ (fun o' d' _ ⟨a, b⟩ => ⟨a, by rw [b]; rfl⟩) (w2 hp)
    | false => rfl
  · have : k' = .all := by rcases hk' with h | h <;> exact h
    rw [this]
    have e2 : xs.filterMap (fun x => if p x = true then some (g x) else none) = (xs.filter p).map g := by
      clear h q
      induction xs with
      | nil => rfl
      | cons x xs ih =>
        rw [List.filterMap_cons, List.filter_cons]
        cases hp : p x <;> simp [ih]
    rw [e2]
    exact q
/-- .. those kept, as they are -/
theorem lc_filter {C : CallS} (hC : MonoC C) {α : Type} {ea : α → D} {o : Ow} {t : Tg} {c e : E} {ρ : Env} (xs : List α) (p : α → Bool) {Q : Ow → List D → Env → Prop}
    (h : ∀ x ∈ xs, ∃ ρ2, bindT t (itmO o) (ea x) (wipeE (lock ρ) (tgs t)) = some ρ2 ∧ wpE C c ρ2 fun _ d ρ3 => truth d = some (p x) ∧ (p x = true → wpE C e ρ3 fun o' d' _ => chO o' d' = some .all ∧ d' = ea x)) (q : Q .all ((xs.filter p).map ea) ρ) :
    wpLcL (pureT C o t (.some c) e) (xs.map ea) ρ Q := lc_fm hC xs p (fun x => x) h (by rw [List.map_id']; exact q)
theorem s1_len {α : Type} {f : α → D} {xs : List α} {o : Ow} {Q : Ow → D → Prop} (q : Q .all (.int xs.length)) : sem1 .len o (.lst (xs.map f)) Q := by
  show Q .all (.int ((xs.map f).length : Nat))
  rw [List.length_map]; exact q
/-- an item by its index -/
theorem atI_gI {l : List Int} {i : Int} (h0 : 0 ≤ i) (h1 : i < l.length) : atI (l.map D.int) i = some (.int (nameOf l i)) := by
  have e : i = (i.toNat : Int) := by omega
  have hi : i.toNat < l.length := by omega
  have h := atI_nat (xs := l.map D.int) (j := i.toNat) (v := .int (nameOf l i)) (by
    rw [List.getElem?_map, List.getElem?_eq_getElem hi]
    unfold nameOf
    rw [List.getD_eq_getElem?_getD, List.getElem?_eq_getElem hi]; rfl)
  rw [← e] at h
  exact h
theorem atI_gA {α : Type} [Inhabited α] {f : α → D} {l : List α} {i : Int} (h0 : 0 ≤ i) (h1 : i < l.length) : atI (l.map f) i = some (f (l.getD i.toNat default)) := by
  have e : i = (i.toNat : Int) := by omega
  have hi : i.toNat < l.length := by omega
  have h := atI_nat (xs := l.map f) (j := i.toNat) (v := f (l.getD i.toNat default)) (by
    rw [List.getElem?_map, List.getElem?_eq_getElem hi, List.getD_eq_getElem?_getD, List.getElem?_eq_getElem hi]; rfl)
  rw [← e] at h
  exact h
theorem any_encP (p : Int × Int) (ps : List (Int × Int)) : ((ps.map encP).any fun z => deq z (encP p)) = decide (p ∈ ps) := (any_enc (α := Int × Int) p ps).trans (decide_eq_decide.mpr Iff.rfl)
theorem any_encI (p : Int) (ps : List Int) : ((ps.map D.int).any fun z => deq z (D.int p)) = decide (p ∈ ps) := (any_enc (α := Int) p ps).trans (decide_eq_decide.mpr Iff.rfl)
theorem ixN_of {n : Nat} {j : Int} (h0 : 0 ≤ j) (h1 : j < n) : ixN n j = some j.toNat := by
  unfold ixN
  rw [if_pos h0, if_pos h1]
def addAt (l : List Int) (i v : Int) : List Int := l.set i.toNat (nameOf l i + v)
theorem addAt_len (l : List Int) (i v : Int) : (addAt l i v).length = l.length := by unfold addAt; rw [List.length_set]
theorem augS_ints {C : CallS} {lk : Nat → Bool} {ρ : Env} {A : De} {i : Nat} {b e : E} {l : List Int} {j v : Int} {oi : Ow} (hb : ∀ K : KE, K .all (.int j) ρ → wpE C b ρ K) (he : ∀ K : KE, K .all (.int v) ρ → wpE C e ρ K)
    (e1 : ρ[i]? = some (some (oi, .lst (l.map D.int)))) (ho : oi = .one ∨ oi = .all) (h0 : 0 ≤ j) (h1 : j < l.length) (q : A.nx (ρ.set i (some (oi, .lst ((addAt l j v).map D.int))))) : wpS C lk (.augS i b .Add e) ρ A := by
  have ix : ixN (l.map D.int).length j = some j.toNat := by rw [List.length_map]; exact ixN_of h0 h1
  have eg : (l.map D.int)[j.toNat]? = some (.int (nameOf l j)) := by
    rw [List.getElem?_map, List.getElem?_eq_getElem (by omega : j.toNat < l.length)]
    unfold nameOf
    rw [List.getD_eq_getElem?_getD, List.getElem?_eq_getElem (by omega : j.toNat < l.length)]; rfl
  refine ⟨⟨_, e1⟩, hb _ ⟨oi, _, j, j.toNat, _, rfl, e1, ix, eg, he _ ⟨v, oi, _, rfl, e1, ho, ix, ?_⟩⟩⟩
  unfold addAt at q
  rw [List.map_set] at q
  exact q
theorem rep_ints (n : Nat) (x : Int) : (List.replicate n [D.int x]).flatten = (List.replicate n x).map D.int := by
  induction n with
  | zero => rfl
  | succ n ih => rw [List.replicate_succ, List.flatten_cons, ih, List.replicate_succ]; rfl
theorem small_of {i : Int} (h0 : 0 ≤ i) (h1 : i < 1000000000) : small i := ⟨by omega, by omega⟩
def tieOf (i j : Int) : Int × Int := (if j < i then j else i, if j > i then j else i)
def joined (ties : List (Int × Int)) (i j : Int) : Bool := decide (tieOf i j ∈ ties)
def dTie : Df where
  nm := (Str.ofString "tie_of")
  np := 2
  N := [(Str.ofString "i"), (Str.ofString "j")]
  lk := [0, 1]
  body := (.cons (.ret (.tup (.cons (.b2 .min_ (.var .pk 0) (.var .pk 1)) (.cons (.b2 .max_ (.var .pk 0) (.var .pk 1)) .nil)))) .nil)
def dJoined (a : Nat) : Df where
  nm := (Str.ofString "are_joined")
  np := 3
  N := [(Str.ofString "ties"), (Str.ofString "i"), (Str.ofString "j")]
  lk := [0, 1, 2]
  body := (.cons (.ret (.cmp .In (.callP a (.cons (.var .pk 1) (.cons (.var .pk 2) .nil))) (.var .pk 0))) .nil)
section
variable {Q : Ow → D → List (Option (Ow × D)) → Prop}
theorem tie_ok {P : Tbl} {f k : Nat} (ef : P[f]? = some dTie) {i j : Int} (q : ∀ outs, Q .all (encP (tieOf i j)) outs) : cal P (k + 1) f [(.all, .int i), (.all, .int j)] Q := by
  have hC := cal_mono P k
  refine cal_of dTie ef rfl ?_
  repeat trivial
  exact q _
theorem joined_ok {P : Tbl} {f a k : Nat} (ef : P[f]? = some (dJoined a)) (ea : P[a]? = some dTie) {o : Ow} {ties : List (Int × Int)} {i j : Int} (q : ∀ outs, Q .all (.bl (joined ties i j)) outs) : cal P (k + 2) f [(o, .lst (ties.map encP)), (.all, .int i), (.all, .int j)] Q := by
  have hC := cal_mono P (k + 1)
  refine cal_of (dJoined a) ef rfl ?_
  repeat trivial
  refine tie_ok ea fun outs => ?_
  repeat trivial
  refine ⟨plainL (α := Int × Int) ties, ?_⟩
  rw [any_encP]
  exact ⟨_, rfl, q _⟩
end
end VH
namespace VH
/-- all that is open behind some places -/
def freeL (n : Nat) (l : List Int) : List Int := (ups n).filter fun p => !decide (p ∈ l)
theorem mem_freeL {n : Nat} {l : List Int} {p : Int} : p ∈ freeL n l ↔ (0 ≤ p ∧ p < n) ∧ p ∉ l := by
  unfold freeL
  rw [List.mem_filter, mem_ups]
  simp
/-- the start of an order -/
def Pre (n : Nat) (l : List Int) : Prop := l.Nodup ∧ ∀ p ∈ l, 0 ≤ p ∧ p < (n : Int)
theorem Pre.nil {n : Nat} : Pre n [] := ⟨List.nodup_nil, fun p h => by simp at h⟩
theorem Pre.push {n : Nat} {l : List Int} {p : Int} (h : Pre n l) (hp : p ∈ freeL n l) : Pre n (l ++ [p]) := by
  rw [mem_freeL] at hp
  refine ⟨?_, fun q hq => ?_⟩
  · rw [List.nodup_append]
    exact ⟨h.1, by simp, fun a ha b hb e => by rw [List.mem_singleton] at hb; subst hb; subst e; exact hp.2 ha⟩
  · rcases List.mem_append.mp hq with hq | hq
    · exact h.2 q hq
    · rw [List.mem_singleton] at hq; subst hq; exact hp.1
theorem Pre.len {n : Nat} {l : List Int} (h : Pre n l) : l.length ≤ n := by
  have := List.Nodup.length_le_of_subset h.1 (l₂ := ups n) fun p hp => mem_ups.mpr (h.2 p hp)
  rw [ups_len] at this; omega
theorem Pre.perm {n : Nat} {l : List Int} (h : Pre n l) (hl : l.length = n) : l.Perm (ups n) := by
  refine (List.perm_ext_iff_of_nodup h.1 (ups_nodup n)).mpr fun p => ⟨fun hp => mem_ups.mpr (h.2 p hp), fun hp => ?_⟩
  rcases Decidable.em (p ∈ l) with g | g
  · exact g
  · have h2 : Pre n (l ++ [p]) := h.push (mem_freeL.mpr ⟨mem_ups.mp hp, g⟩)
    have := h2.len
    rw [List.length_append] at this
    simp at this; omega
theorem Pre.of_perm {n : Nat} {l : List Int} (h : l.Perm (ups n)) : Pre n l ∧ l.length = n := by
  refine ⟨⟨h.nodup_iff.mpr (ups_nodup n), fun p hp => mem_ups.mp (h.subset hp)⟩, ?_⟩
  rw [h.length_eq, ups_len]; omega
theorem Pre.left {n : Nat} {l r : List Int} (h : Pre n (l ++ r)) : Pre n l := ⟨(List.nodup_append.mp h.1).1, fun p hp => h.2 p (List.mem_append_left _ hp)⟩
theorem Pre.next {n : Nat} {l r : List Int} {p : Int} (h : Pre n (l ++ p :: r)) : p ∈ freeL n l := by
  refine mem_freeL.mpr ⟨h.2 p (List.mem_append_right _ List.mem_cons_self), fun hp => ?_⟩
  exact (List.nodup_append.mp h.1).2.2 p hp p List.mem_cons_self rfl
theorem Pre.some {n : Nat} {l : List Int} (h : Pre n l) (hl : l.length < n) : freeL n l ≠ [] := fun e => by
  have : ups n ⊆ l := fun p hp => by
    rcases Decidable.em (p ∈ l) with g | g
    · exact g
    · have : p ∈ freeL n l := mem_freeL.mpr ⟨mem_ups.mp hp, g⟩
      rw [e] at this; simp at this
  have := List.Nodup.length_le_of_subset (ups_nodup n) this
  rw [ups_len] at this; omega

/-- costs put together: a sum, or the greatest -/
structure Comb (op : Int → Int → Int) : Prop where
  mono : ∀ a b c, b ≤ c → op a b ≤ op a c
  assoc : ∀ a b c, op (op a b) c = op a (op b c)
theorem comb_add : Comb (· + ·) := ⟨fun a b c h => by show a + b ≤ a + c; omega, fun a b c => Int.add_assoc a b c⟩
theorem comb_max : Comb max := ⟨fun a b c h => by omega, fun a b c => by omega⟩
section
variable {op : Int → Int → Int} {n : Nat} {f B : List Int → Int}
/-- what going on so costs -/
def valL (op : Int → Int → Int) (f : List Int → Int) : List Int → List Int → Int
  | _, [] => 0
  | l, p :: r => op (f (l ++ [p])) (valL op f (l ++ [p]) r)
/-- the least, told step by step -/
structure IsBest (op : Int → Int → Int) (n : Nat) (f B : List Int → Int) : Prop where
  full : ∀ l, Pre n l → l.length = n → B l = 0
  step : ∀ l, Pre n l → l.length < n → B l = minI ((freeL n l).map fun p => op (f (l ++ [p])) (B (l ++ [p])))
theorem IsBest.le (O : Comb op) (h : IsBest op n f B) : ∀ (r l : List Int), Pre n (l ++ r) → (l ++ r).length = n → B l ≤ valL op f l r
  | [], l, hp, hl => by
    rw [List.append_nil] at hp hl
    rw [h.full l hp hl]; exact Int.le_refl _
  | p :: r, l, hp, hl => by
    have e : l ++ p :: r = (l ++ [p]) ++ r := by simp
    have ih := IsBest.le O h r (l ++ [p]) (by rw [← e]; exact hp) (by rw [← e]; exact hl)
    have hlt : l.length < n := by rw [List.length_append, List.length_cons] at hl; omega
    rw [h.step l hp.left hlt]
    exact Int.le_trans (minI_le (List.mem_map.mpr ⟨p, hp.next, rfl⟩)) (O.mono _ _ _ ih)
theorem IsBest.some (h : IsBest op n f B) : ∀ (k : Nat) (l : List Int), Pre n l → l.length + k = n → ∃ r, Pre n (l ++ r) ∧ (l ++ r).length = n ∧ valL op f l r = B l
  | 0, l, hp, hl => ⟨[], by rw [List.append_nil]; exact hp, by rw [List.append_nil]; omega, (h.full l hp (by omega)).symm⟩
  | k + 1, l, hp, hl => by
    have hne : ((freeL n l).map fun p => op (f (l ++ [p])) (B (l ++ [p]))) ≠ [] := fun e => hp.some (by omega) (by simpa using e)
    obtain ⟨p, hpf, e⟩ := List.mem_map.mp (minI_mem hne)
    rw [← h.step l hp (by omega)] at e
    obtain ⟨r, h1, h2, h3⟩ := IsBest.some h k (l ++ [p]) (hp.push hpf) (by rw [List.length_append]; simp; omega)
    have e2 : l ++ p :: r = (l ++ [p]) ++ r := by simp
    refine ⟨p :: r, by rw [e2]; exact h1, by rw [e2]; exact h2, ?_⟩
    show op _ (valL op f (l ++ [p]) r) = _
    rw [h3, e]
/-- the cost so far -/
def costL (op : Int → Int → Int) (f : List Int → Int) : List Int → List Int → Int → Int
  | _, [], c => c
  | l, p :: r, c => costL op f (l ++ [p]) r (op c (f (l ++ [p])))
/-- a place that keeps the least -/
def fitL (op : Int → Int → Int) (f B : List Int → Int) (l : List Int) (c : Int) (p : Int) : Prop := op (op c (f (l ++ [p]))) (B (l ++ [p])) = B []
/-- an order that is made place by place, each the first that keeps the least -/
inductive Greedy (op : Int → Int → Int) (n : Nat) (f B : List Int → Int) : List Int → Int → List Int → Prop where
  | done {l c} : l.length = n → Greedy op n f B l c []
  | step {l c p r} : p ∈ freeL n l → fitL op f B l c p → (∀ q ∈ freeL n l, q < p → ¬ fitL op f B l c q) → Greedy op n f B (l ++ [p]) (op c (f (l ++ [p]))) r → Greedy op n f B l c (p :: r)
theorem IsBest.fit_of (O : Comb op) (h : IsBest op n f B) {l r : List Int} {c : Int} {p : Int} (hc : ∀ r, op c (valL op f l r) = valL op f [] (l ++ r)) (hp : Pre n (l ++ p :: r)) (hl : (l ++ p :: r).length = n) (hv : valL op f [] (l ++ p :: r) = B []) : fitL op f B l c p := by
  have e : ∀ r, l ++ p :: r = (l ++ [p]) ++ r := fun r => by simp
  have hp2 : Pre n (l ++ [p]) := Pre.left (r := r) (by rw [← e]; exact hp)
  obtain ⟨r2, h1, h2, h3⟩ := h.some (n - (l ++ [p]).length) (l ++ [p]) hp2 (by have := hp2.len; omega)
  refine Int.le_antisymm ?_ ?_
  · rw [← hv, ← hc (p :: r), O.assoc]
    refine O.mono _ _ _ ?_
    show op _ _ ≤ op _ _
    exact O.mono _ _ _ (h.le O r (l ++ [p]) (by rw [← e]; exact hp) (by rw [← e]; exact hl))
  · have := h.le O ((l ++ [p]) ++ r2) [] h1 h2
    rw [← e, ← hc (p :: r2)] at this
    rw [O.assoc, ← h3]
    exact this
theorem IsBest.greedy_val (O : Comb op) (h : IsBest op n f B) : ∀ (r l : List Int) (c : Int), Greedy op n f B l c r → Pre n l → (∀ r, op c (valL op f l r) = valL op f [] (l ++ r)) → op c (B l) = B [] → Pre n (l ++ r) ∧ (l ++ r).length = n ∧ valL op f [] (l ++ r) = B []
  | [], l, c, g, hp, hc, hb => by
    cases g with
    | done hl =>
      refine ⟨by rw [List.append_nil]; exact hp, by rw [List.append_nil]; exact hl, ?_⟩
      rw [← hc [], ← hb, h.full l hp hl]; rfl
  | p :: r, l, c, g, hp, hc, hb => by
    cases g with
    | step hf ht _ g =>
      have e : ∀ r, l ++ p :: r = (l ++ [p]) ++ r := fun r => by simp
      rw [e]
      refine IsBest.greedy_val O h r (l ++ [p]) _ g (hp.push hf) (fun r => ?_) ht
      rw [O.assoc, ← e, ← hc (p :: r)]; rfl
/-- none before it is as good -/
theorem IsBest.greedy_first (O : Comb op) (h : IsBest op n f B) : ∀ (r l : List Int) (c : Int), Greedy op n f B l c r → (∀ r, op c (valL op f l r) = valL op f [] (l ++ r)) → ∀ r', Pre n (l ++ r') → (l ++ r').length = n → r' < r → valL op f [] (l ++ r') ≠ B []
  | [], l, c, g, hc, r', _, _, hlt, _ => by cases r' <;> cases hlt
  | p :: r, l, c, g, hc, [], hp, hl, hlt, hv => by
    cases g with
    | step hf ht hno g =>
      rw [List.append_nil] at hp hl
      have := (hp.push hf).len
      rw [List.length_append] at this
      simp at this; omega
  | p :: r, l, c, g, hc, q :: r', hp, hl, hlt, hv => by
    cases g with
    | step hf ht hno g =>
      rcases List.cons_lt_cons_iff.mp hlt with hq | ⟨rfl, hlt2⟩
      · exact hno q hp.next hq (h.fit_of O hc hp hl hv)
      · have e : ∀ r, l ++ q :: r = (l ++ [q]) ++ r := fun r => by simp
        refine IsBest.greedy_first O h r (l ++ [q]) _ g (fun r => ?_) r' (by rw [← e]; exact hp) (by rw [← e]; exact hl) hlt2 (by rw [← e]; exact hv)
        rw [O.assoc, ← e, ← hc (q :: r)]; rfl
end
def stepO (n : Nat) (os : List (List Int)) : List (List Int) := os.flatMap fun o => (freeL n o).map fun p => o ++ [p]
def ordersO (n : Nat) : Nat → List (List Int)
  | 0 => [[]]
  | k + 1 => stepO n (ordersO n k)
theorem ordersO_mem {n : Nat} : ∀ {k : Nat} {o : List Int}, o ∈ ordersO n k ↔ Pre n o ∧ o.length = k
  | 0, o => by
    show o ∈ [[]] ↔ _
    rw [List.mem_singleton]
    constructor
    · rintro rfl; exact ⟨Pre.nil, rfl⟩
    · intro h; exact List.length_eq_zero_iff.mp h.2
  | k + 1, o => by
    show o ∈ (ordersO n k).flatMap _ ↔ _
    rw [List.mem_flatMap]
    constructor
    · rintro ⟨l, hl, ho⟩
      obtain ⟨p, hp, rfl⟩ := List.mem_map.mp ho
      obtain ⟨h1, h2⟩ := ordersO_mem.mp hl
      exact ⟨h1.push hp, by rw [List.length_append, h2]; rfl⟩
    · rintro ⟨h1, h2⟩
      rcases List.eq_nil_or_concat o with rfl | ⟨l, p, rfl⟩
      · cases h2
      · rw [List.concat_eq_append] at h1 h2 ⊢
        rw [List.length_append] at h2
        exact ⟨l, ordersO_mem.mpr ⟨h1.left, by simpa using h2⟩, List.mem_map.mpr ⟨p, h1.next, rfl⟩⟩
theorem lt_push : ∀ {a b : List Int} {x y : Int}, a.length = b.length → a < b → a ++ [x] < b ++ [y]
  | [], [], _, _, _, h => by cases h
  | [], _ :: _, _, _, e, _ => by cases e
  | _ :: _, [], _, _, e, _ => by cases e
  | p :: a, q :: b, x, y, e, h => by
    rcases List.cons_lt_cons_iff.mp h with h | ⟨rfl, h2⟩
    · exact List.cons_lt_cons_iff.mpr (.inl h)
    · exact List.cons_lt_cons_iff.mpr (.inr ⟨rfl, lt_push (by simpa using e) h2⟩)
theorem lt_push_same : ∀ {a : List Int} {x y : Int}, x < y → a ++ [x] < a ++ [y]
  | [], x, y, h => List.cons_lt_cons_iff.mpr (.inl h)
  | p :: a, x, y, h => List.cons_lt_cons_iff.mpr (.inr ⟨rfl, lt_push_same h⟩)
theorem ups_sorted (n : Nat) : (ups n).Pairwise (· < ·) := by
  unfold ups
  rw [List.pairwise_map]
  exact List.pairwise_lt_range.imp fun h => by show Int.ofNat _ < Int.ofNat _; exact Int.ofNat_lt.mpr h
theorem flat_pw {α β : Type} {R : β → β → Prop} (f : α → List β) : ∀ (l : List α), (∀ a ∈ l, (f a).Pairwise R) → l.Pairwise (fun a b => ∀ x ∈ f a, ∀ y ∈ f b, R x y) → (l.flatMap f).Pairwise R
  | [], _, _ => List.Pairwise.nil
  | a :: l, h1, h2 => by
    rw [List.flatMap_cons, List.pairwise_append]
    rw [List.pairwise_cons] at h2
    refine ⟨h1 a List.mem_cons_self, flat_pw f l (fun b hb => h1 b (List.mem_cons_of_mem _ hb)) h2.2, fun x hx y hy => ?_⟩
    obtain ⟨b, hb, hy⟩ := List.mem_flatMap.mp hy
    exact h2.1 b hb x hx y hy
theorem ordersO_sorted {n : Nat} : ∀ k : Nat, (ordersO n k).Pairwise (· < ·)
  | 0 => List.pairwise_singleton _ _
  | k + 1 => by
    refine flat_pw _ _ (fun o ho => ?_) ?_
    · rw [List.pairwise_map]
      exact (List.Pairwise.filter _ (ups_sorted n)).imp fun h => lt_push_same h
    · refine (ordersO_sorted k).imp_of_mem fun {a b} ha hb h x hx y hy => ?_
      obtain ⟨p, _, rfl⟩ := List.mem_map.mp hx
      obtain ⟨q, _, rfl⟩ := List.mem_map.mp hy
      exact lt_push (by rw [(ordersO_mem.mp ha).2, (ordersO_mem.mp hb).2]) h
/-- the least and the first that has it -/
def bestGo {α : Type} (g : α → Int) (b : Option (Int × α)) (x : α) : Option (Int × α) := match b with
  | none => some (g x, x)
  | some b => if g x < b.1 then some (g x, x) else some b
theorem bestGo_keep {α : Type} {g : α → Int} {m : Int} {o : α} : ∀ {xs : List α}, (∀ x ∈ xs, m ≤ g x) → xs.foldl (bestGo g) (some (m, o)) = some (m, o)
  | [], _ => rfl
  | x :: xs, h => by
    rw [List.foldl_cons]
    have : bestGo g (some (m, o)) x = some (m, o) := by
      unfold bestGo
      dsimp only
      rw [if_neg (by have := h x List.mem_cons_self; omega)]
    rw [this]
    exact bestGo_keep fun y hy => h y (List.mem_cons_of_mem _ hy)
theorem bestGo_first {α : Type} {g : α → Int} {o : α} : ∀ {xs : List α} {b : Option (Int × α)}, (∀ b', b = some b' → g o < b'.1) → (∃ l r, xs = l ++ o :: r ∧ (∀ x ∈ l, g o < g x) ∧ ∀ x ∈ r, g o ≤ g x) → xs.foldl (bestGo g) b = some (g o, o) := by
  rintro xs b hb ⟨l, r, rfl, hl, hr⟩
  induction l generalizing b with
  | nil =>
    rw [List.nil_append, List.foldl_cons]
    have : bestGo g b o = some (g o, o) := by
      unfold bestGo
      cases b with
      | none => rfl
      | some b => dsimp only; rw [if_pos (hb b rfl)]
    rw [this]
    exact bestGo_keep hr
  | cons x l ih =>
    rw [List.cons_append, List.foldl_cons]
    refine ih (fun b' e => ?_) fun y hy => hl y (List.mem_cons_of_mem _ hy)
    have hx := hl x List.mem_cons_self
    unfold bestGo at e
    cases b with
    | none => cases e; exact hx
    | some b =>
      dsimp only at e
      split at e
      · cases e; exact hx
      · cases e; exact hb b' rfl
/-- over all orders: an order that none is better than, and none before it as good -/
theorem orders_best {n : Nat} {g : List Int → Int} {o : List Int} (ho : Pre n o) (hl : o.length = n) (hmin : ∀ o', Pre n o' → o'.length = n → g o ≤ g o') (hfirst : ∀ o', Pre n o' → o'.length = n → o' < o → g o' ≠ g o) : (ordersO n n).foldl (bestGo g) none = some (g o, o) := by
  refine bestGo_first (fun b' e => by cases e) ?_
  obtain ⟨l, r, e⟩ := List.append_of_mem (ordersO_mem.mpr ⟨ho, hl⟩)
  have hs := ordersO_sorted (n := n) n
  rw [e, List.pairwise_append] at hs
  refine ⟨l, r, e, fun x hx => ?_, fun x hx => ?_⟩
  · obtain ⟨h1, h2⟩ := ordersO_mem.mp (show x ∈ ordersO n n by rw [e]; exact List.mem_append_left _ hx)
    have h3 := hmin x h1 h2
    have h4 := hfirst x h1 h2 (hs.2.2 x hx o List.mem_cons_self)
    omega
  · obtain ⟨h1, h2⟩ := ordersO_mem.mp (show x ∈ ordersO n n by rw [e]; exact List.mem_append_right _ (List.mem_cons_of_mem _ hx))
    exact hmin x h1 h2
end VH
namespace VH
open PySem PySem.Spec PyProof.Rows L2

/-- a way from p to q whose inner places are in S -/
inductive RP (A : Int → Int → Bool) (S : Int → Prop) : Int → Int → Prop where
  | base {p q : Int} : A p q = true → RP A S p q
  | step {p r q : Int} : A p r = true → S r → RP A S r q → RP A S p q
section
variable {A : Int → Int → Bool} {S S' : Int → Prop} {p q r x : Int}
theorem RP.mono (h : ∀ r, S r → S' r) (t : RP A S p q) : RP A S' p q := by
  induction t with
  | base e => exact .base e
  | step e s _ ih => exact .step e (h _ s) ih
theorem RP.trans (hx : S x) (u : RP A S p x) (t : RP A S x q) : RP A S p q := by
  induction u with
  | base e => exact .step e hx t
  | step e s _ ih => exact .step e s (ih hx t)
theorem RP.symm (sy : ∀ a b, A a b = A b a) (t : RP A S p q) : RP A S q p := by
  induction t with
  | base e => exact .base (by rw [sy]; exact e)
  | step e s _ ih => exact RP.trans s ih (.base (by rw [sy]; exact e))
/-- one more place gone -/
theorem RP.more : RP A (fun r => S r ∨ r = x) p q ↔ RP A S p q ∨ (RP A S p x ∧ RP A S x q) := by
  constructor
  · intro h
    induction h with
    | base e => exact .inl (.base e)
    | @step p r q e s u ih =>
      rcases s with s | rfl
      · rcases ih with h | ⟨h1, h2⟩
        · exact .inl (.step e s h)
        · exact .inr ⟨.step e s h1, h2⟩
      · rcases ih with h | ⟨_, h2⟩
        · exact .inr ⟨.base e, h⟩
        · exact .inr ⟨.base e, h2⟩
  · rintro (h | ⟨h1, h2⟩)
    · exact h.mono fun _ => .inl
    · exact RP.trans (.inr rfl) (h1.mono fun _ => .inl) (h2.mono fun _ => .inl)
end
/-- one place off: its neighbours are joined -/
def stepA (A : Int → Int → Bool) (x : Int) : Int → Int → Bool := fun p q => A p q || (A p x && A x q && decide (p ≠ q))
/-- places off -/
def elimA (A : Int → Int → Bool) (l : List Int) : Int → Int → Bool := l.foldl stepA A
theorem elimA_push (A : Int → Int → Bool) (l : List Int) (x : Int) : elimA A (l ++ [x]) = stepA (elimA A l) x := by unfold elimA; rw [List.foldl_append]; rfl
theorem elimA_cons (A : Int → Int → Bool) (x : Int) (l : List Int) : elimA A (x :: l) = elimA (stepA A x) l := rfl
theorem snoc_ind {α : Type} {P : List α → Prop} (h0 : P []) (h1 : ∀ l x, P l → P (l ++ [x])) : ∀ l, P l := fun l => by
  have : ∀ n (l : List α), l.length = n → P l := by
    intro n
    induction n with
    | zero => intro l e; rw [List.length_eq_zero_iff] at e; rw [e]; exact h0
    | succ n ih =>
      intro l e
      have hne : l ≠ [] := fun z => by rw [z] at e; simp at e
      rw [← List.dropLast_concat_getLast hne]
      exact h1 _ _ (ih _ (by rw [List.length_dropLast]; omega))
  exact this _ l rfl
theorem elim_rp (A : Int → Int → Bool) : ∀ (l : List Int) {p q : Int}, p ≠ q → (elimA A l p q = true ↔ RP A (· ∈ l) p q) := by
  intro l
  induction l using snoc_ind with
  | h0 =>
    intro p q hpq
    constructor
    · exact .base
    · intro h
      cases h with
      | base e => exact e
      | step _ s _ => simp at s
  | h1 l x ih =>
    intro p q hpq
    have em : (fun r => r ∈ l ++ [x]) = fun r => r ∈ l ∨ r = x := by funext r; simp
    rw [elimA_push, show RP A (· ∈ l ++ [x]) p q = RP A (fun r => r ∈ l ∨ r = x) p q from by rw [← em], RP.more]
    unfold stepA
    rw [Bool.or_eq_true, Bool.and_eq_true, Bool.and_eq_true, decide_eq_true_eq, ih hpq]
    constructor
    · rintro (h | ⟨⟨h1, h2⟩, _⟩)
      · exact .inl h
      · by_cases e1 : p = x
        · subst e1; exact .inl ((ih hpq).mp h2)
        · by_cases e2 : x = q
          · subst e2; exact .inl ((ih hpq).mp h1)
          · exact .inr ⟨(ih e1).mp h1, (ih e2).mp h2⟩
    · rintro (h | ⟨h1, h2⟩)
      · exact .inl h
      · by_cases e1 : p = x
        · subst e1; exact .inl h2
        · by_cases e2 : x = q
          · subst e2; exact .inl h1
          · exact .inr ⟨⟨(ih e1).mpr h1, (ih e2).mpr h2⟩, hpq⟩
/-- which places were gone first matters not -/
theorem elim_set {A : Int → Int → Bool} {l l' : List Int} (h : ∀ r, r ∈ l ↔ r ∈ l') {p q : Int} (hpq : p ≠ q) : elimA A l p q = elimA A l' p q := by
  rw [Bool.eq_iff_iff, elim_rp A l hpq, elim_rp A l' hpq]
  exact ⟨fun w => w.mono fun r => (h r).mp, fun w => w.mono fun r => (h r).mpr⟩
/-- the neighbours left of a place, others being gone -/
def leftL (n : Nat) (A : Int → Int → Bool) (l : List Int) (x : Int) : List Int := (ups n).filter fun q => !decide (q ∈ l) && decide (q ≠ x) && elimA A l x q
theorem leftL_set {n : Nat} {A : Int → Int → Bool} {l l' : List Int} (h : ∀ r, r ∈ l ↔ r ∈ l') (x : Int) : leftL n A l x = leftL n A l' x := by
  unfold leftL
  refine List.filter_congr fun q _ => ?_
  by_cases hx : q = x
  · subst hx; simp
  · rw [elim_set h (fun e => hx e.symm)]
    congr 2
    rw [decide_eq_decide.mpr (h q)]
/-- for each place of an order the neighbours left -/
def leftsL (n : Nat) (A : Int → Int → Bool) : List Int → List Int → List (List Int)
  | _, [] => []
  | l, x :: r => leftL n A l x :: leftsL n A (l ++ [x]) r
/-- the number of neighbours left of the last place of a list, those before it being gone -/
def jw (n : Nat) (A : Int → Int → Bool) (l : List Int) : Int := ((leftL n A l.dropLast (l.getLastD 0)).length : Nat)
theorem jw_push {n : Nat} {A : Int → Int → Bool} {l : List Int} {p : Int} : jw n A (l ++ [p]) = ((leftL n A l p).length : Nat) := by
  unfold jw
  rw [List.dropLast_concat]
  congr 2
  simp
theorem jw_nonneg (n : Nat) (A : Int → Int → Bool) (l : List Int) : 0 ≤ jw n A l := by unfold jw; omega
/-- the width of an order -/
def widL (n : Nat) (A : Int → Int → Bool) (o : List Int) : Int := valL max (jw n A) [] o
theorem wid_lefts {n : Nat} {A : Int → Int → Bool} : ∀ (r l : List Int), valL max (jw n A) l r = ((leftsL n A l r).map fun x => (x.length : Int)).foldr max 0
  | [], _ => rfl
  | x :: r, l => by
    show max (jw n A (l ++ [x])) (valL max (jw n A) (l ++ [x]) r) = _
    rw [wid_lefts r (l ++ [x]), jw_push]
    rfl
theorem foldr_max : ∀ (xs : List Int), (∀ x ∈ xs, 0 ≤ x) → xs.foldr max 0 = if xs = [] then 0 else maxI xs
  | [], _ => rfl
  | x :: xs, h => by
    have ih := foldr_max xs fun y hy => h y (List.mem_cons_of_mem _ hy)
    rw [if_neg (by simp)]
    show max x (xs.foldr max 0) = _
    rw [ih]
    refine maxI_eq ?_ fun y hy => ?_
    · split
      · rename_i e; subst e
        have := h x List.mem_cons_self
        rw [show max x 0 = x by omega]; exact List.mem_cons_self
      · rename_i hne
        have := maxI_mem hne
        by_cases hx : x ≤ maxI xs
        · rw [show max x (maxI xs) = maxI xs by omega]; exact List.mem_cons_of_mem _ this
        · rw [show max x (maxI xs) = x by omega]; exact List.mem_cons_self
    · rcases List.mem_cons.mp hy with rfl | hy
      · omega
      · split
        · rename_i e; subst e; simp at hy
        · have := maxI_ge hy; omega

theorem leftL_mem {n : Nat} {A : Int → Int → Bool} {l : List Int} {x q : Int} : q ∈ leftL n A l x ↔ (0 ≤ q ∧ q < n) ∧ q ∉ l ∧ q ≠ x ∧ RP A (· ∈ l) x q := by
  unfold leftL
  rw [List.mem_filter, mem_ups, Bool.and_eq_true, Bool.and_eq_true, Bool.not_eq_true', decide_eq_false_iff_not, decide_eq_true_eq]
  constructor
  · rintro ⟨a, ⟨b, c⟩, d⟩; exact ⟨a, b, c, (elim_rp A l fun e => c e.symm).mp d⟩
  · rintro ⟨a, b, c, d⟩; exact ⟨a, ⟨b, c⟩, (elim_rp A l fun e => c e.symm).mpr d⟩
theorem leftL_nodup {n : Nat} {A : Int → Int → Bool} {l : List Int} {x : Int} : (leftL n A l x).Nodup := List.Pairwise.filter _ (ups_nodup n)
/-- reachable through those gone: some place gone, or the place itself, is joined to it -/
theorem RP.last {A : Int → Int → Bool} {S : Int → Prop} {p q : Int} (h : RP A S p q) : ∃ r, (r = p ∨ S r) ∧ A r q = true := by
  induction h with
  | base e => exact ⟨_, .inl rfl, e⟩
  | step e s u ih =>
    obtain ⟨r, hr, ha⟩ := ih
    rcases hr with rfl | hr
    · exact ⟨_, .inr s, ha⟩
    · exact ⟨r, .inr hr, ha⟩
end VH
namespace VH
open PySem PySem.Spec PyProof.Rows L2
local macro_rules | `(tactic| trivial) => `(tactic| first
  | exact rfl
  | refine ⟨⟨_, rfl⟩, ?_⟩
  | refine ⟨⟨_, _, rfl⟩, ?_⟩
  | refine ⟨_, _, rfl, ?_⟩
  | refine ⟨_, rfl, ?_⟩
  | refine ⟨_, _, _, _, _, rfl, rfl, rfl, rfl, ?_⟩
  | refine ⟨_, _, _, _, rfl, rfl, .inr rfl, rfl, ?_⟩
  | refine ⟨_, _, _, _, rfl, rfl, .inl rfl, rfl, ?_⟩
  | refine ⟨_, _, _, rfl, rfl, .inr rfl, rfl, ?_⟩
  | refine ⟨_, _, _, rfl, rfl, .inl rfl, rfl, ?_⟩
  | refine ⟨.inr ⟨by decide, by decide⟩, ?_⟩
  | refine ⟨by decide, by decide, ?_⟩
  | refine ⟨by decide, ?_⟩
  | refine ⟨Nat.le_of_ble_eq_true rfl, ?_⟩
  | refine ⟨List.nodup_nil, _, rfl, ?_⟩
  | refine ⟨nodup1 _, _, rfl, ?_⟩
  | refine ⟨nodup2 (by decide), _, rfl, ?_⟩
  | refine ⟨rfl, ?_⟩)
abbrev lD (l : List Int) : D := .lst (l.map D.int)
abbrev tD (l : List (Int × Int)) : D := .lst (l.map encP)

theorem fr_pre {C : CallS} (hC : MonoC C) {α : Type} {ea : α → D} {lk : Nat → Bool} {t : Tg} {o : Ow} {sb : Sms} {A : De} {xs : List α} {ρ : VH.Env} (I : List α → VH.Env → Prop) (h0 : I [] ρ)
    (step : ∀ (pre : List α) (x : α) (post : List α) (ρ : VH.Env), xs = pre ++ x :: post → I pre ρ → ∃ ρ1, bindT t (itmO o) (ea x) ρ = some ρ1 ∧ wpSs C lk sb ρ1 ⟨I (pre ++ [x]), A.rt, A.nx, I (pre ++ [x])⟩) (fin : ∀ ρ, I xs ρ → A.nx ρ) :
    wpFor (fun ρ A => wpSs C lk sb ρ A) (bindT t (itmO o)) A (xs.map ea) ρ := by
  refine fr_inv hC (fun i ρ => I (xs.take i) ρ) (by rw [List.take_zero]; exact h0) (fun i d ρ hd hi => ?_) fun ρ h => fin ρ (by rw [List.length_map, List.take_length] at h; exact h)
  rw [List.getElem?_map] at hd
  cases hx : xs[i]? with
  | none => rw [hx] at hd; cases hd
  | some x =>
    rw [hx] at hd
    obtain ⟨h1, h2⟩ := List.getElem?_eq_some_iff.mp hx
    obtain ⟨ρ1, e, w⟩ := step (xs.take i) x (xs.drop (i + 1)) ρ (by
      conv => lhs; rw [← List.take_append_drop i xs]
      rw [List.drop_eq_getElem_cons h1, h2]) hi
    refine ⟨ρ1, by rw [← Option.some.inj hd]; exact e, ?_⟩
    rw [show xs.take (i + 1) = xs.take i ++ [x] by rw [List.take_succ, hx]; rfl]
    exact w

theorem r_dset {C : CallS} {lk : Nat → Bool} {ss : Sms} {ρ : VH.Env} {A : De} {i : Nat} {b e : E} (w : wpE C e ρ fun o d ρ1 => ∃ k oi kvs key, chO o d = some k ∧ ρ1[i]? = some (some (oi, .dK kvs)) ∧ (oi = .one ∨ oi = .all) ∧ (wpE C b (lock ρ1) fun _ dk _ => keyOf dk = some key) ∧
      kvs.length < sizeLine ∧ (oi = .all → k = .all → (kvs.map (·.1)).Nodup) ∧ wpSs C lk ss (ρ1.set i (some (setOw oi k, .dK (putD kvs key d)))) A) : wpSs C lk (.cons (.dset i b e) ss) ρ A := w
def updN (N : Int → List Int) (p : Int) (l : List Int) : Int → List Int := fun q => if q = p then l else N q
def encN (ks : List Int) (N : Int → List Int) : List (Key × D) := ks.map fun p => (.inl p, lD (N p))
theorem encN_congr {ks : List Int} {N N' : Int → List Int} (h : ∀ p ∈ ks, N p = N' p) : encN ks N = encN ks N' := List.map_congr_left fun p hp => by rw [h p hp]
theorem encN_keys (ks : List Int) (N : Int → List Int) : (encN ks N).map (·.1) = ks.map Sum.inl := by unfold encN; rw [List.map_map]; rfl
theorem encN_nodup {ks : List Int} {N : Int → List Int} (h : ks.Nodup) : ((encN ks N).map (·.1)).Nodup := by
  rw [encN_keys]
  exact nodup_map _ _ (fun a _ b _ e => Sum.inl.inj e) h
theorem encN_any {ks : List Int} {N : Int → List Int} {p : Int} : ((encN ks N).any fun kv => decide (kv.1 = (Sum.inl p : Key))) = decide (p ∈ ks) := by
  rw [Bool.eq_iff_iff, List.any_eq_true, decide_eq_true_eq]
  constructor
  · rintro ⟨x, hx, e⟩
    obtain ⟨q, hq, rfl⟩ := List.mem_map.mp hx
    have := Sum.inl.inj (of_decide_eq_true e)
    rw [← this]; exact hq
  · intro h
    exact ⟨_, List.mem_map.mpr ⟨p, h, rfl⟩, by simp⟩
theorem getK_encN {N : Int → List Int} {p : Int} : ∀ {ks : List Int}, p ∈ ks → getK (encN ks N) (.inl p) = some (lD (N p))
  | [], h => by simp at h
  | q :: ks, h => by
    show getK ((Sum.inl q, lD (N q)) :: encN ks N) _ = _
    by_cases e : q = p
    · rw [getK_pos (by rw [e]), e]
    · rw [getK_neg (fun z => e (Sum.inl.inj z))]
      exact getK_encN (by rcases List.mem_cons.mp h with h | h; exact absurd h.symm e; exact h)
theorem getK_encN_no {N : Int → List Int} {p : Int} : ∀ {ks : List Int}, p ∉ ks → getK (encN ks N) (.inl p) = none
  | [], h => rfl
  | q :: ks, h => by
    show getK ((Sum.inl q, lD (N q)) :: encN ks N) _ = _
    rw [getK_neg (fun z => h (by rw [← Sum.inl.inj z]; exact List.mem_cons_self))]
    exact getK_encN_no fun z => h (List.mem_cons_of_mem _ z)
theorem putD_encN {ks : List Int} {N : Int → List Int} {p : Int} {l : List Int} (h : p ∈ ks) : putD (encN ks N) (.inl p) (lD l) = encN ks (updN N p l) := by
  unfold putD
  rw [encN_any, if_pos (by simpa using h)]
  unfold encN
  rw [List.map_map]
  refine List.map_congr_left fun q _ => ?_
  show (if (Sum.inl q : Key) = Sum.inl p then (Sum.inl q, lD l) else (Sum.inl q, lD (N q))) = (Sum.inl q, lD (if q = p then l else N q))
  by_cases e : q = p
  · rw [if_pos (by rw [e]), if_pos e]
  · rw [if_neg (fun z => e (Sum.inl.inj z)), if_neg e]
theorem setD_encN {N : Int → List Int} {p : Int} {l : List Int} : ∀ {ks : List Int}, ks.Nodup → p ∈ ks → setD (.inl p) (lD l) (encN ks N) = encN ks (updN N p l)
  | [], _, h => by simp at h
  | q :: ks, nd, h => by
    rw [List.nodup_cons] at nd
    show (if (Sum.inl q : Key) = Sum.inl p then (Sum.inl p, lD l) :: encN ks N else (Sum.inl q, lD (N q)) :: setD (.inl p) (lD l) (encN ks N)) = (Sum.inl q, lD (if q = p then l else N q)) :: encN ks (updN N p l)
    by_cases e : q = p
    · subst e
      rw [if_pos rfl, if_pos rfl]
      rw [encN_congr (N' := updN N q l) fun r hr => by unfold updN; rw [if_neg (fun z => nd.1 (by rw [← z]; exact hr))]]
    · rw [if_neg (fun z => e (Sum.inl.inj z)), if_neg e, setD_encN nd.2 (by rcases List.mem_cons.mp h with h | h; exact absurd h.symm e; exact h)]
theorem dropD_encN {ks : List Int} {N : Int → List Int} {p : Int} : dropD (encN ks N) (.inl p) = encN (ks.filter fun q => !decide (q = p)) N := by
  unfold dropD encN
  rw [List.filter_map]
  congr 1
  refine List.filter_congr fun q _ => ?_
  show decide ((Sum.inl q : Key) ≠ Sum.inl p) = !decide (q = p)
  by_cases e : q = p
  · subst e; simp
  · have : (Sum.inl q : Key) ≠ Sum.inl p := fun z => e (Sum.inl.inj z)
    simp [e, this]
theorem putD_new {kvs : List (Key × D)} {k : Key} {d : D} (h : k ∉ kvs.map (·.1)) : putD kvs k d = kvs ++ [(k, d)] := by
  unfold putD
  rw [if_neg]
  intro z
  obtain ⟨p, hp, e⟩ := List.any_eq_true.mp z
  exact h (List.mem_map.mpr ⟨p, hp, of_decide_eq_true e⟩)
/-- a dict comprehension over different ints, each value new -/
theorem dcl_ints {C : CallS} (hC : MonoC C) {o : Ow} {t : Tg} {ke e : E} {ρ : VH.Env} {Q : Ow → List (Key × D) → VH.Env → Prop} (g : Int → D) : ∀ (xs : List Int) (acc : List (Key × D)), (acc.map (·.1) ++ xs.map (fun x => (Sum.inl x : Key))).Nodup →
    (∀ x ∈ xs, ∃ ρ2, bindT t (itmO o) (.int x) (wipeE (lock ρ) (tgs t)) = some ρ2 ∧ wpE C ke ρ2 fun _ dk ρ4 => keyOf dk = some (.inl x) ∧ wpE C e ρ4 fun o' d' _ => chO o' d' = some .all ∧ d' = g x) → Q .all (acc ++ xs.map fun x => (.inl x, g x)) ρ →
    wpDcL (fun d ρ' K => ∃ ρ2, bindT t (itmO o) d (wipeE (lock ρ') (tgs t)) = some ρ2 ∧ wpC C .nil ρ2 fun b ρ3 =>
        if b = true then wpE C ke ρ3 fun _ dk ρ4 => ∃ k, keyOf dk = some k ∧ wpE C e ρ4 fun o' d' _ => ∃ kk, chO o' d' = some kk ∧ K (some (kk, k, d')) ρ' else K none ρ') (xs.map D.int) .all acc ρ Q
  | [], acc, _, _, q => by rw [List.map_nil, List.append_nil] at q; exact q
  | x :: xs, acc, nd, h, q => by
    obtain ⟨ρ2, e1, w⟩ := h x List.mem_cons_self
    refine ⟨ρ2, e1, ?_⟩
    simp only [wpC]
    rw [if_pos trivial]
    refine wpE_mono hC ke _ _ _ (fun _ dk ρ4 ⟨ek, w2⟩ => ⟨_, ek, wpE_mono hC e _ _ _ (fun o' d' ρ5 ⟨e3, e4⟩ => ⟨_, e3, ?_⟩) w2⟩) w
    subst e4
    show wpDcL _ (xs.map D.int) (minO .all .all) (putD acc (.inl x) (g x)) ρ Q
    have hx : (Sum.inl x : Key) ∉ acc.map (·.1) := fun z => (List.nodup_append.mp nd).2.2 _ z _ (by simp) rfl
    rw [putD_new hx]
    refine dcl_ints hC g xs (acc ++ [(.inl x, g x)]) ?_ (fun y hy => h y (List.mem_cons_of_mem _ hy)) ?_
    · rw [List.map_append, List.append_assoc]; exact nd
    · rw [List.append_assoc]; exact q
/-- the joined places of one, as the ties tell them -/
def nbs (ts : List (Int × Int)) (p : Int) : List Int := ts.flatMap fun t => if t.1 = p then [t.2] else if t.2 = p then [t.1] else []
theorem nbs_snoc (ts : List (Int × Int)) (t : Int × Int) (p : Int) : nbs (ts ++ [t]) p = nbs ts p ++ if t.1 = p then [t.2] else if t.2 = p then [t.1] else [] := by unfold nbs; rw [List.flatMap_append]; simp
theorem nbs_len : ∀ (ts : List (Int × Int)) (p : Int), (nbs ts p).length ≤ ts.length
  | [], p => by simp [nbs]
  | t :: ts, p => by
    have ih := nbs_len ts p
    unfold nbs at ih ⊢
    rw [List.flatMap_cons, List.length_append, List.length_cons]
    split
    · rw [List.length_singleton]; omega
    · split
      · rw [List.length_singleton]; omega
      · rw [List.length_nil]; omega
theorem joined_symm (ts : List (Int × Int)) (a b : Int) : joined ts a b = joined ts b a := by
  unfold joined
  rw [show tieOf a b = tieOf b a by unfold tieOf; ext <;> dsimp only <;> split <;> split <;> omega]
theorem joined_iff {n : Nat} {ts : List (Int × Int)} (hg : GoodT n ts) {a b : Int} : joined ts a b = true ↔ (a, b) ∈ ts ∨ (b, a) ∈ ts := by
  unfold joined
  rw [decide_eq_true_eq]
  unfold tieOf
  by_cases h : b < a
  · rw [if_pos h, if_neg (by omega)]
    exact ⟨.inr, fun z => z.elim (fun z => by have := (hg.1 _ z).2.1; simp at this; omega) id⟩
  · rw [if_neg h]
    by_cases h2 : b > a
    · rw [if_pos h2]
      exact ⟨.inl, fun z => z.elim id fun z => by have := (hg.1 _ z).2.1; simp at this; omega⟩
    · rw [if_neg h2]
      have : a = b := by omega
      subst this
      exact ⟨.inl, fun z => z.elim id id⟩
theorem mem_nbs {n : Nat} {ts : List (Int × Int)} (hg : GoodT n ts) {p q : Int} : q ∈ nbs ts p ↔ joined ts p q = true := by
  rw [joined_iff hg]
  unfold nbs
  rw [List.mem_flatMap]
  constructor
  · rintro ⟨t, ht, h⟩
    split at h
    · rename_i e
      simp at h; subst h; subst e; exact .inl ht
    · split at h
      · rename_i e
        simp at h; subst h; subst e; exact .inr ht
      · simp at h
  · rintro (h | h)
    · exact ⟨_, h, by simp⟩
    · refine ⟨_, h, ?_⟩
      have := (hg.1 _ h).2.1
      rw [if_neg (by simp at this ⊢; omega)]; simp
theorem nbs_nodup {n : Nat} : ∀ {ts : List (Int × Int)}, GoodT n ts → ∀ p, (nbs ts p).Nodup
  | [], _, p => by simp [nbs]
  | t :: ts, hg, p => by
    have hg' : GoodT n ts := hg.sub (List.sublist_cons_self _ _)
    have ih := nbs_nodup hg' p
    have e : nbs (t :: ts) p = (if t.1 = p then [t.2] else if t.2 = p then [t.1] else []) ++ nbs ts p := by unfold nbs; rw [List.flatMap_cons]
    have hnt := (List.nodup_cons.mp hg.2).1
    have hlt := hg.1 t List.mem_cons_self
    rw [e]
    refine List.nodup_append.mpr ⟨by split; simp; split <;> simp, ih, fun a ha b hb hab => ?_⟩
    subst hab
    have hj := (mem_nbs hg').mp hb
    rw [joined_iff hg'] at hj
    split at ha
    · rename_i e1
      simp at ha; subst ha; subst e1
      rcases hj with hj | hj
      · exact hnt hj
      · have := (hg'.1 _ hj).2.1; simp at this; omega
    · split at ha
      · rename_i e2
        simp at ha; subst ha; subst e2
        rcases hj with hj | hj
        · have := (hg'.1 _ hj).2.1; simp at this; omega
        · exact hnt hj
      · simp at ha
theorem elimA_symm {A : Int → Int → Bool} (sy : ∀ a b, A a b = A b a) : ∀ (l : List Int) (a b : Int), elimA A l a b = elimA A l b a := by
  intro l
  induction l using snoc_ind with
  | h0 => exact sy
  | h1 l x ih =>
    intro a b
    rw [elimA_push]
    unfold stepA
    rw [ih a b, ih a x, ih x b, show decide (a ≠ b) = decide (b ≠ a) from decide_eq_decide.mpr ⟨Ne.symm, Ne.symm⟩]
    congr 2
    exact Bool.and_comm _ _
theorem ups_lt (n : Int) : (ups n).Pairwise (· ≤ ·) := by
  have : (ups n).Pairwise (· < ·) := by
    unfold ups
    exact List.Pairwise.map _ (fun a b h => by show Int.ofNat a < Int.ofNat b; exact Int.ofNat_lt.mpr h) List.pairwise_lt_range
  exact this.imp fun h => Int.le_of_lt h
theorem perm_of {α : Type} [DecidableEq α] {a b : List α} (ha : a.Nodup) (hb : b.Nodup) (h : ∀ x, x ∈ a ↔ x ∈ b) : a.Perm b := (List.perm_ext_iff_of_nodup ha hb).mpr h
/-- sorting what has the members of a part of the places -/
theorem srt_part {n : Nat} {a : List Int} {p : Int → Bool} (ha : a.Nodup) (h : ∀ x, x ∈ a ↔ x ∈ (ups n).filter p) : srtI a = (ups n).filter p :=
  (sortedI_eq (perm_of (List.Pairwise.filter _ (ups_nodup n)) ha fun x => (h x).symm) (List.Pairwise.filter _ (ups_lt n))).symm
def dNL : Df where
  nm := (Str.ofString "neighbours_left")
  np := 3
  N := [(Str.ofString "n"), (Str.ofString "ties"), (Str.ofString "order"), (Str.ofString "near"), (Str.ofString "place"), (Str.ofString "i"), (Str.ofString "j"), (Str.ofString "found"), (Str.ofString "left"), (Str.ofString "other"), (Str.ofString "own")]
  lk := [0, 1, 2]
  body := (.cons (.asg 3 (.dc (.nm 4) (.rng1 (.var .pk 0)) .nil (.var .pk 4) (.lst .nil))) (.cons (.fr (.tp (.cons (.nm 5) (.cons (.nm 6) .nil))) (.seq (.var .pk 1)) (.cons (.ex (.dmut false 3 (.var .pk 5) (.var .sh 6))) (.cons (.ex (.dmut false 3 (.var .pk 6) (.var .sh 5))) .nil))) (.cons (.asg 7 (.wk .one (.lst .nil))) (.cons (.fr (.nm 4) (.seq (.var .pk 2)) (.cons (.asg 8 (.b1 .sorted_ (.dpop 3 (.var .pk 4)))) (.cons (.ex (.app 7 (.var .sh 8))) (.cons (.fr (.nm 9) (.seq (.var .sh 8)) (.cons (.dset 3 (.var .pk 9) (.lc true (.nm 10) (.seq (.sidx 3 (.var .pk 9))) (.some (.cmp .NotEq (.var .pk 10) (.var .pk 4))) (.var .sh 10))) (.cons (.ex (.dmut true 3 (.var .pk 9) (.lc true (.nm 10) (.seq (.var .pk 8)) (.some (.and (.cmp .NotEq (.var .pk 10) (.var .pk 9)) (.cmp .NotIn (.var .pk 10) (.sidx 3 (.var .pk 9))))) (.var .sh 10)))) .nil))) .nil)))) (.cons (.ret (.var .mv 7)) .nil)))))
theorem leftsL_snoc (n : Nat) (A : Int → Int → Bool) (x : Int) : ∀ (r l : List Int), leftsL n A l (r ++ [x]) = leftsL n A l r ++ [leftL n A (l ++ r) x]
  | [], l => by rw [List.append_nil]; rfl
  | y :: r, l => by
    show leftL n A l y :: leftsL n A (l ++ [y]) (r ++ [x]) = leftL n A l y :: leftsL n A (l ++ [y]) r ++ _
    rw [leftsL_snoc n A x r (l ++ [y]), List.append_assoc]; rfl
theorem leftsL_len (n : Nat) (A : Int → Int → Bool) : ∀ (r l : List Int), (leftsL n A l r).length = r.length
  | [], l => rfl
  | y :: r, l => by show (leftsL n A (l ++ [y]) r).length + 1 = r.length + 1; rw [leftsL_len n A r]
section
variable {k : Nat} {Q : Ow → D → List (Option (Ow × D)) → Prop}
theorem tD_items (ts : List (Int × Int)) : tD ts = .lst (ts.map fun t => .tup [.int t.1, .int t.2]) := rfl
theorem lens_nd {n : Nat} {a : List Int} (h : a.Nodup) (hb : ∀ x ∈ a, 0 ≤ x ∧ x < (n : Int)) : a.length ≤ n := by
  have := List.Nodup.length_le_of_subset h (l₂ := ups n) fun x hx => mem_ups.mpr (hb x hx)
  rw [ups_len] at this; omega
/-- what holds of the dict: who is left, and to whom each is joined -/
structure NbOk (n : Nat) (A : Int → Int → Bool) (dn : List Int) (N : Int → List Int) : Prop where
  nd : ∀ p ∈ freeL n dn, (N p).Nodup
  mem : ∀ p ∈ freeL n dn, ∀ q, q ∈ N p ↔ q ∈ freeL n dn ∧ q ≠ p ∧ elimA A dn p q = true
theorem NbOk.left {n : Nat} {A : Int → Int → Bool} {dn : List Int} {N : Int → List Int} (h : NbOk n A dn N) {x : Int} (hx : x ∈ freeL n dn) : srtI (N x) = leftL n A dn x := by
  refine srt_part (h.nd x hx) fun q => ?_
  rw [h.mem x hx q, mem_freeL, List.mem_filter, mem_ups, Bool.and_eq_true, Bool.and_eq_true, Bool.not_eq_true', decide_eq_false_iff_not, decide_eq_true_eq]
  exact ⟨fun ⟨⟨a, b⟩, c, d⟩ => ⟨a, ⟨b, c⟩, d⟩, fun ⟨a, ⟨b, c⟩, d⟩ => ⟨⟨a, b⟩, c, d⟩⟩
theorem free_snoc {n : Nat} {dn : List Int} {x : Int} : (freeL n dn).filter (fun q => !decide (q = x)) = freeL n (dn ++ [x]) := by
  unfold freeL
  rw [List.filter_filter]
  refine List.filter_congr fun q _ => ?_
  rw [Bool.eq_iff_iff]
  simp only [Bool.and_eq_true, Bool.not_eq_true', decide_eq_false_iff_not, List.mem_append, List.mem_singleton]
  exact ⟨fun ⟨a, b⟩ z => z.elim b a, fun h => ⟨fun z => h (.inr z), fun z => h (.inl z)⟩⟩
/-- what the inner loop makes of a place's neighbours -/
def nxN (N : Int → List Int) (x : Int) (left : List Int) (p : Int) : List Int := (N p).filter (fun o => !decide (o = x)) ++ left.filter fun o => !decide (o = p) && !decide (o ∈ (N p).filter fun o => !decide (o = x))
theorem NbOk.next {n : Nat} {A : Int → Int → Bool} (sy : ∀ a b, A a b = A b a) {dn : List Int} {N : Int → List Int} (h : NbOk n A dn N) {x : Int} (hx : x ∈ freeL n dn) :
    NbOk n A (dn ++ [x]) fun p => if p ∈ leftL n A dn x then nxN N x (leftL n A dn x) p else N p := by
  have es := elimA_symm sy dn
  have sub : ∀ p, p ∈ freeL n (dn ++ [x]) → p ∈ freeL n dn ∧ p ≠ x := fun p hp => by
    rw [← free_snoc, List.mem_filter] at hp
    exact ⟨hp.1, by simpa using hp.2⟩
  have sup : ∀ p, p ∈ freeL n dn → p ≠ x → p ∈ freeL n (dn ++ [x]) := fun p hp hne => by
    rw [← free_snoc, List.mem_filter]
    exact ⟨hp, by simpa using hne⟩
  have ml : ∀ q, q ∈ leftL n A dn x ↔ q ∈ freeL n dn ∧ q ≠ x ∧ elimA A dn x q = true := fun q => by
    unfold leftL
    rw [List.mem_filter, mem_freeL, mem_ups, Bool.and_eq_true, Bool.and_eq_true, Bool.not_eq_true', decide_eq_false_iff_not, decide_eq_true_eq]
    exact ⟨fun ⟨a, ⟨b, c⟩, d⟩ => ⟨⟨a, b⟩, c, d⟩, fun ⟨⟨a, b⟩, c, d⟩ => ⟨a, ⟨b, c⟩, d⟩⟩
  refine ⟨fun p hp => ?_, fun p hp q => ?_⟩
  · obtain ⟨hp1, hp2⟩ := sub p hp
    split
    · unfold nxN
      refine List.nodup_append.mpr ⟨List.Pairwise.filter _ (h.nd p hp1), List.Pairwise.filter _ leftL_nodup, fun a ha b hb e => ?_⟩
      subst e
      have := (List.mem_filter.mp hb).2
      simp only [Bool.and_eq_true, Bool.not_eq_true', decide_eq_false_iff_not] at this
      exact this.2 ha
    · exact h.nd p hp1
  · obtain ⟨hp1, hp2⟩ := sub p hp
    rw [elimA_push]
    unfold stepA
    rw [Bool.or_eq_true, Bool.and_eq_true, Bool.and_eq_true, decide_eq_true_eq]
    split
    · rename_i hpl
      have hpx := ((ml p).mp hpl).2.2
      rw [es] at hpx
      unfold nxN
      rw [List.mem_append, List.mem_filter, List.mem_filter, h.mem p hp1 q, ml q]
      simp only [Bool.and_eq_true, Bool.not_eq_true', decide_eq_false_iff_not, List.mem_filter, h.mem p hp1 q, not_and]
      constructor
      · rintro (⟨⟨a, b, c⟩, d⟩ | ⟨⟨a, b, c⟩, d, e⟩)
        · exact ⟨sup q a d, b, .inl c⟩
        · exact ⟨sup q a b, d, .inr ⟨⟨hpx, c⟩, fun z => d z.symm⟩⟩
      · rintro ⟨a, b, c⟩
        obtain ⟨a1, a2⟩ := sub q a
        by_cases c1 : elimA A dn p q = true
        · exact .inl ⟨⟨a1, b, c1⟩, a2⟩
        · rcases c with c | ⟨⟨_, c⟩, _⟩
          · exact absurd c c1
          · exact .inr ⟨⟨a1, a2, c⟩, b, fun z => absurd z.2.2 c1⟩
    · rename_i hpl
      have hpx : ¬ elimA A dn p x = true := fun z => hpl ((ml p).mpr ⟨hp1, hp2, by rw [es]; exact z⟩)
      rw [h.mem p hp1 q]
      constructor
      · rintro ⟨a, b, c⟩
        exact ⟨sup q a fun e => hpx (by rw [e] at c; exact c), b, .inl c⟩
      · rintro ⟨a, b, c⟩
        obtain ⟨a1, a2⟩ := sub q a
        rcases c with c | ⟨⟨c, _⟩, _⟩
        · exact ⟨a1, b, c⟩
        · exact absurd c hpx
theorem nleft_ok {P : Tbl} {f : Nat} (ef : P[f]? = some dNL) {n : Nat} {ties : List (Int × Int)} {order : List Int} (hn : n ≤ 1000) (hg : GoodT n ties) (ht : ties.length ≤ 1000) (ho : Pre n order)
    (q : ∀ outs, Q .one (.lst ((leftsL n (joined ties) [] order).map lD)) outs) : cal P (k + 1) f [(.all, .int n), (.bor, tD ties), (.bor, lD order)] Q := by
  have hC := cal_mono P k
  have hsz : sizeLine = 16777216 := sizeLine_eq
  have sy := joined_symm ties
  refine cal_of dNL ef rfl ?_
  -- the dict
  refine r_asg ?_
  repeat trivial
  refine ⟨by omega, by omega, ?_, ?_⟩
  · rw [List.length_map, List.length_range]; omega
  rw [ups_map]
  refine dcl_ints hC (fun _ => lD []) (ups n) [] ?_ (fun x hx => ⟨_, rfl, ?_⟩) ?_
  · rw [List.map_nil, List.nil_append]
    exact nodup_map _ _ (fun a _ b _ e => Sum.inl.inj e) (ups_nodup n)
  · repeat trivial
  rw [List.nil_append, show (ups n).map (fun x => ((Sum.inl x : Key), lD [])) = encN (ups n) fun _ => [] from rfl]
  refine ⟨_, rfl, ?_⟩
  -- the ties
  refine r_fr ?_
  repeat trivial
  refine ⟨⟨Ow.noConfusion, Ow.noConfusion⟩, ?_⟩
  refine fr_pre hC (ea := encP) (fun pre ρ => ∃ v4 v5 v6, ρ = [some (.all, .int n), some (.bor, tD ties), some (.bor, lD order), some (.all, .dK (encN (ups n) (nbs pre))), v4, v5, v6, none, none, none, none])
    ⟨none, none, none, rfl⟩ ?_ ?_
  · rintro pre ⟨i, j⟩ post ρ hx ⟨v4, v5, v6, rfl⟩
    have hm : (i, j) ∈ ties := by rw [hx]; simp
    obtain ⟨i0, ij, jn⟩ := hg.1 _ hm
    dsimp only at i0 ij jn
    have hpl : pre.length < ties.length := by rw [hx]; simp
    have hi : i ∈ ups n := mem_ups.mpr ⟨i0, by omega⟩
    have hj : j ∈ ups n := mem_ups.mpr ⟨by omega, jn⟩
    have l1 := nbs_len pre i
    have l2 := nbs_len pre j
    refine ⟨_, rfl, ?_⟩
    refine r_ex ?_
    refine ⟨_, .inl i, (nbs pre i).map D.int, rfl, ⟨_, _, rfl, rfl⟩, getK_encN hi, ⟨_, _, rfl, ⟨[.int j], rfl, rfl, ?_, ?_⟩⟩⟩
    · rw [List.length_map, List.length_singleton]; omega
    rw [show (nbs pre i).map D.int ++ [D.int j] = (nbs pre i ++ [j]).map D.int by rw [List.map_append]; rfl, setD_encN (ups_nodup n) hi]
    refine r_ex ?_
    have e2 : updN (nbs pre) i (nbs pre i ++ [j]) j = nbs pre j := by unfold updN; rw [if_neg (by omega)]
    refine ⟨_, .inl j, (nbs pre j).map D.int, rfl, ⟨_, _, rfl, rfl⟩, by rw [getK_encN hj, e2], ⟨_, _, rfl, ⟨[.int i], rfl, rfl, ?_, ?_⟩⟩⟩
    · rw [List.length_map, List.length_singleton]; omega
    rw [show (nbs pre j).map D.int ++ [D.int i] = (nbs pre j ++ [i]).map D.int by rw [List.map_append]; rfl, setD_encN (ups_nodup n) hj]
    have e3 : encN (ups n) (updN (updN (nbs pre) i (nbs pre i ++ [j])) j (nbs pre j ++ [i])) = encN (ups n) (nbs (pre ++ [(i, j)])) := encN_congr fun p hp => by
      rw [nbs_snoc]
      unfold updN
      dsimp only
      by_cases h1 : p = j
      · rw [if_pos h1, if_neg (by omega), if_pos h1.symm, h1]
      · rw [if_neg h1]
        by_cases h2 : p = i
        · rw [if_pos h2, if_pos h2.symm, h2]
        · rw [if_neg h2, if_neg (fun e => h2 e.symm), if_neg (fun e => h1 e.symm), List.append_nil]
    rw [e3]
    exact ⟨_, _, _, rfl⟩
  rintro ρ ⟨v4, v5, v6, rfl⟩
  -- the order
  refine r_asg ?_
  repeat trivial
  refine ⟨⟨Ow.noConfusion, Ow.noConfusion⟩, ?_⟩
  refine fr_pre hC (ea := D.int) (fun pre ρ => ∃ N v4 v8 v9 v10, NbOk n (joined ties) pre N ∧ ρ = [some (.all, .int n), some (.bor, tD ties), some (.bor, lD order), some (.all, .dK (encN (freeL n pre) N)), v4, v5, v6, some (.one, .lst ((leftsL n (joined ties) [] pre).map lD)), v8, v9, v10])
    ⟨nbs ties, v4, none, none, none, ?_, ?_⟩ ?_ ?_
  · have ef : freeL n [] = ups n := by unfold freeL; simp
    refine ⟨fun p hp => nbs_nodup hg p, fun p hp q => ?_⟩
    rw [mem_nbs hg, ef]
    constructor
    · intro h
      have hj := (joined_iff hg).mp h
      refine ⟨?_, ?_, h⟩
      · rcases hj with hj | hj
        · have := hg.1 _ hj; simp at this; exact mem_ups.mpr ⟨by omega, by omega⟩
        · have := hg.1 _ hj; simp at this; exact mem_ups.mpr ⟨by omega, by omega⟩
      · rintro rfl
        rcases hj with hj | hj
        · have := hg.1 _ hj; simp at this
        · have := hg.1 _ hj; simp at this
    · exact fun h => h.2.2
  · rw [show freeL n [] = ups n by unfold freeL; simp]
    rfl
  · rintro pre x post ρ hx ⟨N, v4, v8, v9, v10, hN, rfl⟩
    have hpre : Pre n (pre ++ x :: post) := by rw [← hx]; exact ho
    have hxf : x ∈ freeL n pre := hpre.next
    have hol := ho.len
    have hpl : pre.length < n := by
      rw [hx, List.length_append, List.length_cons] at hol; omega
    refine ⟨_, rfl, ?_⟩
    refine r_asg (e_b1 ?_)
    refine ⟨_, .inl x, lD (N x), rfl, ⟨_, _, rfl, rfl⟩, getK_encN hxf, ?_⟩
    refine s1_sort ?_
    rw [dropD_encN, free_snoc, hN.left hxf]
    have hll : (leftL n (joined ties) pre x).length ≤ n := Nat.le_trans (List.length_filter_le _ _) (by rw [ups_len]; omega)
    refine ⟨_, rfl, ?_⟩
    have hl7 : ((leftsL n (joined ties) [] pre).map lD).length < sizeLine := by
      rw [List.length_map, leftsL_len]; omega
    refine r_ex ?_
    refine ⟨⟨_, _, rfl⟩, ?_⟩
    refine e_sh rfl rfl (.inl rfl) ?_
    refine ⟨_, _, _, rfl, rfl, .inl rfl, hl7, ?_⟩
    -- the inner loop
    refine r_fr (i_seq' (e_sh rfl rfl (.inr (.inr rfl)) ?_))
    refine ⟨⟨Ow.noConfusion, Ow.noConfusion⟩, ?_⟩
    have hlx : ∀ p ∈ leftL n (joined ties) pre x, p ∈ freeL n (pre ++ [x]) := fun p hp => by
      obtain ⟨a, b, c, _⟩ := leftL_mem.mp hp
      rw [← free_snoc, List.mem_filter]
      exact ⟨mem_freeL.mpr ⟨a, b⟩, by simpa using c⟩
    have hNl : ∀ p ∈ freeL n (pre ++ [x]), (N p).length ≤ n := fun p hp => by
      have hp' : p ∈ freeL n pre := by rw [← free_snoc, List.mem_filter] at hp; exact hp.1
      exact lens_nd (hN.nd p hp') fun q hq => (mem_freeL.mp ((hN.mem p hp' q).mp hq).1).1
    have fnd : (freeL n (pre ++ [x])).Nodup := List.Pairwise.filter _ (ups_nodup n)
    refine fr_pre hC (ea := D.int) (fun dn ρ => ∃ v9 v10, ρ = [some (.all, .int n), some (.bor, tD ties), some (.bor, lD order), some (.all, .dK (encN (freeL n (pre ++ [x])) fun p => if p ∈ dn then nxN N x (leftL n (joined ties) pre x) p else N p)), some (.all, .int x), v5, v6, some (.one, .lst ((leftsL n (joined ties) [] (pre ++ [x])).map lD)), some (.sh, lD (leftL n (joined ties) pre x)), v9, v10])
      ⟨v9, v10, ?_⟩ ?_ ?_
    · rw [leftsL_snoc, List.map_append, List.nil_append]
      simp only [List.not_mem_nil, if_false]
      rfl
    · rintro dn p po ρ hdn ⟨v9, v10, rfl⟩
      have hp : p ∈ leftL n (joined ties) pre x := by rw [hdn]; simp
      have hpd : p ∉ dn := fun h => by
        have := leftL_nodup (n := n) (A := joined ties) (l := pre) (x := x)
        rw [hdn] at this
        exact (List.nodup_append.mp this).2.2 p h p List.mem_cons_self rfl
      have hpf := hlx p hp
      have hNp := hNl p hpf
      have g1 : ∀ {M : Int → List Int}, getK (encN (freeL n (pre ++ [x])) M) (.inl p) = some (lD (M p)) := getK_encN hpf
      have fl : (freeL n (pre ++ [x])).length < sizeLine := by
        have : (freeL n (pre ++ [x])).length ≤ n := Nat.le_trans (List.length_filter_le _ _) (by rw [ups_len]; omega)
        omega
      refine ⟨_, rfl, ?_⟩
      refine r_dset (lc_pure ?_ hC)
      refine ⟨⟨_, rfl⟩, ⟨_, _, rfl, ?_⟩⟩
      refine ⟨_, _, rfl, _, g1, ?_⟩
      rw [if_neg hpd]
      refine ⟨by rw [List.length_map]; omega, ?_⟩
      refine lc_filter hC (ea := D.int) (N p) (fun q => !decide (q = x)) (fun q hq => ⟨_, rfl, ?_⟩) ?_
      · repeat trivial
        refine fun _ => ?_
        repeat trivial
      refine ⟨.all, .all, _, .inl p, rfl, rfl, .inr rfl, ⟨_, _, rfl, rfl⟩, ?_, fun _ _ => encN_nodup fnd, ?_⟩
      · unfold encN; rw [List.length_map]; exact fl
      rw [putD_encN hpf]
      generalize hM : (fun p => if p ∈ dn then nxN N x (leftL n (joined ties) pre x) p else N p) = M
      have e4 : updN M p ((N p).filter fun q => !decide (q = x)) p = (N p).filter fun q => !decide (q = x) := if_pos rfl
      have hlf : ((N p).filter fun q => !decide (q = x)).length ≤ n := Nat.le_trans (List.length_filter_le _ _) hNp
      refine r_ex ?_
      refine ⟨_, .inl p, _, rfl, ⟨_, _, rfl, rfl⟩, g1, ?_⟩
      rw [e4]
      refine lc_pure ?_ hC
      refine ⟨_, _, rfl, ?_⟩
      refine ⟨by rw [List.length_map]; omega, ?_⟩
      refine lc_filter hC (ea := D.int) (leftL n (joined ties) pre x) (fun q => !decide (q = p) && !decide (q ∈ (N p).filter fun q => !decide (q = x))) (fun q hq => ⟨_, rfl, ?_⟩) ?_
      · refine e_and hC ?_
        refine ⟨_, _, rfl, ⟨_, _, rfl, ⟨rfl, rfl, ?_⟩⟩⟩
        rw [deq_int]
        refine ⟨_, rfl, fun h => ?_, fun h => ?_⟩
        · refine ⟨_, _, rfl, ⟨⟨_, rfl⟩, ⟨_, _, rfl, ⟨_, _, rfl, _, g1, ?_⟩⟩⟩⟩
          rw [e4]
          refine ⟨rfl, plainL _, ?_⟩
          rw [any_encI]
          refine ⟨?_, fun _ => ?_⟩
          · rw [h, Bool.true_and]; rfl
          · repeat trivial
        · refine ⟨?_, fun h2 => ?_⟩
          · rw [h, Bool.false_and]; rfl
          · rw [h, Bool.false_and] at h2; cases h2
      refine ⟨_, rfl, solid_ints _, ?_, ?_⟩
      · rw [List.length_map, List.length_map]
        have := List.length_filter_le (fun q => !decide (q = p) && !decide (q ∈ (N p).filter fun q => !decide (q = x))) (leftL n (joined ties) pre x)
        omega
      rw [← List.map_append, setD_encN fnd hpf]
      have e5 : encN (freeL n (pre ++ [x])) (updN (updN M p ((N p).filter fun q => !decide (q = x))) p ((N p).filter (fun q => !decide (q = x)) ++ (leftL n (joined ties) pre x).filter fun q => !decide (q = p) && !decide (q ∈ (N p).filter fun q => !decide (q = x)))) = encN (freeL n (pre ++ [x])) fun r => if r ∈ dn ++ [p] then nxN N x (leftL n (joined ties) pre x) r else N r := encN_congr fun r hr => by
        subst hM
        unfold updN
        by_cases e : r = p
        · subst e
          rw [if_pos rfl, if_pos (by simp)]
          rfl
        · rw [if_neg e, if_neg e]
          dsimp only
          by_cases hd : r ∈ dn
          · rw [if_pos hd, if_pos (by simp [hd])]
          · rw [if_neg hd, if_neg (by simp [hd, e])]
      rw [e5]
      exact ⟨_, _, rfl⟩
    · rintro ρ ⟨v9, v10, rfl⟩
      exact ⟨_, _, _, _, _, hN.next sy hxf, rfl⟩
  · rintro ρ ⟨N, v4, v8, v9, v10, hN, rfl⟩
    repeat trivial
    exact q _
end
end VH
namespace VH
open PySem PySem.Spec PyProof.Rows L2
local macro_rules | `(tactic| trivial) => `(tactic| first
  | exact rfl
  | refine ⟨⟨_, rfl⟩, ?_⟩
  | refine ⟨⟨_, _, rfl⟩, ?_⟩
  | refine ⟨_, _, rfl, ?_⟩
  | refine ⟨_, rfl, ?_⟩
  | refine ⟨_, _, _, _, _, rfl, rfl, rfl, rfl, ?_⟩
  | refine ⟨_, _, _, _, rfl, rfl, .inr rfl, rfl, ?_⟩
  | refine ⟨_, _, _, _, rfl, rfl, .inl rfl, rfl, ?_⟩
  | refine ⟨_, _, _, rfl, rfl, .inr rfl, rfl, ?_⟩
  | refine ⟨_, _, _, rfl, rfl, .inl rfl, rfl, ?_⟩
  | refine ⟨.inr ⟨by decide, by decide⟩, ?_⟩
  | refine ⟨by decide, by decide, ?_⟩
  | refine ⟨by decide, ?_⟩
  | refine ⟨Nat.le_of_ble_eq_true rfl, ?_⟩
  | refine ⟨List.nodup_nil, _, rfl, ?_⟩
  | refine ⟨nodup1 _, _, rfl, ?_⟩
  | refine ⟨nodup2 (by decide), _, rfl, ?_⟩
  | refine ⟨rfl, ?_⟩)

def bitF (m p : Int) : Bool := decide (Builtin.bitAnd (m / 2 ^ p.toNat) 1 ≠ 0)
def orB (m p : Int) : Int := Builtin.bitOr m (1 * 2 ^ p.toNat)
theorem bits_or' : (List.range 256).all (fun m => (List.range 8).all fun p => decide ((0 : Int) ≤ orB m p) && decide ((m : Int) ≤ orB m p) && (bitF m p || decide ((m : Int) < orB m p)) && (List.range 8).all fun q => bitF (orB m p) q == (bitF m q || q == p)) = true := by decide +kernel
theorem bits_lt' : (List.range 9).all (fun n => (List.range (2 ^ n)).all fun m => ((List.range n).all fun p => decide (orB m p < 2 ^ n)) && (!((List.range n).all fun p => bitF m p) || m + 1 == 2 ^ n) && (m + 1 != 2 ^ n || (List.range n).all fun p => bitF m p)) = true := by decide +kernel
theorem bits_0' : (List.range 8).all (fun p => !bitF 0 p) = true := by decide +kernel
theorem bits_or {n : Nat} {m p : Int} (hn : n ≤ 8) (h0 : 0 ≤ m) (h1 : m < 2 ^ n) (p0 : 0 ≤ p) (p1 : p < n) : 0 ≤ orB m p ∧ m ≤ orB m p ∧ (bitF m p = false → m < orB m p) ∧ orB m p < 2 ^ n ∧ ∀ q : Int, 0 ≤ q → q < n → bitF (orB m p) q = (bitF m q || decide (q = p)) := by
  obtain ⟨a, rfl⟩ := Int.eq_ofNat_of_zero_le h0
  obtain ⟨b, rfl⟩ := Int.eq_ofNat_of_zero_le p0
  have h2 : (2 ^ n : Nat) ≤ 2 ^ 8 := Nat.pow_le_pow_right (by decide) hn
  have ha : a < 2 ^ n := by have : (2 : Int) ^ n = ((2 ^ n : Nat) : Int) := by simp
                            omega
  have hb : b < n := by omega
  have := List.all_eq_true.mp (List.all_eq_true.mp bits_or' a (List.mem_range.mpr (by omega))) b (List.mem_range.mpr (by omega))
  simp only [Bool.and_eq_true, decide_eq_true_eq, Bool.or_eq_true] at this
  obtain ⟨⟨⟨e1, e2⟩, e3⟩, e4⟩ := this
  have t := List.all_eq_true.mp (List.all_eq_true.mp bits_lt' n (List.mem_range.mpr (by omega))) a (List.mem_range.mpr ha)
  simp only [Bool.and_eq_true] at t
  refine ⟨e1, e2, fun h => ?_, of_decide_eq_true (List.all_eq_true.mp t.1.1 b (List.mem_range.mpr hb)), fun q q0 q1 => ?_⟩
  · rcases e3 with e3 | e3
    · rw [h] at e3; cases e3
    · exact e3
  · obtain ⟨c, rfl⟩ := Int.eq_ofNat_of_zero_le q0
    have := List.all_eq_true.mp e4 c (List.mem_range.mpr (by omega))
    rw [beq_iff_eq.mp this]
    congr 1
    rw [Bool.eq_iff_iff, beq_iff_eq, decide_eq_true_eq]
    omega
theorem bits_whole {n : Nat} {m : Int} (hn : n ≤ 8) (h0 : 0 ≤ m) (h1 : m < 2 ^ n) : m = 2 ^ n - 1 ↔ ∀ p : Int, 0 ≤ p → p < n → bitF m p = true := by
  obtain ⟨a, rfl⟩ := Int.eq_ofNat_of_zero_le h0
  have e2 : (2 : Int) ^ n = ((2 ^ n : Nat) : Int) := by simp
  have ha : a < 2 ^ n := by omega
  have t := List.all_eq_true.mp (List.all_eq_true.mp bits_lt' n (List.mem_range.mpr (by omega))) a (List.mem_range.mpr ha)
  simp only [Bool.and_eq_true] at t
  constructor
  · intro e p p0 p1
    obtain ⟨b, rfl⟩ := Int.eq_ofNat_of_zero_le p0
    have t2 := t.2
    rw [show (a + 1 != 2 ^ n) = false by rw [bne_eq_false_iff_eq]; omega, Bool.false_or] at t2
    exact List.all_eq_true.mp t2 b (List.mem_range.mpr (by omega))
  · intro h
    have t1 := t.1.2
    rw [show ((List.range n).all fun p => bitF a p) = true from List.all_eq_true.mpr fun p hp => h p (by omega) (by have := List.mem_range.mp hp; omega)] at t1
    rw [Bool.not_true, Bool.false_or, beq_iff_eq] at t1
    omega
theorem bits_0 {n : Nat} {p : Int} (hn : n ≤ 8) (p0 : 0 ≤ p) (p1 : p < n) : bitF 0 p = false := by
  obtain ⟨b, rfl⟩ := Int.eq_ofNat_of_zero_le p0
  have := List.all_eq_true.mp bits_0' b (List.mem_range.mpr (by omega))
  rwa [Bool.not_eq_true'] at this
/-- the number of a set -/
def mk (l : List Int) : Int := l.foldl orB 0
theorem mk_push (l : List Int) (p : Int) : mk (l ++ [p]) = orB (mk l) p := by unfold mk; rw [List.foldl_append]; rfl
theorem mk_ok {n : Nat} (hn : n ≤ 8) : ∀ (l : List Int), (∀ p ∈ l, 0 ≤ p ∧ p < (n : Int)) → 0 ≤ mk l ∧ mk l < 2 ^ n ∧ ∀ q : Int, 0 ≤ q → q < n → bitF (mk l) q = decide (q ∈ l) := by
  have key : ∀ (l : List Int) (m : Int) (s : List Int), 0 ≤ m → m < 2 ^ n → (∀ q : Int, 0 ≤ q → q < n → bitF m q = decide (q ∈ s)) → (∀ p ∈ l, 0 ≤ p ∧ p < (n : Int)) → 0 ≤ l.foldl orB m ∧ l.foldl orB m < 2 ^ n ∧ ∀ q : Int, 0 ≤ q → q < n → bitF (l.foldl orB m) q = decide (q ∈ s ++ l) := by
    intro l
    induction l with
    | nil => intro m s h0 h1 hb _; rw [List.append_nil]; exact ⟨h0, h1, hb⟩
    | cons p l ih =>
      intro m s h0 h1 hb hl
      obtain ⟨p0, p1⟩ := hl p List.mem_cons_self
      obtain ⟨a, b, _, c, d⟩ := bits_or hn h0 h1 p0 p1
      have := ih (orB m p) (s ++ [p]) a c (fun q q0 q1 => by
        rw [d q q0 q1, hb q q0 q1, Bool.eq_iff_iff]
        simp) fun x hx => hl x (List.mem_cons_of_mem _ hx)
      rw [show s ++ [p] ++ l = s ++ p :: l by simp] at this
      exact this
  intro l hl
  have := key l 0 [] (Int.le_refl 0) (by have : (0 : Int) < 2 ^ n := Int.pow_pos (by decide); exact this) (fun q q0 q1 => (bits_0 hn q0 q1).trans (by simp)) hl
  rwa [List.nil_append] at this
theorem mk_pre {n : Nat} {l : List Int} (hn : n ≤ 8) (h : Pre n l) : 0 ≤ mk l ∧ mk l < 2 ^ n ∧ ∀ q : Int, 0 ≤ q → q < n → bitF (mk l) q = decide (q ∈ l) := mk_ok hn l h.2
/-- the places of a number -/
def plc (n : Nat) (m : Int) : List Int := (ups n).filter fun p => bitF m p
def offs (n : Nat) (m : Int) : List Int := (ups n).filter fun p => !bitF m p
theorem offs_free {n : Nat} {l : List Int} (hn : n ≤ 8) (h : Pre n l) : offs n (mk l) = freeL n l := by
  refine List.filter_congr fun p hp => ?_
  rw [(mk_pre hn h).2.2 p (mem_ups.mp hp).1 (mem_ups.mp hp).2]
theorem bit_mod' : (List.range 256).all (fun m => (List.range 8).all fun p => (decide (((m : Int) / 2 ^ p) % 2 = 1) == bitF m p) && (bitF m p || (m : Int) + 1 * 2 ^ p == orB m p)) = true := by decide +kernel
theorem bit_mod {n : Nat} {m p : Int} (hn : n ≤ 8) (h0 : 0 ≤ m) (h1 : m < 2 ^ n) (p0 : 0 ≤ p) (p1 : p < n) : decide ((m / 2 ^ p.toNat) % 2 = 1) = bitF m p ∧ (bitF m p = false → m + 1 * 2 ^ p.toNat = orB m p) := by
  obtain ⟨a, rfl⟩ := Int.eq_ofNat_of_zero_le h0
  obtain ⟨b, rfl⟩ := Int.eq_ofNat_of_zero_le p0
  have h2 : (2 ^ n : Nat) ≤ 2 ^ 8 := Nat.pow_le_pow_right (by decide) hn
  have ha : a < 2 ^ n := by have : (2 : Int) ^ n = ((2 ^ n : Nat) : Int) := by simp
                            omega
  have := List.all_eq_true.mp (List.all_eq_true.mp bit_mod' a (List.mem_range.mpr (by omega))) b (List.mem_range.mpr (by omega))
  rw [Bool.and_eq_true, beq_iff_eq] at this
  refine ⟨this.1, fun h => ?_⟩
  have h3 := this.2
  rw [h, Bool.false_or, beq_iff_eq] at h3
  exact h3
theorem set_at {l : List Int} {m x v : Int} (h0 : 0 ≤ m) (h1 : m < l.length) (h2 : 0 ≤ x) : nameOf (l.set m.toNat v) x = if x = m then v else nameOf l x := by
  unfold nameOf
  rw [List.getD_eq_getElem?_getD, List.getD_eq_getElem?_getD, List.getElem?_set]
  by_cases h : x = m
  · subst h; rw [if_pos rfl, if_pos rfl, if_pos (by omega)]; rfl
  · rw [if_neg (by omega), if_neg h]
theorem ups_at {n : Nat} {f : Int → D} {p : Int} (p0 : 0 ≤ p) (p1 : p < n) : atI ((ups n).map f) p = some (f p) := by
  have e : p = (p.toNat : Int) := by omega
  have h := atI_nat (xs := (ups n).map f) (j := p.toNat) (v := f p) (by
    unfold ups
    rw [List.map_map, List.getElem?_map, List.getElem?_range (by omega)]
    show some (f (Int.ofNat p.toNat)) = _
    rw [show Int.ofNat p.toNat = p from e.symm])
  rw [← e] at h
  exact h
def nb (n : Nat) (ties : List (Int × Int)) (p : Int) : List Int := (ups n).filter fun q => joined ties p q
abbrev nearD (n : Nat) (ties : List (Int × Int)) : D := .lst ((ups n).map fun p => lD (nb n ties p))
theorem nb_len (n : Nat) (ties : List (Int × Int)) (p : Int) : (nb n ties p).length ≤ n := Nat.le_trans (List.length_filter_le _ _) (by rw [ups_len]; omega)
theorem mem_nb {n : Nat} {ties : List (Int × Int)} {p q : Int} : q ∈ nb n ties p ↔ (0 ≤ q ∧ q < n) ∧ joined ties p q = true := by unfold nb; rw [List.mem_filter, mem_ups]
theorem mem_plc {n : Nat} {m p : Int} : p ∈ plc n m ↔ (0 ≤ p ∧ p < n) ∧ bitF m p = true := by unfold plc; rw [List.mem_filter, mem_ups]
theorem mem_offs {n : Nat} {m p : Int} : p ∈ offs n m ↔ (0 ≤ p ∧ p < n) ∧ bitF m p = false := by unfold offs; rw [List.mem_filter, mem_ups, Bool.not_eq_true']
theorem plc_mk {n : Nat} {l : List Int} (hn : n ≤ 8) (h : Pre n l) {q : Int} : q ∈ plc n (mk l) ↔ q ∈ l := by
  rw [mem_plc]
  constructor
  · rintro ⟨a, b⟩
    rw [(mk_pre hn h).2.2 q a.1 a.2, decide_eq_true_eq] at b; exact b
  · intro hq
    have := h.2 q hq
    exact ⟨this, by rw [(mk_pre hn h).2.2 q this.1 this.2, decide_eq_true_eq]; exact hq⟩
/-- a table over sets, told from behind -/
def TabG (n : Nat) (F : Int → (Int → Int) → Int) (t : List Int) (v : Int) : Prop :=
  t.length = 2 ^ n ∧ nameOf t (2 ^ n - 1) = 0 ∧ ∀ m : Int, v < m → m < 2 ^ n - 1 → nameOf t m = F m fun p => nameOf t (orB m p)
theorem tabG_step {n : Nat} {F : Int → (Int → Int) → Int} {t : List Int} {v : Int} (hn : n ≤ 8) (hF : ∀ m h h', (∀ p ∈ offs n m, h p = h' p) → F m h = F m h') (h : TabG n F t v) (v0 : 0 ≤ v) (v1 : v < 2 ^ n - 1) : TabG n F (t.set v.toNat (F v fun p => nameOf t (orB v p))) (v - 1) := by
  obtain ⟨a, b, c⟩ := h
  have hlen : (t.length : Int) = 2 ^ n := by rw [a]; simp
  generalize hw : F v (fun p => nameOf t (orB v p)) = w
  refine ⟨by rw [List.length_set]; exact a, by rw [set_at v0 (by omega) (by omega), if_neg (by omega)]; exact b, fun m m0 m1 => ?_⟩
  have same : ∀ p ∈ offs n m, nameOf (t.set v.toNat w) (orB m p) = nameOf t (orB m p) := fun p hp => by
    obtain ⟨p0, p1⟩ := mem_offs.mp hp
    obtain ⟨e1, e2, e3, e4, e5⟩ := bits_or hn (by omega : 0 ≤ m) (by omega) p0.1 p0.2
    have := e3 p1
    rw [set_at v0 (by omega) (by omega), if_neg (by omega)]
  rw [hF m _ _ same]
  rw [set_at v0 (by omega) (by omega)]
  by_cases e : m = v
  · subst e; rw [if_pos rfl, hw]
  · rw [if_neg e]; exact c m (by omega) m1
theorem tabG_start {n : Nat} {F : Int → (Int → Int) → Int} : TabG n F (List.replicate (2 ^ n) 0) (2 ^ n - 1 - 1) := by
  refine ⟨List.length_replicate, ?_, fun m h1 h2 => by omega⟩
  unfold nameOf
  rw [List.getD_eq_getElem?_getD, List.getElem?_replicate]
  split <;> rfl
/-- the number of neighbours left of a place, those of a number being gone -/
def jm (n : Nat) (ties : List (Int × Int)) (m p : Int) : Int := ((leftL n (joined ties) (plc n m) p).length : Nat)
theorem jm_mk {n : Nat} {ties : List (Int × Int)} {l : List Int} {p : Int} (hn : n ≤ 8) (h : Pre n l) : jm n ties (mk l) p = jw n (joined ties) (l ++ [p]) := by
  rw [jw_push]
  unfold jm
  rw [leftL_set fun r => plc_mk hn h]
/-- the least widths -/
def FW (n : Nat) (ties : List (Int × Int)) (m : Int) (h : Int → Int) : Int := minI ((offs n m).map fun p => max (jm n ties m p) (h p))
theorem FW_same {n : Nat} {ties : List (Int × Int)} (m : Int) (h h' : Int → Int) (e : ∀ p ∈ offs n m, h p = h' p) : FW n ties m h = FW n ties m h' := by
  unfold FW
  rw [List.map_congr_left fun p hp => by rw [e p hp]]
theorem not_whole {n : Nat} {l : List Int} (hn : n ≤ 8) (hp : Pre n l) (hl : l.length < n) : mk l < 2 ^ n - 1 := by
  obtain ⟨a, b, c⟩ := mk_pre hn hp
  obtain ⟨p, hpf⟩ := List.exists_mem_of_ne_nil _ (hp.some hl)
  obtain ⟨⟨p0, p1⟩, hno⟩ := mem_freeL.mp hpf
  have hne : mk l ≠ 2 ^ n - 1 := fun e => by
    have := (bits_whole hn a b).mp e p p0 p1
    rw [c p p0 p1, decide_eq_true_eq] at this
    exact hno this
  omega
theorem tabG_full {n : Nat} {F : Int → (Int → Int) → Int} {t : List Int} (hn : n ≤ 8) (h : TabG n F t (-1)) {l : List Int} (hp : Pre n l) (hl : l.length = n) : nameOf t (mk l) = 0 := by
  obtain ⟨a, b, c⟩ := mk_pre hn hp
  rw [(bits_whole hn a b).mpr fun p p0 p1 => by rw [c p p0 p1, decide_eq_true_eq]; exact (hp.perm hl).mem_iff.mpr (mem_ups.mpr ⟨p0, p1⟩)]
  exact h.2.1
theorem tabG_at {n : Nat} {F : Int → (Int → Int) → Int} {t : List Int} (hn : n ≤ 8) (h : TabG n F t (-1)) {l : List Int} (hp : Pre n l) (hl : l.length < n) : nameOf t (mk l) = F (mk l) fun p => nameOf t (mk (l ++ [p])) := by
  have := (mk_pre hn hp).1
  rw [h.2.2 (mk l) (by omega) (not_whole hn hp hl)]
  simp only [mk_push]
theorem wid_best {n : Nat} {ties : List (Int × Int)} {t : List Int} (hn : n ≤ 8) (h : TabG n (FW n ties) t (-1)) : IsBest max n (jw n (joined ties)) fun l => nameOf t (mk l) := by
  refine ⟨fun l hp hl => tabG_full hn h hp hl, fun l hp hl => ?_⟩
  rw [tabG_at hn h hp hl]
  unfold FW
  rw [offs_free hn hp]
  congr 1
  refine List.map_congr_left fun p hp' => ?_
  rw [jm_mk hn hp]
def dHas : Df where
  nm := (Str.ofString "has_place")
  np := 2
  N := [(Str.ofString "number"), (Str.ofString "place")]
  lk := [0, 1]
  body := (.cons (.ret (.cmp .Eq (.bin .Mod (.bin .RShift (.var .pk 0) (.var .pk 1)) (.int 2)) (.int 1))) .nil)
def dNb (a : Nat) : Df where
  nm := (Str.ofString "neighbours")
  np := 3
  N := [(Str.ofString "n"), (Str.ofString "ties"), (Str.ofString "i"), (Str.ofString "j")]
  lk := [0, 1, 2]
  body := (.cons (.ret (.lc true (.nm 3) (.rng1 (.var .pk 0)) (.some (.callP a (.cons (.wk .bor (.var .pk 1)) (.cons (.var .pk 2) (.cons (.var .pk 3) .nil))))) (.var .sh 3))) .nil)
def dNear (a : Nat) : Df where
  nm := (Str.ofString "near_places")
  np := 2
  N := [(Str.ofString "n"), (Str.ofString "ties"), (Str.ofString "place")]
  lk := [0, 1]
  body := (.cons (.ret (.lc true (.nm 2) (.rng1 (.var .pk 0)) .nil (.callP a (.cons (.var .pk 0) (.cons (.wk .bor (.var .pk 1)) (.cons (.var .pk 2) .nil)))))) .nil)
def dJoff (a : Nat) : Df where
  nm := (Str.ofString "joined_when_off")
  np := 3
  N := [(Str.ofString "near"), (Str.ofString "gone"), (Str.ofString "place"), (Str.ofString "met"), (Str.ofString "found"), (Str.ofString "at"), (Str.ofString "other")]
  lk := [0, 1, 2]
  body := (.cons (.asg 3 (.lst (.cons (.var .sh 2) .nil))) (.cons (.asg 4 (.lst .nil)) (.cons (.asg 5 (.int 0)) (.cons (.wh (.cmp .Lt (.var .pk 5) (.b1 .len (.var .pk 3))) (.cons (.fr (.nm 6) (.seq (.idx (.var .pk 0) (.sidx 3 (.var .pk 5)))) (.cons (.ite (.and (.cmp .NotIn (.var .pk 6) (.var .pk 3)) (.cmp .NotIn (.var .pk 6) (.var .pk 4))) (.cons (.ite (.callP a (.cons (.var .pk 1) (.cons (.var .pk 6) .nil))) (.cons (.ex (.app 3 (.var .sh 6))) .nil) (.cons (.ex (.app 4 (.var .sh 6))) .nil)) .nil) .nil) .nil)) (.cons (.aug 5 .Add (.int 1)) .nil))) (.cons (.ret (.b1 .len (.var .pk 4))) .nil)))))
def dLW (a : Nat) (b : Nat) : Df where
  nm := (Str.ofString "least_widths")
  np := 2
  N := [(Str.ofString "n"), (Str.ofString "near"), (Str.ofString "widths"), (Str.ofString "gone"), (Str.ofString "left"), (Str.ofString "place")]
  lk := [0, 1]
  body := (.cons (.asg 2 (.bin .Mult (.lst (.cons (.int 0) .nil)) (.bin .LShift (.int 1) (.var .pk 0)))) (.cons (.fr (.nm 3) (.rng3 (.bin .Sub (.bin .LShift (.int 1) (.var .pk 0)) (.int 2)) (.un .USub (.int 1)) (-1)) (.cons (.asg 4 (.lc true (.nm 5) (.rng1 (.var .pk 0)) (.some (.nt (.callP a (.cons (.var .pk 3) (.cons (.var .pk 5) .nil))))) (.var .sh 5))) (.cons (.set 2 (.var .pk 3) (.b1 .min_ (.lc true (.nm 5) (.seq (.var .pk 4)) .nil (.b2 .max_ (.callP b (.cons (.wk .bor (.var .pk 1)) (.cons (.wk .bor (.var .pk 3)) (.cons (.var .pk 5) .nil)))) (.sidx 2 (.bin .Add (.var .pk 3) (.bin .LShift (.int 1) (.var .pk 5)))))))) .nil))) (.cons (.ret (.var .mv 2)) .nil)))
def dLO (a : Nat) (b : Nat) (c : Nat) (d : Nat) : Df where
  nm := (Str.ofString "least_order")
  np := 2
  N := [(Str.ofString "n"), (Str.ofString "ties"), (Str.ofString "near"), (Str.ofString "widths"), (Str.ofString "order"), (Str.ofString "gone"), (Str.ofString "_"), (Str.ofString "left"), (Str.ofString "fits"), (Str.ofString "place")]
  lk := [0, 1]
  body := (.cons (.asg 2 (.callP a (.cons (.var .pk 0) (.cons (.wk .bor (.var .pk 1)) .nil)))) (.cons (.asg 3 (.callP b (.cons (.var .pk 0) (.cons (.wk .bor (.var .pk 2)) .nil)))) (.cons (.asg 4 (.lst .nil)) (.cons (.asg 5 (.int 0)) (.cons (.fr (.nm 6) (.rng1 (.var .pk 0)) (.cons (.asg 7 (.lc true (.nm 9) (.rng1 (.var .pk 0)) (.some (.nt (.callP c (.cons (.var .pk 5) (.cons (.var .pk 9) .nil))))) (.var .sh 9))) (.cons (.asg 8 (.lc true (.nm 9) (.seq (.var .pk 7)) (.some (.cmp .LtE (.callP d (.cons (.wk .bor (.var .pk 2)) (.cons (.wk .bor (.var .pk 5)) (.cons (.var .pk 9) .nil)))) (.sidx 3 (.int 0)))) (.var .sh 9))) (.cons (.ex (.app 4 (.idx (.lc true (.nm 9) (.seq (.var .pk 8)) (.some (.cmp .LtE (.sidx 3 (.bin .Add (.var .pk 5) (.bin .LShift (.int 1) (.var .pk 9)))) (.sidx 3 (.int 0)))) (.var .sh 9)) (.int 0)))) (.cons (.aug 5 .Add (.bin .LShift (.int 1) (.sidx 4 (.un .USub (.int 1))))) .nil))))) (.cons (.ret (.var .mv 4)) .nil))))))
def dOW (a : Nat) : Df where
  nm := (Str.ofString "order_width")
  np := 3
  N := [(Str.ofString "n"), (Str.ofString "ties"), (Str.ofString "order"), (Str.ofString "left")]
  lk := [0, 1, 2]
  body := (.cons (.ret (.mxd true (.lc true (.nm 3) (.seq (.callP a (.cons (.var .pk 0) (.cons (.wk .bor (.var .pk 1)) (.cons (.wk .bor (.var .pk 2)) .nil))))) .nil (.b1 .len (.var .pk 3))) (.int 0))) .nil)
def dWid (a : Nat) (b : Nat) : Df where
  nm := (Str.ofString "width")
  np := 2
  N := [(Str.ofString "n"), (Str.ofString "ties")]
  lk := [0, 1]
  body := (.cons (.ret (.callP a (.cons (.var .pk 0) (.cons (.wk .bor (.var .pk 1)) (.cons (.wk .bor (.callP b (.cons (.var .pk 0) (.cons (.wk .bor (.var .pk 1)) .nil)))) .nil))))) .nil)
section
variable {P : Tbl} {f a b c d k : Nat} {Q : Ow → D → List (Option (Ow × D)) → Prop}
theorem has_ok {n : Nat} {m p : Int} (ef : P[f]? = some dHas) (hn : n ≤ 8) (h0 : 0 ≤ m) (h1 : m < 2 ^ n) (p0 : 0 ≤ p) (p1 : p < n) (q : ∀ outs, Q .all (.bl (bitF m p)) outs) : cal P (k + 1) f [(.all, .int m), (.all, .int p)] Q := by
  have hC := cal_mono P k
  have q' : ∀ outs, Q .all (.bl (deq (.int ((m / 2 ^ p.toNat) % 2)) (.int 1))) outs := fun outs => by rw [deq_int, (bit_mod hn h0 h1 p0 p1).1]; exact q outs
  refine cal_of dHas ef rfl ?_
  repeat trivial
  exact q' _
theorem nb_ok {n : Nat} {ties : List (Int × Int)} {p : Int} (ef : P[f]? = some (dNb a)) (ea : P[a]? = some (dJoined b)) (eb : P[b]? = some dTie) (hn : n ≤ 1000) (q : ∀ outs, Q .all (lD (nb n ties p)) outs) : cal P (k + 3) f [(.all, .int n), (.bor, tD ties), (.all, .int p)] Q := by
  have hC := cal_mono P (k + 2)
  have hsz : sizeLine = 16777216 := sizeLine_eq
  refine cal_of (dNb a) ef rfl ?_
  refine r_ret (lc_pure ?_ hC)
  repeat trivial
  refine ⟨by omega, by omega, ?_, ?_⟩
  · rw [List.length_map, List.length_range]; omega
  rw [ups_map]
  refine lc_filter hC (ea := D.int) (ups n) (fun q => joined ties p q) (fun p hp => ⟨_, rfl, ?_⟩) ?_
  · repeat trivial
    refine joined_ok ea eb fun outs => ?_
    refine ⟨rfl, fun _ => ?_⟩
    repeat trivial
  · repeat trivial
    exact q _
theorem near_ok {e : Nat} {n : Nat} {ties : List (Int × Int)} (ef : P[f]? = some (dNear e)) (ee : P[e]? = some (dNb a)) (ea : P[a]? = some (dJoined b)) (eb : P[b]? = some dTie) (hn : n ≤ 1000) (q : ∀ outs, Q .all (nearD n ties) outs) : cal P (k + 4) f [(.all, .int n), (.bor, tD ties)] Q := by
  have hC := cal_mono P (k + 3)
  have hsz : sizeLine = 16777216 := sizeLine_eq
  refine cal_of (dNear e) ef rfl ?_
  refine r_ret (lc_pure ?_ hC)
  repeat trivial
  refine ⟨by omega, by omega, ?_, ?_⟩
  · rw [List.length_map, List.length_range]; omega
  rw [ups_map]
  refine lc_map hC (ea := D.int) (eb := lD) (ups n) (fun p => nb n ties p) (fun p hp => ⟨_, rfl, ?_⟩) ?_
  · repeat trivial
    refine nb_ok ee ea eb hn fun outs => ?_
    repeat trivial
  · rw [List.map_map]
    repeat trivial
    exact q _
end
end VH
namespace VH
open PySem PySem.Spec PyProof.Rows L2
local macro_rules | `(tactic| trivial) => `(tactic| first
  | exact rfl
  | refine ⟨⟨_, rfl⟩, ?_⟩
  | refine ⟨⟨_, _, rfl⟩, ?_⟩
  | refine ⟨_, _, rfl, ?_⟩
  | refine ⟨_, rfl, ?_⟩
  | refine ⟨_, _, _, _, _, rfl, rfl, rfl, rfl, ?_⟩
  | refine ⟨_, _, _, _, rfl, rfl, .inr rfl, rfl, ?_⟩
  | refine ⟨_, _, _, _, rfl, rfl, .inl rfl, rfl, ?_⟩
  | refine ⟨_, _, _, rfl, rfl, .inr rfl, rfl, ?_⟩
  | refine ⟨_, _, _, rfl, rfl, .inl rfl, rfl, ?_⟩
  | refine ⟨.inr ⟨by decide, by decide⟩, ?_⟩
  | refine ⟨by decide, by decide, ?_⟩
  | refine ⟨by decide, ?_⟩
  | refine ⟨Nat.le_of_ble_eq_true rfl, ?_⟩
  | refine ⟨List.nodup_nil, _, rfl, ?_⟩
  | refine ⟨nodup1 _, _, rfl, ?_⟩
  | refine ⟨nodup2 (by decide), _, rfl, ?_⟩
  | refine ⟨rfl, ?_⟩)

theorem RP.snoc {A : Int → Int → Bool} {S : Int → Prop} {p r q : Int} (h : r = p ∨ (S r ∧ RP A S p r)) (e : A r q = true) : RP A S p q := by
  rcases h with rfl | ⟨s, h⟩
  · exact .base e
  · exact RP.trans s h (.base e)
/-- places met, places found, so far: those met at the first so many are done with -/
structure BF (n : Nat) (A : Int → Int → Bool) (S : Int → Prop) (p : Int) (met found : List Int) (at_ : Nat) : Prop where
  hd : p ∈ met
  nm : met.Nodup
  nf : found.Nodup
  mm : ∀ r ∈ met, (0 ≤ r ∧ r < (n : Int)) ∧ (r = p ∨ (S r ∧ RP A S p r))
  ff : ∀ q ∈ found, (0 ≤ q ∧ q < (n : Int)) ∧ ¬ S q ∧ q ≠ p ∧ RP A S p q
  clo : ∀ r ∈ met.take at_, ∀ q, 0 ≤ q → q < (n : Int) → A r q = true → q ∈ met ∨ q ∈ found
theorem BF.start {n : Nat} {A : Int → Int → Bool} {S : Int → Prop} {p : Int} (h0 : 0 ≤ p) (h1 : p < n) : BF n A S p [p] [] 0 where
  hd := by simp
  nm := by simp
  nf := List.nodup_nil
  mm := fun r hr => by simp at hr; subst hr; exact ⟨⟨h0, h1⟩, .inl rfl⟩
  ff := fun q hq => by simp at hq
  clo := fun r hr => by simp at hr
theorem BF.len {n : Nat} {A : Int → Int → Bool} {S : Int → Prop} {p : Int} {met found : List Int} {at_ : Nat} (h : BF n A S p met found at_) : met.length ≤ n ∧ found.length ≤ n :=
  ⟨lens_nd h.nm fun r hr => (h.mm r hr).1, lens_nd h.nf fun r hr => (h.ff r hr).1⟩
theorem BF.end_ {n : Nat} {A : Int → Int → Bool} {l : List Int} {p : Int} {met found : List Int} {at_ : Nat} (h : BF n A (· ∈ l) p met found at_) (he : met.length ≤ at_) (hl : ∀ r ∈ l, 0 ≤ r ∧ r < (n : Int)) (hp : p ∉ l) : found.length = (leftL n A l p).length := by
  refine (perm_of h.nf leftL_nodup fun q => ?_).length_eq
  rw [leftL_mem]
  constructor
  · intro hq
    obtain ⟨a, b, c, d⟩ := h.ff q hq
    exact ⟨a, b, c, d⟩
  · rintro ⟨a, b, c, d⟩
    have key : ∀ r q, RP A (· ∈ l) r q → r ∈ met → (0 ≤ q ∧ q < (n : Int)) → q ∈ met ∨ q ∈ found := by
      intro r q w
      induction w with
      | @base r q e => exact fun hr hq => h.clo r (by rw [List.take_of_length_le he]; exact hr) q hq.1 hq.2 e
      | @step r s q e hs w ih =>
        intro hr hq
        have hs' := hl s hs
        rcases h.clo r (by rw [List.take_of_length_le he]; exact hr) s hs'.1 hs'.2 e with h1 | h1
        · exact ih h1 hq
        · exact absurd hs (h.ff s h1).2.1
    rcases key p q d h.hd a with h1 | h1
    · rcases (h.mm q h1).2 with h2 | h2
      · exact absurd h2 c
      · exact absurd h2.1 b
    · exact h1
theorem BF.addM {n : Nat} {A : Int → Int → Bool} {S : Int → Prop} {p : Int} {met found : List Int} {at_ : Nat} (h : BF n A S p met found at_) (hat : at_ ≤ met.length) {cur r : Int} (hc : cur ∈ met) (h0 : 0 ≤ r ∧ r < (n : Int)) (e : A cur r = true) (h1 : r ∉ met) (h2 : r ∉ found) (hs : S r) : BF n A S p (met ++ [r]) found at_ where
  hd := List.mem_append_left _ h.hd
  nm := List.nodup_append.mpr ⟨h.nm, by simp, fun a ha b hb e => h1 (by simp at hb; rw [← hb, ← e]; exact ha)⟩
  nf := h.nf
  mm := fun x hx => (List.mem_append.mp hx).elim (h.mm x) fun hx => by
    simp at hx; subst hx
    exact ⟨h0, .inr ⟨hs, RP.snoc (h.mm cur hc).2 e⟩⟩
  ff := h.ff
  clo := fun x hx q q0 q1 e => by
    rw [List.take_append_of_le_length hat] at hx
    exact (h.clo x hx q q0 q1 e).elim (fun z => .inl (List.mem_append_left _ z)) .inr
theorem BF.addF {n : Nat} {A : Int → Int → Bool} {S : Int → Prop} {p : Int} {met found : List Int} {at_ : Nat} (h : BF n A S p met found at_) {cur r : Int} (hc : cur ∈ met) (h0 : 0 ≤ r ∧ r < (n : Int)) (e : A cur r = true) (h1 : r ∉ met) (h2 : r ∉ found) (hs : ¬ S r) : BF n A S p met (found ++ [r]) at_ where
  hd := h.hd
  nm := h.nm
  nf := List.nodup_append.mpr ⟨h.nf, by simp, fun a ha b hb e => h2 (by simp at hb; rw [← hb, ← e]; exact ha)⟩
  mm := h.mm
  ff := fun x hx => (List.mem_append.mp hx).elim (h.ff x) fun hx => by
    simp at hx; subst hx
    exact ⟨h0, hs, fun z => h1 (by rw [z]; exact h.hd), RP.snoc (h.mm cur hc).2 e⟩
  clo := fun x hx q q0 q1 e => (h.clo x hx q q0 q1 e).elim .inl fun z => .inr (List.mem_append_left _ z)
theorem lD_snoc (l : List Int) (r : Int) : D.lst (l.map D.int ++ [.int r]) = lD (l ++ [r]) := by rw [← List.map_singleton, ← List.map_append]
section
variable {P : Tbl} {f a b c d k : Nat} {Q : Ow → D → List (Option (Ow × D)) → Prop}
theorem joff_ok {n : Nat} {ties : List (Int × Int)} {m p : Int} (ef : P[f]? = some (dJoff a)) (ea : P[a]? = some dHas) (hn : n ≤ 8) (h0 : 0 ≤ m) (h1 : m < 2 ^ n) (p0 : 0 ≤ p) (p1 : p < n) (hb : bitF m p = false) (q : ∀ outs, Q .all (.int (jm n ties m p)) outs) : cal P (k + 2) f [(.bor, nearD n ties), (.all, .int m), (.all, .int p)] Q := by
  have hC := cal_mono P (k + 1)
  have hsz : sizeLine = 16777216 := sizeLine_eq
  refine cal_of (dJoff a) ef rfl ?_
  repeat trivial
  refine wpSs_cut hC (fun ρ => ∃ met found v6, BF n (joined ties) (· ∈ plc n m) p met found met.length ∧ ρ = [some (.bor, nearD n ties), some (.all, .int m), some (.all, .int p), some (.all, lD met), some (.all, lD found), some (.all, .int met.length), v6]) ?_ ?_
  · refine wh_inv hC (fun x ρ => ∃ met found at_ v6, at_ + x = n + 1 ∧ at_ ≤ met.length ∧ BF n (joined ties) (· ∈ plc n m) p met found at_ ∧ ρ = [some (.bor, nearD n ties), some (.all, .int m), some (.all, .int p), some (.all, lD met), some (.all, lD found), some (.all, .int at_), v6]) (n + 1)
      ⟨[p], [], 0, none, by omega, by simp, BF.start p0 p1, rfl⟩ ?_
    rintro x ρ ⟨met, found, at_, v6, hx, hat, hB, rfl⟩
    have hlen := hB.len
    repeat trivial
    by_cases hlt : at_ < met.length
    · rw [if_pos (by rw [List.length_map]; simpa using hlt)]
      have hcur : met[at_]? = some met[at_] := List.getElem?_eq_getElem hlt
      generalize met[at_] = cur at hcur
      have a1 : atI (met.map D.int) (at_ : Int) = some (.int cur) := atI_nat (by rw [List.getElem?_map, hcur]; rfl)
      have hcm := List.mem_of_getElem? hcur
      have hc := hB.mm cur hcm
      have a2 := ups_at (f := fun p => lD (nb n ties p)) hc.1.1 hc.1.2
      refine r_fr ?_
      repeat trivial
      refine ⟨_, a1, ?_⟩
      repeat trivial
      refine ⟨_, a2, ?_⟩
      refine ⟨⟨Ow.noConfusion, Ow.noConfusion⟩, ?_⟩
      refine fr_pre hC (ea := D.int) (fun dn ρ => ∃ met' found' v6, BF n (joined ties) (· ∈ plc n m) p met' found' at_ ∧ met'[at_]? = some cur ∧ (∀ q ∈ dn, q ∈ met' ∨ q ∈ found') ∧ ρ = [some (.bor, nearD n ties), some (.all, .int m), some (.all, .int p), some (.all, lD met'), some (.all, lD found'), some (.all, .int at_), v6])
        ⟨met, found, v6, hB, hcur, fun q hq => by simp at hq, rfl⟩ ?_ ?_
      · rintro dn r po ρ hdn ⟨met', found', v6, hB', hcur', hq', rfl⟩
        obtain ⟨r0, r1⟩ := mem_nb.mp (show r ∈ nb n ties cur by rw [hdn]; simp)
        have hcm' := List.mem_of_getElem? hcur'
        have hl' := hB'.len
        have hat' : at_ ≤ met'.length := Nat.le_of_lt (List.getElem?_eq_some_iff.mp hcur').1
        refine ⟨_, rfl, ?_⟩
        refine st_ite hC ?_
        refine e_and hC ?_
        refine ⟨_, _, rfl, ⟨_, _, rfl, ⟨rfl, plainL _, ?_⟩⟩⟩
        rw [any_encI]
        refine ⟨_, rfl, fun h => ?_, fun h => ?_⟩
        · refine ⟨_, _, rfl, ⟨_, _, rfl, ⟨rfl, plainL _, ?_⟩⟩⟩
          rw [any_encI]
          refine ⟨_, rfl, fun h2 => ?_, fun h2 => ?_⟩
          · simp only [Bool.not_eq_true', decide_eq_false_iff_not] at h h2
            refine st_ite hC ?_
            repeat trivial
            refine has_ok ea hn h0 h1 r0.1 r0.2 fun outs => ?_
            refine ⟨_, rfl, fun hb => ?_, fun hb => ?_⟩
            · have hs : r ∈ plc n m := mem_plc.mpr ⟨r0, hb⟩
              refine r_ex ?_
              repeat trivial
              refine ⟨_, _, _, rfl, rfl, .inr rfl, by rw [List.length_map]; omega, ?_⟩
              have k1 : ∀ q ∈ dn ++ [r], q ∈ met' ++ [r] ∨ q ∈ found' := fun q hq => (List.mem_append.mp hq).elim (fun hq => (hq' q hq).elim (fun z => .inl (List.mem_append_left _ z)) .inr) fun hq => by simp at hq; subst hq; exact .inl (by simp)
              have k2 : (met' ++ [r])[at_]? = some cur := by rw [List.getElem?_append_left (List.getElem?_eq_some_iff.mp hcur').1]; exact hcur'
              rw [lD_snoc]
              exact ⟨met' ++ [r], found', _, hB'.addM hat' hcm' r0 r1 h h2 hs, k2, k1, rfl⟩
            · have hs : ¬ r ∈ plc n m := fun z => by have := (mem_plc.mp z).2; rw [hb] at this; cases this
              refine r_ex ?_
              repeat trivial
              refine ⟨_, _, _, rfl, rfl, .inr rfl, by rw [List.length_map]; omega, ?_⟩
              have k1 : ∀ q ∈ dn ++ [r], q ∈ met' ∨ q ∈ found' ++ [r] := fun q hq => (List.mem_append.mp hq).elim (fun hq => (hq' q hq).elim .inl fun z => .inr (List.mem_append_left _ z)) fun hq => by simp at hq; subst hq; exact .inr (by simp)
              rw [lD_snoc]
              exact ⟨met', found' ++ [r], _, hB'.addF hcm' r0 r1 h h2 hs, hcur', k1, rfl⟩
          · simp only [Bool.not_eq_false', decide_eq_true_eq] at h2
            exact ⟨met', found', _, hB', hcur', fun q hq => (List.mem_append.mp hq).elim (hq' q) fun hq => by simp at hq; subst hq; exact .inr h2, rfl⟩
        · simp only [Bool.not_eq_false', decide_eq_true_eq] at h
          refine ⟨_, rfl, fun h3 => ?_, fun _ => ?_⟩
          · simp [h] at h3
          exact ⟨met', found', _, hB', hcur', fun q hq => (List.mem_append.mp hq).elim (hq' q) fun hq => by simp at hq; subst hq; exact .inl h, rfl⟩
      · rintro ρ ⟨met', found', v6, hB', hcur', hq', rfl⟩
        have hl' := hB'.len
        have hat' : at_ < met'.length := (List.getElem?_eq_some_iff.mp hcur').1
        repeat trivial
        refine ⟨x - 1, by omega, met', found', at_ + 1, v6, by omega, by omega, ⟨hB'.hd, hB'.nm, hB'.nf, hB'.mm, hB'.ff, fun r hr q q0 q1 e => ?_⟩, rfl⟩
        rw [List.take_succ, hcur'] at hr
        rcases List.mem_append.mp hr with hr | hr
        · exact hB'.clo r hr q q0 q1 e
        · simp at hr; subst hr
          exact hq' q (mem_nb.mpr ⟨⟨q0, q1⟩, e⟩)
    · rw [if_neg (by rw [List.length_map]; simpa using hlt)]
      have e : at_ = met.length := by omega
      subst e
      exact ⟨met, found, v6, hB, rfl⟩
  · rintro ρ ⟨met, found, v6, hB, rfl⟩
    repeat trivial
    rw [List.length_map, hB.end_ (Nat.le_refl _) (fun r hr => (mem_plc.mp hr).1) fun z => by have := (mem_plc.mp z).2; rw [hb] at this; cases this]
    exact q _
end
end VH
namespace VH
open PySem PySem.Spec PyProof.Rows L2
local macro_rules | `(tactic| trivial) => `(tactic| first
  | exact rfl
  | refine ⟨⟨_, rfl⟩, ?_⟩
  | refine ⟨⟨_, _, rfl⟩, ?_⟩
  | refine ⟨_, _, rfl, ?_⟩
  | refine ⟨_, rfl, ?_⟩
  | refine ⟨_, _, _, _, _, rfl, rfl, rfl, rfl, ?_⟩
  | refine ⟨_, _, _, _, rfl, rfl, .inr rfl, rfl, ?_⟩
  | refine ⟨_, _, _, _, rfl, rfl, .inl rfl, rfl, ?_⟩
  | refine ⟨_, _, _, rfl, rfl, .inr rfl, rfl, ?_⟩
  | refine ⟨_, _, _, rfl, rfl, .inl rfl, rfl, ?_⟩
  | refine ⟨.inr ⟨by decide, by decide⟩, ?_⟩
  | refine ⟨by decide, by decide, ?_⟩
  | refine ⟨by decide, ?_⟩
  | refine ⟨Nat.le_of_ble_eq_true rfl, ?_⟩
  | refine ⟨List.nodup_nil, _, rfl, ?_⟩
  | refine ⟨nodup1 _, _, rfl, ?_⟩
  | refine ⟨nodup2 (by decide), _, rfl, ?_⟩
  | refine ⟨rfl, ?_⟩)

theorem e_idx {C : CallS} {ρ : VH.Env} {a b : E} {Q : KE} (w : wpE C a ρ fun o1 d1 ρ1 => wp2 o1 d1 (wpE C b) ρ1 fun _ d2 ρ2 => ∃ d, getI d1 d2 = some d ∧ Q (kidO o1 d) d ρ2) : wpE C (.idx a b) ρ Q := w
theorem e_mxd {C : CallS} {ρ : VH.Env} {mx : Bool} {a d : E} {Q : KE} (w : wpE C a ρ fun o v ρ1 => ∃ ns, v = .lst (ns.map D.int) ∧ wp2 o v (wpE C d) ρ1 fun _ dd ρ2 => solid dd = true ∧
      if ns = [] then Q .all dd ρ2 else ∀ m, m ∈ ns → (if mx = true then ∀ y, y ∈ ns → y ≤ m else ∀ y, y ∈ ns → m ≤ y) → Q .all (.int m) ρ2) : wpE C (.mxd mx a d) ρ Q := w
theorem atI_head (p : Int) (ps : List Int) : atI ((p :: ps).map D.int) 0 = some (.int p) := atI_nat (j := 0) (by simp)
section
variable {P : Tbl} {f a b c d k : Nat} {Q : Ow → D → List (Option (Ow × D)) → Prop}
theorem lw_ok {n : Nat} {ties : List (Int × Int)} (ef : P[f]? = some (dLW a b)) (ea : P[a]? = some dHas) (eb : P[b]? = some (dJoff a)) (hn : n ≤ 8) (q : ∀ outs t, TabG n (FW n ties) t (-1) → Q .all (lD t) outs) : cal P (k + 3) f [(.all, .int n), (.bor, nearD n ties)] Q := by
  have hC := cal_mono P (k + 2)
  have hsz : sizeLine = 16777216 := sizeLine_eq
  have h1n : (1 : Int) * 2 ^ ((n : Int).toNat) = ((2 ^ n : Nat) : Int) := by rw [Int.toNat_natCast]; simp
  have hpw : 2 ^ n ≤ 256 := Nat.pow_le_pow_right (by decide : 0 < 2) hn
  have hpz : (2 : Int) ^ n = ((2 ^ n : Nat) : Int) := by simp
  have hpp : 0 < 2 ^ n := Nat.two_pow_pos n
  refine cal_of (dLW a b) ef rfl ?_
  refine r_asg ?_
  repeat trivial
  refine ⟨by omega, by omega, by decide, ?_⟩
  rw [h1n]
  refine ⟨by omega, by omega, ?_, rfl, ?_⟩
  · rw [List.length_singleton]; omega
  rw [rep_ints]
  have hT0 : TabG n (FW n ties) (List.replicate (((2 ^ n : Nat) : Int)).toNat 0) (2 ^ n - 1 - 1) := by
    rw [Int.toNat_natCast]; exact tabG_start
  generalize List.replicate (((2 ^ n : Nat) : Int)).toNat (0 : Int) = t0 at hT0 ⊢
  refine ⟨_, rfl, ?_⟩
  refine r_fr ?_
  repeat trivial
  refine ⟨by omega, by omega, by decide, ?_⟩
  rw [h1n]
  refine wp2_free rfl ?_
  refine ⟨_, rfl, ?_⟩
  refine ⟨-1, _, rfl, L2.RgC.neg (by omega) (by omega) (by omega) (by omega), ?_⟩
  refine ⟨⟨Ow.noConfusion, Ow.noConfusion⟩, ?_⟩
  refine fr_inv hC (fun i ρ => ∃ t v3 v4 v5, TabG n (FW n ties) t ((2 ^ n : Nat) - 1 - 1 - i) ∧ ρ = [some (.all, .int n), some (.bor, nearD n ties), some (.all, lD t), v3, v4, v5])
    ⟨t0, none, none, none, ?_, rfl⟩ ?_ ?_
  · rw [hpz] at hT0
    simpa using hT0
  · rintro i d ρ hd ⟨t, v3, v4, v5, hT, rfl⟩
    obtain ⟨hi, v, hv, rfl⟩ : i < 2 ^ n - 1 ∧ ∃ v : Int, v = (2 ^ n : Nat) - 1 - 1 - i ∧ d = .int v := by
      have h2 := (List.getElem?_eq_some_iff.mp hd).1
      rw [List.length_map, List.length_range] at h2
      rw [List.getElem?_map, List.getElem?_range h2] at hd
      refine ⟨by omega, _, rfl, ?_⟩
      rw [← Option.some.inj hd]
      show D.int (((2 ^ n : Nat) : Int) - 2 + (i : Int) * -1) = D.int (((2 ^ n : Nat) : Int) - 1 - 1 - i)
      rw [show ((2 ^ n : Nat) : Int) - 2 + (i : Int) * -1 = ((2 ^ n : Nat) : Int) - 1 - 1 - i by omega]
    rw [← hv] at hT
    have v0 : 0 ≤ v := by omega
    have v1 : v < 2 ^ n - 1 := by omega
    have htl : (t.length : Int) = 2 ^ n := by rw [hT.1]; simp
    refine ⟨_, rfl, ?_⟩
    refine r_asg (lc_pure ?_ hC)
    repeat trivial
    refine ⟨by omega, by omega, ?_, ?_⟩
    · rw [List.length_map, List.length_range]; omega
    rw [ups_map]
    refine lc_filter hC (ea := D.int) (ups n) (fun p => !bitF v p) (fun p hp => ⟨_, rfl, ?_⟩) ?_
    · have hp := mem_ups.mp hp
      refine e_nt ?_
      repeat trivial
      refine has_ok ea hn v0 (by omega) hp.1 hp.2 fun outs => ?_
      refine ⟨_, rfl, rfl, fun h => ?_⟩
      repeat trivial
    have hne : offs n v ≠ [] := fun e => by
      have := (bits_whole hn v0 (by omega)).mpr fun p p0 p1 => by
        have := List.filter_eq_nil_iff.mp e p (mem_ups.mpr ⟨p0, p1⟩)
        rwa [Bool.not_eq_true', Bool.not_eq_false] at this
      omega
    rw [show (ups n).filter (fun p => !bitF v p) = offs n v from rfl]
    have hlo : (offs n v).length ≤ n := Nat.le_trans (List.length_filter_le _ _) (by rw [ups_len]; omega)
    refine ⟨_, rfl, ?_⟩
    refine e_b1 (lc_pure ?_ hC)
    refine ⟨_, _, rfl, ?_⟩
    refine ⟨by rw [List.length_map]; omega, ?_⟩
    refine lc_map hC (ea := D.int) (eb := D.int) (offs n v) (fun p => max (jm n ties v p) (nameOf t (orB v p))) (fun p hp => ⟨_, rfl, ?_⟩) ?_
    · obtain ⟨hp, hb⟩ := mem_offs.mp hp
      obtain ⟨b1, b2, b3, b4, b5⟩ := bits_or hn v0 (by omega) hp.1 hp.2
      have em := (bit_mod hn v0 (by omega) hp.1 hp.2).2 hb
      have a1 := atI_gI (l := t) b1 (by omega)
      repeat trivial
      refine joff_ok eb ea hn v0 (by omega) hp.1 hp.2 hb fun outs => ?_
      repeat trivial
      refine ⟨hp.1, by omega, by decide, ?_⟩
      repeat trivial
      refine ⟨.int (nameOf t (orB v p)), ?_, ?_⟩
      · rw [em]; exact a1
      generalize jm n ties v p = x
      generalize nameOf t (orB v p) = y
      repeat trivial
      rw [show (max x y : Int) = if y > x then y else x by split <;> omega]
    · refine s1_min (by simpa using hne) ?_
      have hst := tabG_step hn FW_same hT v0 v1
      rw [show FW n ties v (fun p => nameOf t (orB v p)) = minI ((offs n v).map fun p => max (jm n ties v p) (nameOf t (orB v p))) from rfl] at hst
      generalize minI ((offs n v).map fun p => max (jm n ties v p) (nameOf t (orB v p))) = y at hst ⊢
      repeat trivial
      refine ⟨_, _, _, _, rfl, rfl, .inr rfl, ixN_of v0 (by rw [List.length_map]; omega), ?_⟩
      refine ⟨t.set v.toNat y, some (.all, .int v), some (.all, lD (offs n v)), v5, by rw [show ((2 ^ n : Nat) : Int) - 1 - 1 - ((i + 1 : Nat) : Int) = v - 1 by omega]; exact hst, ?_⟩
      rw [show lD (t.set v.toNat y) = .lst ((t.map D.int).set v.toNat (.int y)) by unfold lD; rw [List.map_set]]
      rfl
  · rintro ρ ⟨t, v3, v4, v5, hT, rfl⟩
    rw [List.length_map, List.length_range] at hT
    have hT : TabG n (FW n ties) t (-1) := by
      rw [show (-1 : Int) = ((2 ^ n : Nat) : Int) - 1 - 1 - (((((2 ^ n : Nat) : Int) - 2 - -1).toNat : Nat) : Int) by omega]
      exact hT
    repeat trivial
    exact q _ t hT
theorem valF_nonneg {f : List Int → Int} (hf : ∀ l, 0 ≤ f l) : ∀ (r l : List Int), 0 ≤ valL max f l r
  | [], _ => Int.le_refl _
  | p :: r, l => by
    show 0 ≤ max (f (l ++ [p])) _
    have := hf (l ++ [p])
    omega
theorem bestF_nonneg {n : Nat} {f B : List Int → Int} (hf : ∀ l, 0 ≤ f l) (h : IsBest max n f B) : 0 ≤ B [] := by
  obtain ⟨r, _, _, e⟩ := h.some n [] Pre.nil (by simp)
  rw [← e]; exact valF_nonneg hf _ _
theorem best_nonneg {n : Nat} {A : Int → Int → Bool} {B : List Int → Int} (h : IsBest max n (jw n A) B) : 0 ≤ B [] := bestF_nonneg (jw_nonneg n A) h
/-- an order of the least value, and the first such -/
def LeastF (n : Nat) (f : List Int → Int) (o : List Int) : Prop := Pre n o ∧ o.length = n ∧ ∀ o', Pre n o' → o'.length = n → valL max f [] o ≤ valL max f [] o' ∧ (o' < o → valL max f [] o' ≠ valL max f [] o)
abbrev LeastO (n : Nat) (A : Int → Int → Bool) (o : List Int) : Prop := LeastF n (jw n A) o
theorem least_ofF {n : Nat} {f B : List Int → Int} (hf : ∀ l, 0 ≤ f l) (h : IsBest max n f B) {o : List Int} (g : Greedy max n f B [] 0 o) : LeastF n f o ∧ valL max f [] o = B [] := by
  have h0 : ∀ r, max 0 (valL max f [] r) = valL max f [] ([] ++ r) := fun r => by have := valF_nonneg hf r []; rw [List.nil_append]; omega
  have hb := bestF_nonneg hf h
  obtain ⟨a, b, c⟩ := h.greedy_val comb_max o [] 0 g Pre.nil h0 (by omega)
  rw [List.nil_append] at a b c
  refine ⟨⟨a, b, fun o' p' l' => ⟨?_, fun hlt => ?_⟩⟩, c⟩
  · have := h.le comb_max o' [] (by rw [List.nil_append]; exact p') (by rw [List.nil_append]; exact l')
    rw [c]; exact this
  · have := h.greedy_first comb_max o [] 0 g h0 o' (by rw [List.nil_append]; exact p') (by rw [List.nil_append]; exact l') hlt
    rw [c]; exact this
theorem least_of {n : Nat} {A : Int → Int → Bool} {B : List Int → Int} (h : IsBest max n (jw n A) B) {o : List Int} (g : Greedy max n (jw n A) B [] 0 o) : LeastO n A o ∧ widL n A o = B [] := least_ofF (jw_nonneg n A) h g
/-- the next place, as the program takes it -/
theorem greedy_next {n : Nat} {f B : List Int → Int} (h : IsBest max n f B) {l : List Int} {c : Int} (hp : Pre n l) (hl : l.length < n) (hc : max c (B l) = B []) :
    ∃ p ps, (freeL n l).filter (fun p => decide (f (l ++ [p]) ≤ B []) && decide (B (l ++ [p]) ≤ B [])) = p :: ps ∧ p ∈ freeL n l ∧ fitL max f B l c p ∧ (∀ q ∈ freeL n l, q < p → ¬ fitL max f B l c q) ∧ max (max c (f (l ++ [p]))) (B (l ++ [p])) = B [] := by
  have hst := h.step l hp hl
  have hne : ((freeL n l).map fun p => max (f (l ++ [p])) (B (l ++ [p]))) ≠ [] := fun e => hp.some hl (by simpa using e)
  obtain ⟨p0, hp0, e0⟩ := List.mem_map.mp (minI_mem hne)
  rw [← hst] at e0
  have fit_iff : ∀ q ∈ freeL n l, fitL max f B l c q ↔ (f (l ++ [q]) ≤ B [] ∧ B (l ++ [q]) ≤ B []) := fun q hq => by
    have hm : B l ≤ max (f (l ++ [q])) (B (l ++ [q])) := by
      rw [hst]; exact minI_le (List.mem_map.mpr ⟨q, hq, rfl⟩)
    unfold fitL
    constructor
    · intro e; omega
    · rintro ⟨e1, e2⟩; omega
  have hin : p0 ∈ (freeL n l).filter (fun p => decide (f (l ++ [p]) ≤ B []) && decide (B (l ++ [p]) ≤ B [])) := by
    rw [List.mem_filter, Bool.and_eq_true, decide_eq_true_eq, decide_eq_true_eq]
    exact ⟨hp0, by omega, by omega⟩
  cases hf : (freeL n l).filter (fun p => decide (f (l ++ [p]) ≤ B []) && decide (B (l ++ [p]) ≤ B [])) with
  | nil => rw [hf] at hin; simp at hin
  | cons p ps =>
    have hpm : p ∈ (freeL n l).filter (fun p => decide (f (l ++ [p]) ≤ B []) && decide (B (l ++ [p]) ≤ B [])) := by rw [hf]; simp
    rw [List.mem_filter, Bool.and_eq_true, decide_eq_true_eq, decide_eq_true_eq] at hpm
    have hfit := (fit_iff p hpm.1).mpr hpm.2
    refine ⟨p, ps, rfl, hpm.1, hfit, fun q hq hlt hfq => ?_, hfit⟩
    have hqm : q ∈ (freeL n l).filter (fun p => decide (f (l ++ [p]) ≤ B []) && decide (B (l ++ [p]) ≤ B [])) := by
      rw [List.mem_filter, Bool.and_eq_true, decide_eq_true_eq, decide_eq_true_eq]
      exact ⟨hq, (fit_iff q hq).mp hfq⟩
    have hs : ((freeL n l).filter (fun p => decide (f (l ++ [p]) ≤ B []) && decide (B (l ++ [p]) ≤ B []))).Pairwise (· < ·) := List.Pairwise.filter _ (List.Pairwise.filter _ (ups_sorted n))
    rw [hf] at hqm hs
    rcases List.mem_cons.mp hqm with e | hqm
    · omega
    · have := (List.pairwise_cons.mp hs).1 q hqm; omega
theorem lo_ok {e g : Nat} {n : Nat} {ties : List (Int × Int)} (ef : P[f]? = some (dLO e g a b)) (ee : P[e]? = some (dNear c)) (ec : P[c]? = some (dNb d)) {j : Nat} (ed : P[d]? = some (dJoined j)) (ejj : P[j]? = some dTie) (eg : P[g]? = some (dLW a b)) (ea : P[a]? = some dHas) (eb : P[b]? = some (dJoff a)) (hn : n ≤ 8)
    (q : ∀ outs o, LeastO n (joined ties) o → Q .all (lD o) outs) : cal P (k + 5) f [(.all, .int n), (.bor, tD ties)] Q := by
  have hC := cal_mono P (k + 4)
  have hsz : sizeLine = 16777216 := sizeLine_eq
  have hpw : 2 ^ n ≤ 256 := Nat.pow_le_pow_right (by decide : 0 < 2) hn
  have hpz : (2 : Int) ^ n = ((2 ^ n : Nat) : Int) := by simp
  have hpp : 0 < 2 ^ n := Nat.two_pow_pos n
  refine cal_of (dLO e g a b) ef rfl ?_
  refine r_asg ?_
  repeat trivial
  refine near_ok ee ec ed ejj (by omega) fun outs => ?_
  repeat trivial
  refine lw_ok eg ea eb hn fun outs t hT => ?_
  have hB := wid_best hn hT
  have htl : (t.length : Int) = 2 ^ n := by rw [hT.1]; simp
  have a0 := atI_gI (l := t) (Int.le_refl 0) (by omega)
  have mk0 : mk [] = 0 := rfl
  have hb0 := best_nonneg hB
  repeat trivial
  refine ⟨by omega, by omega, ⟨Ow.noConfusion, Ow.noConfusion⟩, ?_⟩
  rw [ups_map]
  refine fr_pre hC (ea := D.int) (fun pre ρ => ∃ (l : List Int) (c : Int) (v6 v7 v8 v9 : Option (Ow × D)), l.length = pre.length ∧ Pre n l ∧ max c (nameOf t (mk l)) = nameOf t 0 ∧ (∀ r, Greedy max n (jw n (joined ties)) (fun l => nameOf t (mk l)) l c r → Greedy max n (jw n (joined ties)) (fun l => nameOf t (mk l)) [] 0 (l ++ r)) ∧
      ρ = [some (.all, .int n), some (.bor, tD ties), some (.all, nearD n ties), some (.all, lD t), some (.all, lD l), some (.all, .int (mk l)), v6, v7, v8, v9])
    ⟨[], 0, none, none, none, none, rfl, Pre.nil, by rw [mk0] at hb0 ⊢; omega, fun r h => h, rfl⟩ ?_ ?_
  · rintro pre x post ρ hx ⟨l, cc, v6, v7, v8, v9, hll, hp, hcc, hgr, rfl⟩
    have hln : l.length < n := by
      have : (ups n).length = n := by rw [ups_len]; omega
      rw [hx, List.length_append, List.length_cons] at this; omega
    obtain ⟨m0, m1, m2⟩ := mk_pre hn hp
    obtain ⟨p, ps, hfe, hpf, hfit, hno, hcc'⟩ := greedy_next hB hp hln hcc
    have hml := not_whole hn hp hln
    refine ⟨_, rfl, ?_⟩
    refine r_asg (lc_pure ?_ hC)
    repeat trivial
    refine ⟨by omega, by omega, ?_, ?_⟩
    · rw [List.length_map, List.length_range]; omega
    rw [ups_map]
    refine lc_filter hC (ea := D.int) (ups n) (fun p => !bitF (mk l) p) (fun p hp => ⟨_, rfl, ?_⟩) ?_
    · have hp := mem_ups.mp hp
      refine e_nt ?_
      repeat trivial
      refine has_ok ea hn m0 m1 hp.1 hp.2 fun outs => ?_
      refine ⟨_, rfl, rfl, fun h => ?_⟩
      repeat trivial
    rw [show (ups n).filter (fun p => !bitF (mk l) p) = freeL n l from offs_free hn hp]
    have hlo : (freeL n l).length ≤ n := Nat.le_trans (List.length_filter_le _ _) (by rw [ups_len]; omega)
    refine ⟨_, rfl, ?_⟩
    refine r_asg (lc_pure ?_ hC)
    refine ⟨_, _, rfl, ?_⟩
    refine ⟨by rw [List.length_map]; omega, ?_⟩
    refine lc_filter hC (ea := D.int) (freeL n l) (fun p => decide (jw n (joined ties) (l ++ [p]) ≤ nameOf t 0)) (fun p hpp => ⟨_, rfl, ?_⟩) ?_
    · obtain ⟨hr, hno⟩ := mem_freeL.mp hpp
      have hb : bitF (mk l) p = false := by rw [m2 p hr.1 hr.2]; simpa using hno
      repeat trivial
      refine joff_ok eb ea hn m0 m1 hr.1 hr.2 hb fun outs => ?_
      rw [jm_mk hn hp]
      repeat trivial
      refine ⟨_, a0, ?_⟩
      refine ⟨rfl, fun _ => ?_⟩
      repeat trivial
    refine ⟨_, rfl, ?_⟩
    refine r_ex ?_
    refine ⟨⟨_, _, rfl⟩, ?_⟩
    refine e_idx (lc_pure ?_ hC)
    refine ⟨_, _, rfl, ?_⟩
    have hlf : ((freeL n l).filter fun p => decide (jw n (joined ties) (l ++ [p]) ≤ nameOf t 0)).length ≤ n := Nat.le_trans (List.length_filter_le _ _) hlo
    refine ⟨by rw [List.length_map]; omega, ?_⟩
    refine lc_filter hC (ea := D.int) _ (fun p => decide (nameOf t (mk (l ++ [p])) ≤ nameOf t 0)) (fun p hpp => ⟨_, rfl, ?_⟩) ?_
    · obtain ⟨hr, hno⟩ := mem_freeL.mp (List.mem_filter.mp hpp).1
      have hb : bitF (mk l) p = false := by rw [m2 p hr.1 hr.2]; simpa using hno
      obtain ⟨b1, b2, b3, b4, b5⟩ := bits_or hn m0 m1 hr.1 hr.2
      have em := (bit_mod hn m0 m1 hr.1 hr.2).2 hb
      have a1 := atI_gI (l := t) b1 (by omega)
      repeat trivial
      refine ⟨hr.1, by omega, by decide, ?_⟩
      repeat trivial
      refine ⟨.int (nameOf t (orB (mk l) p)), ?_, ?_⟩
      · rw [em]; exact a1
      repeat trivial
      refine ⟨_, a0, ?_⟩
      rw [mk_push]
      refine ⟨rfl, fun _ => ?_⟩
      repeat trivial
    rw [List.filter_filter, show (freeL n l).filter (fun a => decide (nameOf t (mk (l ++ [a])) ≤ nameOf t 0) && decide (jw n (joined ties) (l ++ [a]) ≤ nameOf t 0)) = p :: ps by rw [← hfe]; exact List.filter_congr fun q _ => Bool.and_comm _ _]
    have hpr := (mem_freeL.mp hpf).1
    have hbp : bitF (mk l) p = false := by rw [m2 p hpr.1 hpr.2]; simpa using (mem_freeL.mp hpf).2
    have emp := (bit_mod hn m0 m1 hpr.1 hpr.2).2 hbp
    have hlc : l.length < sizeLine := by omega
    have al : atI (l.map D.int ++ [.int p]) (-1) = some (.int p) := atI_last _ _
    have hal : getI (.lst (l.map D.int ++ [.int p])) (.int (-1)) = some (.int p) := al
    refine wp2_free rfl ?_
    refine ⟨_, atI_head p ps, ?_⟩
    refine ⟨_, _, _, rfl, rfl, .inr rfl, by rw [List.length_map]; exact hlc, ?_⟩
    repeat trivial
    refine ⟨_, hal, ?_⟩
    refine ⟨hpr.1, by omega, by decide, ?_⟩
    repeat trivial
    unfold augI
    dsimp only
    rw [lD_snoc, emp, ← mk_push]
    refine ⟨l ++ [p], max cc (jw n (joined ties) (l ++ [p])), _, _, _, _, by rw [List.length_append, List.length_append, hll]; rfl, hp.push hpf, hcc', fun r hr => ?_, rfl⟩
    rw [List.append_assoc]
    exact hgr _ (.step hpf hfit hno hr)
  · rintro ρ ⟨l, cc, v6, v7, v8, v9, hll, hp, hcc, hgr, rfl⟩
    have hln : l.length = n := by rw [hll, ups_len]; omega
    have hg := hgr [] (.done hln)
    rw [List.append_nil] at hg
    repeat trivial
    exact q _ _ (least_of hB hg).1
theorem wid_max {n : Nat} {A : Int → Int → Bool} (o : List Int) : widL n A o = if ((leftsL n A [] o).map fun x => (x.length : Int)) = [] then 0 else maxI ((leftsL n A [] o).map fun x => (x.length : Int)) := by
  unfold widL
  rw [wid_lefts, foldr_max _ fun x hx => by obtain ⟨y, _, rfl⟩ := List.mem_map.mp hx; omega]
theorem ow_ok {n : Nat} {ties : List (Int × Int)} {o : List Int} (ef : P[f]? = some (dOW a)) (ea : P[a]? = some dNL) (hn : n ≤ 1000) (hg : GoodT n ties) (ht : ties.length ≤ 1000) (ho : Pre n o) (q : ∀ outs, Q .all (.int (widL n (joined ties) o)) outs) : cal P (k + 2) f [(.all, .int n), (.bor, tD ties), (.bor, lD o)] Q := by
  have hC := cal_mono P (k + 1)
  have hsz : sizeLine = 16777216 := sizeLine_eq
  have hl := ho.len
  refine cal_of (dOW a) ef rfl ?_
  refine r_ret (e_mxd (lc_pure ?_ hC))
  repeat trivial
  refine nleft_ok ea hn hg ht ho fun outs => ?_
  refine ⟨by rw [List.length_map, leftsL_len]; omega, ?_⟩
  refine lc_map hC (ea := lD) (eb := D.int) _ (fun x => (x.length : Int)) (fun p hp => ⟨_, rfl, ?_⟩) ?_
  · repeat trivial
    rw [List.length_map]
    repeat trivial
  refine ⟨_, rfl, ?_⟩
  repeat trivial
  have e := wid_max (n := n) (A := joined ties) o
  split
  · rename_i h
    rw [if_pos h] at e
    repeat trivial
    rw [← e]; exact q _
  · rename_i h
    rw [if_neg h] at e
    intro m h1 h2
    rw [if_pos rfl] at h2
    rw [maxI_eq h1 h2, ← e]
    repeat trivial
    exact q _
theorem wd_ok {e g h : Nat} {n : Nat} {ties : List (Int × Int)} {w j nl : Nat} (ew : P[w]? = some (dWid f h)) (eo : P[f]? = some (dOW nl)) (enl : P[nl]? = some dNL) (eh : P[h]? = some (dLO e g a b)) (ee : P[e]? = some (dNear c)) (ec : P[c]? = some (dNb d)) (ed : P[d]? = some (dJoined j)) (ejj : P[j]? = some dTie) (eg : P[g]? = some (dLW a b)) (ea : P[a]? = some dHas) (eb : P[b]? = some (dJoff a)) (hn : n ≤ 8) (hg : GoodT n ties) (ht : ties.length ≤ 1000)
    (q : ∀ outs o, LeastO n (joined ties) o → Q .all (.int (widL n (joined ties) o)) outs) : cal P (k + 6) w [(.all, .int n), (.bor, tD ties)] Q := by
  have hC := cal_mono P (k + 5)
  refine cal_of (dWid f h) ew rfl ?_
  repeat trivial
  refine lo_ok eh ee ec ed ejj eg ea eb hn fun outs o hL => ?_
  repeat trivial
  refine ow_ok eo enl (by omega) hg ht hL.1 fun outs => ?_
  repeat trivial
  exact q _ _ hL
end
end VH
namespace VH
open PySem PySem.Spec PyProof.Rows L2
local macro_rules | `(tactic| trivial) => `(tactic| first
  | exact rfl
  | refine ⟨⟨_, rfl⟩, ?_⟩
  | refine ⟨⟨_, _, rfl⟩, ?_⟩
  | refine ⟨_, _, rfl, ?_⟩
  | refine ⟨_, rfl, ?_⟩
  | refine ⟨_, _, _, _, _, rfl, rfl, rfl, rfl, ?_⟩
  | refine ⟨_, _, _, _, rfl, rfl, .inr rfl, rfl, ?_⟩
  | refine ⟨_, _, _, _, rfl, rfl, .inl rfl, rfl, ?_⟩
  | refine ⟨_, _, _, rfl, rfl, .inr rfl, rfl, ?_⟩
  | refine ⟨_, _, _, rfl, rfl, .inl rfl, rfl, ?_⟩
  | refine ⟨.inr ⟨by decide, by decide⟩, ?_⟩
  | refine ⟨by decide, by decide, ?_⟩
  | refine ⟨by decide, ?_⟩
  | refine ⟨Nat.le_of_ble_eq_true rfl, ?_⟩
  | refine ⟨List.nodup_nil, _, rfl, ?_⟩
  | refine ⟨nodup1 _, _, rfl, ?_⟩
  | refine ⟨nodup2 (by decide), _, rfl, ?_⟩
  | refine ⟨rfl, ?_⟩)

def hasN (m p : Int) : Bool := m.toNat.testBit p.toNat
theorem tb_add {m p : Nat} (h : m.testBit p = false) (j : Nat) : (m + 2 ^ p).testBit j = (m.testBit j || decide (j = p)) := by
  have e0 : m = 2 ^ p * (m / 2 ^ p) + m % 2 ^ p := (Nat.div_add_mod _ _).symm
  have e1 : m + 2 ^ p = 2 ^ p * (m / 2 ^ p + 1) + m % 2 ^ p := by rw [Nat.mul_add, Nat.mul_one]; omega
  have hl := Nat.mod_lt m (Nat.two_pow_pos p)
  have f0 : ∀ j, m.testBit j = if j < p then (m % 2 ^ p).testBit j else (m / 2 ^ p).testBit (j - p) := fun j => by
    conv => lhs; rw [e0]
    exact Nat.testBit_two_pow_mul_add _ hl j
  have hk : (m / 2 ^ p).testBit 0 = false := by
    have := f0 p
    rw [if_neg (by omega), Nat.sub_self] at this
    rw [← this]; exact h
  rw [e1, Nat.testBit_two_pow_mul_add _ hl, f0 j]
  generalize m / 2 ^ p = k at hk
  by_cases hj : j < p
  · rw [if_pos hj, if_pos hj, decide_eq_false (by omega), Bool.or_false]
  · rw [if_neg hj, if_neg hj]
    have hk2 : k % 2 = 0 := by
      rw [Nat.testBit_eq_decide_div_mod_eq] at hk
      simp at hk; omega
    by_cases hjp : j = p
    · subst hjp
      rw [Nat.sub_self, decide_eq_true rfl, Bool.or_true, Nat.testBit_eq_decide_div_mod_eq]
      simp; omega
    · rw [decide_eq_false hjp, Bool.or_false]
      obtain ⟨i, hi⟩ : ∃ i, j - p = i + 1 := ⟨j - p - 1, by omega⟩
      rw [hi, Nat.testBit_add_one, Nat.testBit_add_one]
      congr 1; omega
theorem has_div {m p : Int} (h0 : 0 ≤ m) (p0 : 0 ≤ p) : decide ((m / 2 ^ p.toNat) % 2 = 1) = hasN m p := by
  obtain ⟨a, rfl⟩ := Int.eq_ofNat_of_zero_le h0
  unfold hasN
  rw [Int.toNat_natCast, Nat.testBit_eq_decide_div_mod_eq]
  refine decide_eq_decide.mpr ?_
  have e : ((a : Int) / 2 ^ p.toNat) % 2 = ((a / 2 ^ p.toNat % 2 : Nat) : Int) := by simp
  rw [e]; omega
/-- the number of some places -/
def mkI (l : List Int) : Int := l.foldl (fun m p => m + 1 * 2 ^ p.toNat) 0
theorem mkI_push (l : List Int) (p : Int) : mkI (l ++ [p]) = mkI l + 1 * 2 ^ p.toNat := by unfold mkI; rw [List.foldl_append]; rfl
theorem mkI_ok : ∀ (l : List Int), (∀ p ∈ l, 0 ≤ p) → l.Nodup → 0 ≤ mkI l ∧ ∀ q : Int, 0 ≤ q → hasN (mkI l) q = decide (q ∈ l) := by
  intro l
  induction l using snoc_ind with
  | h0 =>
    intro _ _
    refine ⟨Int.le_refl _, fun q _ => ?_⟩
    show (0 : Nat).testBit _ = _
    simp
  | h1 l x ih =>
    intro hp hd
    obtain ⟨a, b⟩ := ih (fun p hp' => hp p (by simp [hp'])) (List.nodup_append.mp hd).1
    have hx : x ∉ l := fun h => (List.nodup_append.mp hd).2.2 x h x (by simp) rfl
    have x0 := hp x (by simp)
    rw [mkI_push]
    have hpow : (0 : Int) ≤ 2 ^ x.toNat := Int.le_of_lt (Int.pow_pos (by decide))
    refine ⟨by omega, fun q q0 => ?_⟩
    have e : (mkI l + 1 * 2 ^ x.toNat).toNat = (mkI l).toNat + 2 ^ x.toNat := by
      have : ((2 ^ x.toNat : Nat) : Int) = 2 ^ x.toNat := by simp
      omega
    have hb : (mkI l).toNat.testBit x.toNat = false := by
      have := b x x0
      unfold hasN at this
      rw [this]; simpa using hx
    have bq := b q q0
    unfold hasN at bq ⊢
    rw [e, tb_add hb, bq, Bool.eq_iff_iff]
    simp only [Bool.or_eq_true, decide_eq_true_eq, List.mem_append, List.mem_singleton]
    exact ⟨fun h => h.elim .inl fun h => .inr (by omega), fun h => h.elim .inl fun h => .inr (by rw [h])⟩
theorem bitF_has {n : Nat} {m p : Int} (hn : n ≤ 8) (h0 : 0 ≤ m) (h1 : m < 2 ^ n) (p0 : 0 ≤ p) (p1 : p < n) : hasN m p = bitF m p := by
  rw [← (bit_mod hn h0 h1 p0 p1).1, has_div h0 p0]
def behindL (n : Nat) (ties : List (Int × Int)) (l : List Int) : List Int := (ups n).filter fun p => decide (p ∈ l) && !((ups n).all fun q => !joined ties p q || decide (q ∈ l))
def jb (n : Nat) (ties : List (Int × Int)) (l : List Int) : Int := ((behindL n ties l).length : Nat)
def jbH (n : Nat) (ties : List (Int × Int)) (h : Int → Bool) : Int := ((((ups n).filter h).filter fun p => !((nb n ties p).all h)).length : Nat)
theorem jbH_eq {n : Nat} {ties : List (Int × Int)} {l : List Int} {h : Int → Bool} (hh : ∀ q : Int, 0 ≤ q → q < n → h q = decide (q ∈ l)) : jbH n ties h = jb n ties l := by
  unfold jbH jb
  congr 2
  unfold behindL nb
  rw [List.filter_filter]
  refine List.filter_congr fun p hp => ?_
  rw [hh p (mem_ups.mp hp).1 (mem_ups.mp hp).2, Bool.and_comm]
  congr 2
  rw [List.all_filter, Bool.eq_iff_iff, List.all_eq_true, List.all_eq_true]
  refine forall_congr' fun q => forall_congr' fun hq => ?_
  rw [hh q (mem_ups.mp hq).1 (mem_ups.mp hq).2]
theorem slc_init {α β : Type} (f : α → β) (xs : List α) : ((xs.map f).drop (HT.sIx (xs.map f).length 0 none)).take (HT.sIx (xs.map f).length (xs.map f).length (some (-1)) - HT.sIx (xs.map f).length 0 none) = xs.dropLast.map f := by
  rw [HT.sIx_none, List.drop_zero, Nat.sub_zero, show HT.sIx (xs.map f).length (xs.map f).length (some (-1)) = xs.length - 1 from by
    simp only [HT.sIx]
    rw [if_pos (by decide), List.length_map]; omega]
  rw [List.dropLast_eq_take, List.map_take]
/-- the sizes of the cuts of an order -/
def cutsL (n : Nat) (ties : List (Int × Int)) (o : List Int) (c : Nat) : List Int := (List.range c).map fun i => jb n ties (o.take (i + 1))
def dJB (a : Nat) : Df where
  nm := (Str.ofString "joined_behind")
  np := 2
  N := [(Str.ofString "near"), (Str.ofString "ahead"), (Str.ofString "places"), (Str.ofString "place"), (Str.ofString "other")]
  lk := [0, 1]
  body := (.cons (.asg 2 (.lc true (.nm 3) (.rng1 (.b1 .len (.var .pk 0))) (.some (.callP a (.cons (.var .pk 1) (.cons (.var .pk 3) .nil)))) (.var .sh 3))) (.cons (.ret (.b1 .len (.lc true (.nm 3) (.seq (.var .pk 2)) (.some (.nt (.b1 .all_ (.lc true (.nm 4) (.seq (.sidx 0 (.var .pk 3))) .nil (.callP a (.cons (.var .pk 1) (.cons (.var .pk 4) .nil))))))) (.var .sh 3)))) .nil))
def dCS (a : Nat) (b : Nat) : Df where
  nm := (Str.ofString "cut_sizes")
  np := 3
  N := [(Str.ofString "n"), (Str.ofString "ties"), (Str.ofString "order"), (Str.ofString "near"), (Str.ofString "sizes"), (Str.ofString "ahead"), (Str.ofString "place")]
  lk := [0, 1, 2]
  body := (.cons (.asg 3 (.callP a (.cons (.var .pk 0) (.cons (.wk .bor (.var .pk 1)) .nil)))) (.cons (.asg 4 (.lst .nil)) (.cons (.asg 5 (.int 0)) (.cons (.fr (.nm 6) (.seq (.slc (.var .pk 2) .nil (.some (.un .USub (.int 1))))) (.cons (.aug 5 .Add (.bin .LShift (.int 1) (.var .pk 6))) (.cons (.ex (.app 4 (.callP b (.cons (.wk .bor (.var .pk 3)) (.cons (.wk .bor (.var .pk 5)) .nil))))) .nil))) (.cons (.ret (.var .mv 4)) .nil)))))
def dLC (a : Nat) (b : Nat) : Df where
  nm := (Str.ofString "least_cuts")
  np := 2
  N := [(Str.ofString "n"), (Str.ofString "near"), (Str.ofString "cuts"), (Str.ofString "ahead"), (Str.ofString "further"), (Str.ofString "place")]
  lk := [0, 1]
  body := (.cons (.asg 2 (.bin .Mult (.lst (.cons (.int 0) .nil)) (.bin .LShift (.int 1) (.var .pk 0)))) (.cons (.fr (.nm 3) (.rng3 (.bin .Sub (.bin .LShift (.int 1) (.var .pk 0)) (.int 2)) (.un .USub (.int 1)) (-1)) (.cons (.asg 4 (.lc true (.nm 5) (.rng1 (.var .pk 0)) (.some (.nt (.callP a (.cons (.var .pk 3) (.cons (.var .pk 5) .nil))))) (.idx (.var .pk 2) (.bin .Add (.var .pk 3) (.bin .LShift (.int 1) (.var .pk 5)))))) (.cons (.set 2 (.var .pk 3) (.b2 .max_ (.callP b (.cons (.wk .bor (.var .pk 1)) (.cons (.wk .bor (.var .pk 3)) .nil))) (.b1 .min_ (.var .pk 4)))) .nil))) (.cons (.ret (.var .mv 2)) .nil)))
def dRW (a : Nat) (b : Nat) : Df where
  nm := (Str.ofString "row_width")
  np := 2
  N := [(Str.ofString "n"), (Str.ofString "ties")]
  lk := [0, 1]
  body := (.cons (.ret (.idx (.callP a (.cons (.var .pk 0) (.cons (.wk .bor (.callP b (.cons (.var .pk 0) (.cons (.wk .bor (.var .pk 1)) .nil)))) .nil))) (.int 0))) .nil)
section
variable {P : Tbl} {f a b c d k : Nat} {Q : Ow → D → List (Option (Ow × D)) → Prop}
theorem hasG_ok {m p : Int} (ef : P[f]? = some dHas) (h0 : 0 ≤ m) (p0 : 0 ≤ p) (q : ∀ outs, Q .all (.bl (hasN m p)) outs) : cal P (k + 1) f [(.all, .int m), (.all, .int p)] Q := by
  have hC := cal_mono P k
  have q' : ∀ outs, Q .all (.bl (deq (.int ((m / 2 ^ p.toNat) % 2)) (.int 1))) outs := fun outs => by rw [deq_int, has_div h0 p0]; exact q outs
  refine cal_of dHas ef rfl ?_
  repeat trivial
  exact q' _
theorem jb_ok {n : Nat} {ties : List (Int × Int)} {m : Int} (ef : P[f]? = some (dJB a)) (ea : P[a]? = some dHas) (hn : n ≤ 1000) (h0 : 0 ≤ m) (q : ∀ outs, Q .all (.int (jbH n ties (hasN m))) outs) : cal P (k + 2) f [(.bor, nearD n ties), (.all, .int m)] Q := by
  have hC := cal_mono P (k + 1)
  have hsz : sizeLine = 16777216 := sizeLine_eq
  refine cal_of (dJB a) ef rfl ?_
  refine r_asg (lc_pure ?_ hC)
  repeat trivial
  rw [List.length_map, ups_len]
  refine ⟨by omega, by omega, ?_, ?_⟩
  · rw [List.length_map, List.length_range]; omega
  rw [show (((n : Int).toNat : Nat) : Int) = n by omega, ups_map]
  refine lc_filter hC (ea := D.int) (ups n) (fun p => hasN m p) (fun p hp => ⟨_, rfl, ?_⟩) ?_
  · have hp := mem_ups.mp hp
    repeat trivial
    refine hasG_ok ea h0 hp.1 fun outs => ?_
    refine ⟨rfl, fun _ => ?_⟩
    repeat trivial
  refine ⟨_, rfl, ?_⟩
  refine r_ret (e_b1 (lc_pure ?_ hC))
  refine ⟨_, _, rfl, ?_⟩
  have hlp : ((ups n).filter fun p => hasN m p).length ≤ n := Nat.le_trans (List.length_filter_le _ _) (by rw [ups_len]; omega)
  refine ⟨by rw [List.length_map]; omega, ?_⟩
  refine lc_filter hC (ea := D.int) _ (fun p => !((nb n ties p).all fun q => hasN m q)) (fun p hp => ⟨_, rfl, ?_⟩) ?_
  · have hp := mem_ups.mp (List.mem_filter.mp hp).1
    refine e_nt (e_b1 (lc_pure ?_ hC))
    have a1 := ups_at (f := fun p => lD (nb n ties p)) hp.1 hp.2
    repeat trivial
    refine ⟨_, a1, ?_⟩
    have hlb := nb_len n ties p
    refine ⟨by rw [List.length_map]; omega, ?_⟩
    refine lc_map hC (ea := D.int) (eb := D.bl) (nb n ties p) (fun q => hasN m q) (fun r hr => ⟨_, rfl, ?_⟩) ?_
    · have hr := (mem_nb.mp hr).1
      repeat trivial
      refine hasG_ok ea h0 hr.1 fun outs => ?_
      repeat trivial
    · refine s1_all ?_
      refine ⟨_, rfl, ?_⟩
      rw [List.all_map]
      refine ⟨rfl, fun _ => ?_⟩
      repeat trivial
  · refine s1_len ?_
    repeat trivial
    exact q _
theorem cs_ok {e g h : Nat} {n : Nat} {ties : List (Int × Int)} {o : List Int} (ef : P[f]? = some (dCS e g)) (ee : P[e]? = some (dNear c)) (ec : P[c]? = some (dNb d)) (ed : P[d]? = some (dJoined h)) (eh : P[h]? = some dTie) (eg : P[g]? = some (dJB a)) (ea : P[a]? = some dHas) (hn : n ≤ 1000) (ho : Pre n o) (q : ∀ outs, Q .all (lD (cutsL n ties o (o.length - 1))) outs) : cal P (k + 5) f [(.all, .int n), (.bor, tD ties), (.bor, lD o)] Q := by
  have hC := cal_mono P (k + 4)
  have hsz : sizeLine = 16777216 := sizeLine_eq
  have hl := ho.len
  refine cal_of (dCS e g) ef rfl ?_
  refine r_asg ?_
  repeat trivial
  refine near_ok ee ec ed eh hn fun outs => ?_
  repeat trivial
  refine ⟨_, kidsO_solid (solid_ints _), ?_⟩
  rw [slc_init]
  refine ⟨⟨Ow.noConfusion, Ow.noConfusion⟩, ?_⟩
  refine fr_pre hC (ea := D.int) (fun pre ρ => ∃ v6, ρ = [some (.all, .int n), some (.bor, tD ties), some (.bor, lD o), some (.all, nearD n ties), some (.all, lD (cutsL n ties o pre.length)), some (.all, .int (mkI pre)), v6])
    ⟨none, rfl⟩ ?_ ?_
  · rintro pre x post ρ hx ⟨v6, rfl⟩
    have e1 : pre ++ [x] = o.take (pre.length + 1) := by
      have : o.take (pre.length + 1) = (o.dropLast).take (pre.length + 1) := by
        rw [List.dropLast_eq_take, List.take_take]
        congr 1
        have := congrArg List.length hx
        rw [List.length_dropLast, List.length_append, List.length_cons] at this
        omega
      rw [this, hx, List.take_append, List.take_of_length_le (Nat.le_succ _), show pre.length + 1 - pre.length = 1 by omega]
      rfl
    have hsub : ∀ p ∈ pre ++ [x], p ∈ o := fun p hp => by rw [e1] at hp; exact List.mem_of_mem_take hp
    have hnd : (pre ++ [x]).Nodup := by rw [e1]; exact List.Nodup.sublist (List.take_sublist _ _) ho.1
    obtain ⟨m0, m1⟩ := mkI_ok (pre ++ [x]) (fun p hp => (ho.2 p (hsub p hp)).1) hnd
    have hx0 := ho.2 x (hsub x (by simp))
    have hpl : pre.length ≤ n := by
      have := congrArg List.length hx
      rw [List.length_dropLast, List.length_append, List.length_cons] at this
      omega
    have hcl : (cutsL n ties o pre.length).length = pre.length := by unfold cutsL; rw [List.length_map, List.length_range]
    have e2 : cutsL n ties o (pre.length + 1) = cutsL n ties o pre.length ++ [jb n ties (pre ++ [x])] := by
      unfold cutsL; rw [List.range_succ, List.map_append, e1]; rfl
    refine ⟨_, rfl, ?_⟩
    repeat trivial
    refine ⟨hx0.1, by omega, by decide, ?_⟩
    repeat trivial
    rw [← mkI_push]
    refine jb_ok eg ea hn m0 fun outs => ?_
    rw [jbH_eq fun q q0 _ => m1 q q0]
    refine ⟨_, _, _, rfl, rfl, .inr rfl, by rw [List.length_map, hcl]; omega, ?_⟩
    rw [lD_snoc, ← e2]
    exact ⟨_, by rw [List.length_append]; rfl⟩
  · rintro ρ ⟨v6, rfl⟩
    repeat trivial
    rw [List.length_dropLast]
    exact q _
/-- the least cuts -/
def FC (n : Nat) (ties : List (Int × Int)) (m : Int) (h : Int → Int) : Int := max (jbH n ties (hasN m)) (minI ((offs n m).map h))
theorem FC_same {n : Nat} {ties : List (Int × Int)} (m : Int) (h h' : Int → Int) (e : ∀ p ∈ offs n m, h p = h' p) : FC n ties m h = FC n ties m h' := by
  unfold FC
  rw [List.map_congr_left e]
theorem lcuts_ok {n : Nat} {ties : List (Int × Int)} (ef : P[f]? = some (dLC a b)) (ea : P[a]? = some dHas) (eb : P[b]? = some (dJB a)) (hn : n ≤ 8) (q : ∀ outs t, TabG n (FC n ties) t (-1) → Q .all (lD t) outs) : cal P (k + 3) f [(.all, .int n), (.bor, nearD n ties)] Q := by
  have hC := cal_mono P (k + 2)
  have hsz : sizeLine = 16777216 := sizeLine_eq
  have h1n : (1 : Int) * 2 ^ ((n : Int).toNat) = ((2 ^ n : Nat) : Int) := by rw [Int.toNat_natCast]; simp
  have hpw : 2 ^ n ≤ 256 := Nat.pow_le_pow_right (by decide : 0 < 2) hn
  have hpz : (2 : Int) ^ n = ((2 ^ n : Nat) : Int) := by simp
  have hpp : 0 < 2 ^ n := Nat.two_pow_pos n
  refine cal_of (dLC a b) ef rfl ?_
  refine r_asg ?_
  repeat trivial
  refine ⟨by omega, by omega, by decide, ?_⟩
  rw [h1n]
  refine ⟨by omega, by omega, ?_, rfl, ?_⟩
  · rw [List.length_singleton]; omega
  rw [rep_ints]
  have hT0 : TabG n (FC n ties) (List.replicate (((2 ^ n : Nat) : Int)).toNat 0) (2 ^ n - 1 - 1) := by
    rw [Int.toNat_natCast]; exact tabG_start
  generalize List.replicate (((2 ^ n : Nat) : Int)).toNat (0 : Int) = t0 at hT0 ⊢
  refine ⟨_, rfl, ?_⟩
  refine r_fr ?_
  repeat trivial
  refine ⟨by omega, by omega, by decide, ?_⟩
  rw [h1n]
  refine wp2_free rfl ?_
  refine ⟨_, rfl, ?_⟩
  refine ⟨-1, _, rfl, L2.RgC.neg (by omega) (by omega) (by omega) (by omega), ?_⟩
  refine ⟨⟨Ow.noConfusion, Ow.noConfusion⟩, ?_⟩
  refine fr_inv hC (fun i ρ => ∃ t v3 v4 v5, TabG n (FC n ties) t ((2 ^ n : Nat) - 1 - 1 - i) ∧ ρ = [some (.all, .int n), some (.bor, nearD n ties), some (.all, lD t), v3, v4, v5])
    ⟨t0, none, none, none, ?_, rfl⟩ ?_ ?_
  · rw [hpz] at hT0
    simpa using hT0
  · rintro i d ρ hd ⟨t, v3, v4, v5, hT, rfl⟩
    obtain ⟨hi, v, hv, rfl⟩ : i < 2 ^ n - 1 ∧ ∃ v : Int, v = (2 ^ n : Nat) - 1 - 1 - i ∧ d = .int v := by
      have h2 := (List.getElem?_eq_some_iff.mp hd).1
      rw [List.length_map, List.length_range] at h2
      rw [List.getElem?_map, List.getElem?_range h2] at hd
      refine ⟨by omega, _, rfl, ?_⟩
      rw [← Option.some.inj hd]
      show D.int (((2 ^ n : Nat) : Int) - 2 + (i : Int) * -1) = D.int (((2 ^ n : Nat) : Int) - 1 - 1 - i)
      rw [show ((2 ^ n : Nat) : Int) - 2 + (i : Int) * -1 = ((2 ^ n : Nat) : Int) - 1 - 1 - i by omega]
    rw [← hv] at hT
    have v0 : 0 ≤ v := by omega
    have v1 : v < 2 ^ n - 1 := by omega
    have htl : (t.length : Int) = 2 ^ n := by rw [hT.1]; simp
    refine ⟨_, rfl, ?_⟩
    refine r_asg (lc_pure ?_ hC)
    repeat trivial
    refine ⟨by omega, by omega, ?_, ?_⟩
    · rw [List.length_map, List.length_range]; omega
    rw [ups_map]
    refine lc_fm hC (ea := D.int) (eb := D.int) (ups n) (fun p => !bitF v p) (fun p => nameOf t (orB v p)) (fun p hp => ⟨_, rfl, ?_⟩) ?_
    · have hp := mem_ups.mp hp
      obtain ⟨b1, b2, b3, b4, b5⟩ := bits_or hn v0 (by omega) hp.1 hp.2
      refine e_nt ?_
      repeat trivial
      refine has_ok ea hn v0 (by omega) hp.1 hp.2 fun outs => ?_
      refine ⟨_, rfl, rfl, fun h => ?_⟩
      have em := (bit_mod hn v0 (by omega) hp.1 hp.2).2 (by rwa [Bool.not_eq_true'] at h)
      have a1 := atI_gI (l := t) b1 (by omega)
      repeat trivial
      refine ⟨hp.1, by omega, by decide, ?_⟩
      repeat trivial
      refine ⟨.int (nameOf t (orB v p)), ?_, ?_⟩
      · rw [em]; exact a1
      repeat trivial
    · have hne : offs n v ≠ [] := fun e => by
        have := (bits_whole hn v0 (by omega)).mpr fun p p0 p1 => by
          have := List.filter_eq_nil_iff.mp e p (mem_ups.mpr ⟨p0, p1⟩)
          rwa [Bool.not_eq_true', Bool.not_eq_false] at this
        omega
      rw [show (ups n).filter (fun p => !bitF v p) = offs n v from rfl]
      refine ⟨_, rfl, ?_⟩
      repeat trivial
      refine jb_ok eb ea (by omega) v0 fun outs => ?_
      have hst := tabG_step hn FC_same hT v0 v1
      rw [show FC n ties v (fun p => nameOf t (orB v p)) = max (jbH n ties (hasN v)) (minI ((offs n v).map fun p => nameOf t (orB v p))) from rfl] at hst
      refine ⟨rfl, e_b1 ?_⟩
      refine ⟨_, _, rfl, ?_⟩
      refine s1_min (by simpa using hne) ?_
      repeat trivial
      refine ⟨_, _, _, _, rfl, rfl, .inr rfl, ixN_of v0 (by rw [List.length_map]; omega), ?_⟩
      generalize minI ((offs n v).map fun p => nameOf t (orB v p)) = y at hst ⊢
      generalize jbH n ties (hasN v) = x at hst ⊢
      refine ⟨t.set v.toNat (max x y), some (.all, .int v), some (.all, lD ((offs n v).map fun p => nameOf t (orB v p))), v5, by rw [show ((2 ^ n : Nat) : Int) - 1 - 1 - ((i + 1 : Nat) : Int) = v - 1 by omega]; exact hst, ?_⟩
      rw [show (max x y : Int) = if y > x then y else x by split <;> omega]
      rw [show lD (t.set v.toNat (if y > x then y else x)) = .lst ((t.map D.int).set v.toNat (.int (if y > x then y else x))) by unfold lD; rw [List.map_set]]
      rfl
  · rintro ρ ⟨t, v3, v4, v5, hT, rfl⟩
    rw [List.length_map, List.length_range] at hT
    have hT : TabG n (FC n ties) t (-1) := by
      rw [show (-1 : Int) = ((2 ^ n : Nat) : Int) - 1 - 1 - (((((2 ^ n : Nat) : Int) - 2 - -1).toNat : Nat) : Int) by omega]
      exact hT
    repeat trivial
    exact q _ t hT
end
end VH
namespace VH
open PySem PySem.Spec PyProof.Rows L2
local macro_rules | `(tactic| trivial) => `(tactic| first
  | exact rfl
  | refine ⟨⟨_, rfl⟩, ?_⟩
  | refine ⟨⟨_, _, rfl⟩, ?_⟩
  | refine ⟨_, _, rfl, ?_⟩
  | refine ⟨_, rfl, ?_⟩
  | refine ⟨_, _, _, _, _, rfl, rfl, rfl, rfl, ?_⟩
  | refine ⟨_, _, _, _, rfl, rfl, .inr rfl, rfl, ?_⟩
  | refine ⟨_, _, _, _, rfl, rfl, .inl rfl, rfl, ?_⟩
  | refine ⟨_, _, _, rfl, rfl, .inr rfl, rfl, ?_⟩
  | refine ⟨_, _, _, rfl, rfl, .inl rfl, rfl, ?_⟩
  | refine ⟨.inr ⟨by decide, by decide⟩, ?_⟩
  | refine ⟨by decide, by decide, ?_⟩
  | refine ⟨by decide, ?_⟩
  | refine ⟨Nat.le_of_ble_eq_true rfl, ?_⟩
  | refine ⟨List.nodup_nil, _, rfl, ?_⟩
  | refine ⟨nodup1 _, _, rfl, ?_⟩
  | refine ⟨nodup2 (by decide), _, rfl, ?_⟩
  | refine ⟨rfl, ?_⟩)

def rowf (n : Nat) (ties : List (Int × Int)) (l : List Int) : Int := jb n ties l.dropLast
theorem jb_nonneg (n : Nat) (ties : List (Int × Int)) (l : List Int) : 0 ≤ jb n ties l := by unfold jb; omega
theorem rowf_push {n : Nat} {ties : List (Int × Int)} {l : List Int} {p : Int} : rowf n ties (l ++ [p]) = jb n ties l := by unfold rowf; rw [List.dropLast_concat]
theorem minI_max {xs : List Int} {g : Int → Int} {c : Int} (h : xs ≠ []) : minI (xs.map fun p => max c (g p)) = max c (minI (xs.map g)) := by
  have h1 : (xs.map g) ≠ [] := by simpa using h
  have h2 : (xs.map fun p => max c (g p)) ≠ [] := by simpa using h
  obtain ⟨p, hp, e⟩ := List.mem_map.mp (minI_mem h1)
  obtain ⟨q, hq, e2⟩ := List.mem_map.mp (minI_mem h2)
  have a1 := minI_le (List.mem_map.mpr ⟨p, hp, rfl⟩ : max c (g p) ∈ xs.map fun p => max c (g p))
  have a2 := minI_le (List.mem_map.mpr ⟨q, hq, rfl⟩ : g q ∈ xs.map g)
  omega
theorem fc_at {n : Nat} {ties : List (Int × Int)} {t : List Int} (hn : n ≤ 8) (h : TabG n (FC n ties) t (-1)) {l : List Int} (hp : Pre n l) (hl : l.length < n) : nameOf t (mk l) = max (jb n ties l) (minI ((freeL n l).map fun p => nameOf t (mk (l ++ [p])))) := by
  obtain ⟨a, b, c⟩ := mk_pre hn hp
  rw [tabG_at hn h hp hl]
  unfold FC
  rw [offs_free hn hp, jbH_eq fun q q0 q1 => by rw [bitF_has hn a b q0 q1]; exact c q q0 q1]
theorem row_best {n : Nat} {ties : List (Int × Int)} {t : List Int} (hn : n ≤ 8) (h : TabG n (FC n ties) t (-1)) : IsBest max n (rowf n ties) fun l => nameOf t (mk l) := by
  refine ⟨fun l hp hl => tabG_full hn h hp hl, fun l hp hl => ?_⟩
  rw [fc_at hn h hp hl, ← minI_max (hp.some hl)]
  congr 1
  refine List.map_congr_left fun p hp' => ?_
  rw [rowf_push]
theorem row_cond {n : Nat} {ties : List (Int × Int)} {t : List Int} (hn : n ≤ 8) (h : TabG n (FC n ties) t (-1)) {l : List Int} {c : Int} (hp : Pre n l) (hl : l.length < n) (hc : max c (nameOf t (mk l)) = nameOf t (mk [])) :
    (freeL n l).filter (fun p => decide (rowf n ties (l ++ [p]) ≤ nameOf t (mk [])) && decide (nameOf t (mk (l ++ [p])) ≤ nameOf t (mk []))) = (freeL n l).filter fun p => decide (nameOf t (mk (l ++ [p])) ≤ nameOf t (mk [])) := by
  refine List.filter_congr fun p _ => ?_
  have := fc_at hn h hp hl
  rw [rowf_push, decide_eq_true (by omega), Bool.true_and]
theorem slc_from {α β : Type} (f : α → β) (xs : List α) (m : Nat) {k : Int} (hk : k = m) (hm : m ≤ xs.length) : ((xs.map f).drop (HT.sIx (xs.map f).length 0 (some k))).take (HT.sIx (xs.map f).length (xs.map f).length none - HT.sIx (xs.map f).length 0 (some k)) = (xs.drop m).map f := by
  subst hk
  rw [HT.sIx_none, HT.sIx_nat, List.length_map, Nat.min_eq_left hm, ← List.map_drop]
  rw [List.take_of_length_le (by rw [List.length_map, List.length_drop]; omega)]
/-- the bag of an order's place: those before it joined to it or to one behind it -/
def inB (n : Nat) (ties : List (Int × Int)) (o : List Int) (at_ : Nat) (p : Int) : Bool := (nb n ties p).any fun q => decide (q ∈ o.drop at_)
def bagL (n : Nat) (ties : List (Int × Int)) (o : List Int) (at_ : Nat) : List Int := srtI ((o.take at_).filter (inB n ties o at_) ++ [o.getD at_ 0])
def bagsL (n : Nat) (ties : List (Int × Int)) (o : List Int) : List (List Int) := (List.range n).map fun at_ => bagL n ties o at_
def dFO (a : Nat) (b : Nat) (c : Nat) : Df where
  nm := (Str.ofString "first_order")
  np := 2
  N := [(Str.ofString "n"), (Str.ofString "ties"), (Str.ofString "cuts"), (Str.ofString "order"), (Str.ofString "ahead"), (Str.ofString "_"), (Str.ofString "left"), (Str.ofString "place")]
  lk := [0, 1]
  body := (.cons (.asg 2 (.callP a (.cons (.var .pk 0) (.cons (.wk .bor (.callP b (.cons (.var .pk 0) (.cons (.wk .bor (.var .pk 1)) .nil)))) .nil)))) (.cons (.asg 3 (.lst .nil)) (.cons (.asg 4 (.int 0)) (.cons (.fr (.nm 5) (.rng1 (.var .pk 0)) (.cons (.asg 6 (.lc true (.nm 7) (.rng1 (.var .pk 0)) (.some (.nt (.callP c (.cons (.var .pk 4) (.cons (.var .pk 7) .nil))))) (.var .sh 7))) (.cons (.ex (.app 3 (.idx (.lc true (.nm 7) (.seq (.var .pk 6)) (.some (.cmp .LtE (.sidx 2 (.bin .Add (.var .pk 4) (.bin .LShift (.int 1) (.var .pk 7)))) (.sidx 2 (.int 0)))) (.var .sh 7)) (.int 0)))) (.cons (.aug 4 .Add (.bin .LShift (.int 1) (.sidx 3 (.un .USub (.int 1))))) .nil)))) (.cons (.ret (.var .mv 3)) .nil)))))
def dBagAt : Df where
  nm := (Str.ofString "bag_at")
  np := 3
  N := [(Str.ofString "near"), (Str.ofString "order"), (Str.ofString "at"), (Str.ofString "later"), (Str.ofString "place"), (Str.ofString "other")]
  lk := [0, 1, 2]
  body := (.cons (.asg 3 (.slc (.var .pk 1) (.some (.var .pk 2)) .nil)) (.cons (.ret (.b1 .sorted_ (.bin .Add (.lc true (.nm 4) (.seq (.slc (.var .pk 1) .nil (.some (.var .pk 2)))) (.some (.b1 .any_ (.lc true (.nm 5) (.seq (.sidx 0 (.var .pk 4))) .nil (.cmp .In (.var .pk 5) (.var .pk 3))))) (.var .sh 4)) (.lst (.cons (.idx (.var .pk 1) (.var .pk 2)) .nil))))) .nil))
def dRT (a : Nat) (b : Nat) (c : Nat) : Df where
  nm := (Str.ofString "row_told")
  np := 2
  N := [(Str.ofString "n"), (Str.ofString "ties"), (Str.ofString "near"), (Str.ofString "order"), (Str.ofString "at")]
  lk := [0, 1]
  body := (.cons (.asg 2 (.callP a (.cons (.var .pk 0) (.cons (.wk .bor (.var .pk 1)) .nil)))) (.cons (.asg 3 (.callP b (.cons (.var .pk 0) (.cons (.wk .bor (.var .pk 1)) .nil)))) (.cons (.ret (.tupM 3 (.lc true (.nm 4) (.rng1 (.var .pk 0)) .nil (.callP c (.cons (.wk .bor (.var .pk 2)) (.cons (.wk .bor (.var .pk 3)) (.cons (.var .pk 4) .nil))))))) .nil)))
section
variable {P : Tbl} {f a b c d k : Nat} {Q : Ow → D → List (Option (Ow × D)) → Prop}
theorem rw_ok {e g h : Nat} {n : Nat} {ties : List (Int × Int)} (ef : P[f]? = some (dRW g e)) (ee : P[e]? = some (dNear c)) (ec : P[c]? = some (dNb d)) (ed : P[d]? = some (dJoined h)) (eh : P[h]? = some dTie) (eg : P[g]? = some (dLC a b)) (ea : P[a]? = some dHas) (eb : P[b]? = some (dJB a)) (hn : n ≤ 8)
    (q : ∀ outs t, TabG n (FC n ties) t (-1) → Q .all (.int (nameOf t 0)) outs) : cal P (k + 5) f [(.all, .int n), (.bor, tD ties)] Q := by
  have hC := cal_mono P (k + 4)
  have hpp : 0 < 2 ^ n := Nat.two_pow_pos n
  refine cal_of (dRW g e) ef rfl ?_
  repeat trivial
  refine near_ok ee ec ed eh (by omega) fun outs => ?_
  repeat trivial
  refine lcuts_ok eg ea eb hn fun outs t hT => ?_
  have a0 := atI_gI (l := t) (Int.le_refl 0) (by have := hT.1; omega)
  repeat trivial
  refine ⟨_, a0, ?_⟩
  repeat trivial
  exact q _ _ hT
theorem fo_ok {e g h : Nat} {n : Nat} {ties : List (Int × Int)} (ef : P[f]? = some (dFO g e a)) (ee : P[e]? = some (dNear c)) (ec : P[c]? = some (dNb d)) (ed : P[d]? = some (dJoined h)) (eh : P[h]? = some dTie) (eg : P[g]? = some (dLC a b)) (ea : P[a]? = some dHas) (eb : P[b]? = some (dJB a)) (hn : n ≤ 8)
    (q : ∀ outs o, LeastF n (rowf n ties) o → Q .all (lD o) outs) : cal P (k + 5) f [(.all, .int n), (.bor, tD ties)] Q := by
  have hC := cal_mono P (k + 4)
  have hsz : sizeLine = 16777216 := sizeLine_eq
  have hpw : 2 ^ n ≤ 256 := Nat.pow_le_pow_right (by decide : 0 < 2) hn
  have hpz : (2 : Int) ^ n = ((2 ^ n : Nat) : Int) := by simp
  have hpp : 0 < 2 ^ n := Nat.two_pow_pos n
  refine cal_of (dFO g e a) ef rfl ?_
  refine r_asg ?_
  repeat trivial
  refine near_ok ee ec ed eh (by omega) fun outs => ?_
  repeat trivial
  refine lcuts_ok eg ea eb hn fun outs t hT => ?_
  have hB := row_best hn hT
  have htl : (t.length : Int) = 2 ^ n := by rw [hT.1]; simp
  have a0 := atI_gI (l := t) (Int.le_refl 0) (by omega)
  have mk0 : mk [] = 0 := rfl
  have hb0 := bestF_nonneg (fun l => jb_nonneg n ties l.dropLast) hB
  repeat trivial
  refine ⟨by omega, by omega, ⟨Ow.noConfusion, Ow.noConfusion⟩, ?_⟩
  rw [ups_map]
  refine fr_pre hC (ea := D.int) (fun pre ρ => ∃ (l : List Int) (cc : Int) (v5 v6 v7 : Option (Ow × D)), l.length = pre.length ∧ Pre n l ∧ max cc (nameOf t (mk l)) = nameOf t 0 ∧ (∀ r, Greedy max n (rowf n ties) (fun l => nameOf t (mk l)) l cc r → Greedy max n (rowf n ties) (fun l => nameOf t (mk l)) [] 0 (l ++ r)) ∧
      ρ = [some (.all, .int n), some (.bor, tD ties), some (.all, lD t), some (.all, lD l), some (.all, .int (mk l)), v5, v6, v7])
    ⟨[], 0, none, none, none, rfl, Pre.nil, by rw [mk0] at hb0 ⊢; omega, fun r h => h, rfl⟩ ?_ ?_
  · rintro pre x post ρ hx ⟨l, cc, v5, v6, v7, hll, hp, hcc, hgr, rfl⟩
    have hln : l.length < n := by
      have : (ups n).length = n := by rw [ups_len]; omega
      rw [hx, List.length_append, List.length_cons] at this; omega
    obtain ⟨m0, m1, m2⟩ := mk_pre hn hp
    obtain ⟨p, ps, hfe, hpf, hfit, hno, hcc'⟩ := greedy_next hB hp hln hcc
    rw [row_cond hn hT hp hln hcc, mk0] at hfe
    refine ⟨_, rfl, ?_⟩
    refine r_asg (lc_pure ?_ hC)
    repeat trivial
    refine ⟨by omega, by omega, ?_, ?_⟩
    · rw [List.length_map, List.length_range]; omega
    rw [ups_map]
    refine lc_filter hC (ea := D.int) (ups n) (fun p => !bitF (mk l) p) (fun p hp => ⟨_, rfl, ?_⟩) ?_
    · have hp := mem_ups.mp hp
      refine e_nt ?_
      repeat trivial
      refine VH.has_ok ea hn m0 m1 hp.1 hp.2 fun outs => ?_
      refine ⟨_, rfl, rfl, fun h => ?_⟩
      repeat trivial
    rw [show (ups n).filter (fun p => !bitF (mk l) p) = freeL n l from offs_free hn hp]
    have hlo : (freeL n l).length ≤ n := Nat.le_trans (List.length_filter_le _ _) (by rw [ups_len]; omega)
    refine ⟨_, rfl, ?_⟩
    refine r_ex ?_
    refine ⟨⟨_, _, rfl⟩, ?_⟩
    refine e_idx (lc_pure ?_ hC)
    refine ⟨_, _, rfl, ?_⟩
    refine ⟨by rw [List.length_map]; omega, ?_⟩
    refine lc_filter hC (ea := D.int) _ (fun p => decide (nameOf t (mk (l ++ [p])) ≤ nameOf t 0)) (fun p hpp => ⟨_, rfl, ?_⟩) ?_
    · obtain ⟨hr, hno⟩ := mem_freeL.mp hpp
      have hb : bitF (mk l) p = false := by rw [m2 p hr.1 hr.2]; simpa using hno
      obtain ⟨b1, b2, b3, b4, b5⟩ := bits_or hn m0 m1 hr.1 hr.2
      have em := (bit_mod hn m0 m1 hr.1 hr.2).2 hb
      have a1 := atI_gI (l := t) b1 (by omega)
      repeat trivial
      refine ⟨hr.1, by omega, by decide, ?_⟩
      repeat trivial
      refine ⟨.int (nameOf t (orB (mk l) p)), ?_, ?_⟩
      · rw [em]; exact a1
      repeat trivial
      refine ⟨_, a0, ?_⟩
      rw [mk_push]
      refine ⟨rfl, fun _ => ?_⟩
      repeat trivial
    rw [hfe]
    have hpr := (mem_freeL.mp hpf).1
    have hbp : bitF (mk l) p = false := by rw [m2 p hpr.1 hpr.2]; simpa using (mem_freeL.mp hpf).2
    have emp := (bit_mod hn m0 m1 hpr.1 hpr.2).2 hbp
    have hlc : l.length < sizeLine := by omega
    have al : atI (l.map D.int ++ [.int p]) (-1) = some (.int p) := atI_last _ _
    have hal : getI (.lst (l.map D.int ++ [.int p])) (.int (-1)) = some (.int p) := al
    refine wp2_free rfl ?_
    refine ⟨_, atI_head p ps, ?_⟩
    refine ⟨_, _, _, rfl, rfl, .inr rfl, by rw [List.length_map]; exact hlc, ?_⟩
    repeat trivial
    refine ⟨_, hal, ?_⟩
    refine ⟨hpr.1, by omega, by decide, ?_⟩
    repeat trivial
    unfold augI
    dsimp only
    rw [lD_snoc, emp, ← mk_push]
    refine ⟨l ++ [p], max cc (rowf n ties (l ++ [p])), _, _, _, by rw [List.length_append, List.length_append, hll]; rfl, hp.push hpf, hcc', fun r hr => ?_, rfl⟩
    rw [List.append_assoc]
    exact hgr _ (.step hpf hfit hno hr)
  · rintro ρ ⟨l, cc, v5, v6, v7, hll, hp, hcc, hgr, rfl⟩
    have hln : l.length = n := by rw [hll, ups_len]; omega
    have hg := hgr [] (.done hln)
    rw [List.append_nil] at hg
    repeat trivial
    exact q _ _ (least_ofF (fun l => jb_nonneg n ties l.dropLast) hB hg).1
theorem bag_ok {n : Nat} {ties : List (Int × Int)} {o : List Int} {i : Nat} (ef : P[f]? = some dBagAt) (hn : n ≤ 1000) (ho : Pre n o) (hi : i < o.length) (q : ∀ outs, Q .all (lD (bagL n ties o i)) outs) : cal P (k + 1) f [(.bor, nearD n ties), (.bor, lD o), (.all, .int i)] Q := by
  have hC := cal_mono P k
  have hsz : sizeLine = 16777216 := sizeLine_eq
  have hl := ho.len
  refine cal_of dBagAt ef rfl ?_
  refine r_asg ?_
  repeat trivial
  refine ⟨_, kidsO_solid (solid_ints _), ?_⟩
  rw [slc_from D.int o i rfl (by omega)]
  refine ⟨_, rfl, ?_⟩
  refine r_ret (e_b1 (e_bin (lc_pure ?_ hC)))
  repeat trivial
  refine ⟨_, kidsO_solid (solid_ints _), ?_⟩
  rw [slc_to D.int o i rfl]
  refine ⟨by rw [List.length_map, List.length_take]; omega, ?_⟩
  refine lc_filter hC (ea := D.int) (o.take i) (inB n ties o i) (fun p hp => ⟨_, rfl, ?_⟩) ?_
  · have hr := ho.2 p (List.mem_of_mem_take hp)
    have a1 := ups_at (f := fun p => lD (nb n ties p)) hr.1 hr.2
    have hlb := nb_len n ties p
    refine e_b1 (lc_pure ?_ hC)
    repeat trivial
    refine ⟨_, a1, ?_⟩
    refine ⟨by rw [List.length_map]; omega, ?_⟩
    refine lc_map hC (ea := D.int) (eb := D.bl) (nb n ties p) (fun q => decide (q ∈ o.drop i)) (fun r hr => ⟨_, rfl, ?_⟩) ?_
    · refine ⟨_, _, rfl, ⟨_, _, rfl, ⟨rfl, plainL _, ?_⟩⟩⟩
      rw [any_encI]
      repeat trivial
    · refine s1_any ?_
      rw [List.any_map]
      refine ⟨rfl, fun _ => ?_⟩
      repeat trivial
  refine wp2_free rfl ?_
  have ha : atI (o.map D.int) (i : Int) = some (.int (o.getD i 0)) := atI_nat (by rw [List.getElem?_map, List.getElem?_eq_getElem hi, List.getD_eq_getElem?_getD, List.getElem?_eq_getElem hi]; rfl)
  repeat trivial
  refine ⟨_, ha, ?_⟩
  repeat trivial
  have hlf : ((o.take i).filter (inB n ties o i)).length ≤ n := by
    have := List.length_filter_le (inB n ties o i) (o.take i)
    rw [List.length_take] at this; omega
  refine ⟨by rw [List.length_map, List.length_singleton]; omega, _, _, kidsO_solid (solid_ints _), rfl, ?_⟩
  rw [lD_snoc]
  refine s1_sort ?_
  repeat trivial
  exact q _
theorem rt_ok {e g h w z : Nat} {n : Nat} {ties : List (Int × Int)} (ef : P[f]? = some (dRT e w z)) (ew : P[w]? = some (dFO g e a)) (ez : P[z]? = some dBagAt) (ee : P[e]? = some (dNear c)) (ec : P[c]? = some (dNb d)) (ed : P[d]? = some (dJoined h)) (eh : P[h]? = some dTie) (eg : P[g]? = some (dLC a b)) (ea : P[a]? = some dHas) (eb : P[b]? = some (dJB a)) (hn : n ≤ 8)
    (q : ∀ outs o, LeastF n (rowf n ties) o → Q .all (.tup [lD o, .lst ((bagsL n ties o).map lD)]) outs) : cal P (k + 6) f [(.all, .int n), (.bor, tD ties)] Q := by
  have hC := cal_mono P (k + 5)
  have hsz : sizeLine = 16777216 := sizeLine_eq
  refine cal_of (dRT e w z) ef rfl ?_
  refine r_asg ?_
  repeat trivial
  refine near_ok ee ec ed eh (by omega) fun outs => ?_
  repeat trivial
  refine fo_ok ew ee ec ed eh eg ea eb hn fun outs o hL => ?_
  refine ⟨_, rfl, ?_⟩
  refine r_ret ?_
  refine ⟨⟨_, rfl⟩, ?_⟩
  refine lc_pure ?_ hC
  repeat trivial
  refine ⟨by omega, by omega, ?_, ?_⟩
  · rw [List.length_map, List.length_range]; omega
  rw [ups_map, show (ups (n : Int)).map D.int = (List.range n).map fun i : Nat => D.int (i : Int) by unfold ups; rw [List.map_map, Int.toNat_natCast]; rfl]
  refine lc_map hC (ea := fun i : Nat => D.int (i : Int)) (eb := lD) (List.range n) (fun i => bagL n ties o i) (fun i hi => ⟨_, rfl, ?_⟩) ?_
  · have hi := List.mem_range.mp hi
    repeat trivial
    refine bag_ok ez (by omega) hL.1 (by rw [hL.2.1]; exact hi) fun outs => ?_
    repeat trivial
  repeat trivial
  exact q _ _ hL
end
end VH
namespace VH
open PySem PySem.Spec PyProof.Rows L2
local macro_rules | `(tactic| trivial) => `(tactic| first
  | exact rfl
  | refine ⟨⟨_, rfl⟩, ?_⟩
  | refine ⟨⟨_, _, rfl⟩, ?_⟩
  | refine ⟨_, _, rfl, ?_⟩
  | refine ⟨_, rfl, ?_⟩
  | refine ⟨_, _, _, _, _, rfl, rfl, rfl, rfl, ?_⟩
  | refine ⟨_, _, _, _, rfl, rfl, .inr rfl, rfl, ?_⟩
  | refine ⟨_, _, _, _, rfl, rfl, .inl rfl, rfl, ?_⟩
  | refine ⟨_, _, _, rfl, rfl, .inr rfl, rfl, ?_⟩
  | refine ⟨_, _, _, rfl, rfl, .inl rfl, rfl, ?_⟩
  | refine ⟨.inr ⟨by decide, by decide⟩, ?_⟩
  | refine ⟨by decide, by decide, ?_⟩
  | refine ⟨by decide, ?_⟩
  | refine ⟨Nat.le_of_ble_eq_true rfl, ?_⟩
  | refine ⟨List.nodup_nil, _, rfl, ?_⟩
  | refine ⟨nodup1 _, _, rfl, ?_⟩
  | refine ⟨nodup2 (by decide), _, rfl, ?_⟩
  | refine ⟨rfl, ?_⟩)

abbrev bD (bags : List (List Int)) : D := .lst (bags.map lD)
theorem enum_map {α : Type} [Inhabited α] (f : α → D) (xs : List α) : ((xs.map f).mapIdx fun i d => D.tup [.int i, d]) = (List.range xs.length).map fun i : Nat => D.tup [.int (i : Int), f (xs.getD i default)] := by
  refine List.ext_getElem? fun i => ?_
  rw [List.getElem?_mapIdx, List.getElem?_map, List.getElem?_map]
  by_cases h : i < xs.length
  · have e : xs.getD i default = xs[i] := by rw [List.getD_eq_getElem?_getD, List.getElem?_eq_getElem h]; rfl
    rw [List.getElem?_eq_getElem h, List.getElem?_range h]
    show some _ = some (D.tup [.int (i : Int), f (xs.getD i default)])
    rw [e]
  · rw [List.getElem?_eq_none (by omega), List.getElem?_eq_none (by rw [List.length_range]; omega)]; rfl
theorem i_enumL {C : CallS} (hC : MonoC C) {α : Type} [Inhabited α] {f : α → D} {xs : List α} {a : E} {ρ : VH.Env} {P : Ow → List D → VH.Env → Prop} (w : wpE C a ρ fun o d ρ1 => d = .lst (xs.map f) ∧ P o ((List.range xs.length).map fun i : Nat => D.tup [.int (i : Int), f (xs.getD i default)]) ρ1) : wpIt C (.enum a) ρ P :=
  wpE_mono hC a ρ _ _ (fun o d ρ1 ⟨e, p⟩ => by subst e; rw [← enum_map] at p; exact p) w
theorem e_int {C : CallS} {i : Int} {ρ : VH.Env} {Q : KE} (w : Q .all (.int i) ρ) : wpE C (.int i) ρ Q := w
theorem sc_le {i j : Int} {P : Bool → Prop} (q : P (decide (i ≤ j))) : semC .LtE (.int i) (.int j) P := q
theorem ch_if {c : Bool} {A B : Prop} (h1 : c = true → A) (h2 : c = false → B) : if c = true then A else B := by
  cases c
  · exact h2 rfl
  · exact h1 rfl
def riseB (l : List Int) : Bool := (rng 1 l.length).all fun a => decide (nameOf l (a - 1) < nameOf l a)
theorem riseB_of {l : List Int} (h : l.Pairwise (· < ·)) : riseB l = true := by
  unfold riseB
  refine List.all_eq_true.mpr fun a ha => ?_
  obtain ⟨a1, a2⟩ := mem_rng.mp ha
  rw [decide_eq_true_eq]
  unfold nameOf
  rw [List.getD_eq_getElem?_getD, List.getD_eq_getElem?_getD, List.getElem?_eq_getElem (by omega : (a - 1).toNat < l.length), List.getElem?_eq_getElem (by omega : a.toNat < l.length)]
  exact List.pairwise_iff_getElem.mp h _ _ _ _ (by omega)
def bagB (n : Int) (b : List Int) : Bool := riseB b && b.all fun p => decide (0 ≤ p) && decide (p < n)
theorem bagB_of {n : Int} {b : List Int} (h : b.Pairwise (· < ·)) (hr : ∀ p ∈ b, 0 ≤ p ∧ p < n) : bagB n b = true := by
  unfold bagB
  rw [riseB_of h, Bool.true_and, List.all_eq_true]
  intro p hp
  obtain ⟨a, b⟩ := hr p hp
  rw [decide_eq_true a, decide_eq_true b]; rfl
def topB (bags : List (List Int)) (up : List Int) (p : Int) (i : Nat) : Bool := decide (p ∈ bags.getD i default) && (decide (i = 0) || !decide (p ∈ bags.getD (up.getD (i - 1) 0).toNat default))
/-- a telling in which nothing is wrong -/
structure TellOk (n : Nat) (ties : List (Int × Int)) (bags : List (List Int)) (up : List Int) : Prop where
  b1 : 1 ≤ bags.length
  b20 : bags.length ≤ 20
  bag : ∀ b ∈ bags, b.Pairwise (· < ·) ∧ ∀ p ∈ b, 0 ≤ p ∧ p < (n : Int)
  ul : up.length + 1 = bags.length
  ups : ∀ i : Nat, i < up.length → 0 ≤ up.getD i 0 ∧ up.getD i 0 ≤ i
  top : ∀ p : Int, 0 ≤ p → p < n → ((List.range bags.length).filter fun i => topB bags up p i).length = 1
  tie : ∀ t ∈ ties, ∃ b ∈ bags, t.1 ∈ b ∧ t.2 ∈ b
def dRise : Df where
  nm := (Str.ofString "is_rising")
  np := 1
  N := [(Str.ofString "numbers"), (Str.ofString "at")]
  lk := [0]
  body := (.cons (.ret (.b1 .all_ (.lc true (.nm 1) (.rng2 (.int 1) (.b1 .len (.var .pk 0))) .nil (.cmp .Lt (.sidx 0 (.bin .Sub (.var .pk 1) (.int 1))) (.sidx 0 (.var .pk 1)))))) .nil)
def dIsBag (a : Nat) : Df where
  nm := (Str.ofString "is_bag")
  np := 2
  N := [(Str.ofString "n"), (Str.ofString "bag"), (Str.ofString "place")]
  lk := [0, 1]
  body := (.cons (.ret (.and (.callP a (.cons (.wk .bor (.var .pk 1)) .nil)) (.b1 .all_ (.lc true (.nm 2) (.seq (.var .pk 1)) .nil (.chain .LtE .Lt (.int 0) (.var .pk 2) (.var .pk 0)))))) .nil)
def dShape (a : Nat) : Df where
  nm := (Str.ofString "fault_of_shape")
  np := 3
  N := [(Str.ofString "n"), (Str.ofString "bags"), (Str.ofString "uppers"), (Str.ofString "i"), (Str.ofString "bag"), (Str.ofString "upper")]
  lk := [0, 1, 2]
  body := (.cons (.ite (.nt (.chain .LtE .LtE (.int 1) (.b1 .len (.var .pk 1)) (.glb (Str.ofString "MOST_BAGS") (.int 20)))) (.cons (.ret (.tup (.cons (.str (Str.ofString "bags")) (.cons (.un .USub (.int 1)) .nil)))) .nil) .nil) (.cons (.fr (.tp (.cons (.nm 3) (.cons (.nm 4) .nil))) (.enum (.var .pk 1)) (.cons (.ite (.nt (.callP a (.cons (.var .pk 0) (.cons (.wk .bor (.var .pk 4)) .nil)))) (.cons (.ret (.tup (.cons (.str (Str.ofString "bags")) (.cons (.var .sh 3) .nil)))) .nil) .nil) .nil)) (.cons (.ite (.cmp .NotEq (.b1 .len (.var .pk 2)) (.bin .Sub (.b1 .len (.var .pk 1)) (.int 1))) (.cons (.ret (.tup (.cons (.str (Str.ofString "uppers")) (.cons (.un .USub (.int 1)) .nil)))) .nil) .nil) (.cons (.fr (.tp (.cons (.nm 3) (.cons (.nm 5) .nil))) (.enum (.var .pk 2)) (.cons (.ite (.nt (.chain .LtE .LtE (.int 0) (.var .pk 5) (.var .pk 3))) (.cons (.ret (.tup (.cons (.str (Str.ofString "uppers")) (.cons (.var .sh 3) .nil)))) .nil) .nil) .nil)) (.cons (.ret .non) .nil)))))
def dHang : Df where
  nm := (Str.ofString "hangs_together")
  np := 3
  N := [(Str.ofString "bags"), (Str.ofString "uppers"), (Str.ofString "place"), (Str.ofString "tops"), (Str.ofString "i"), (Str.ofString "bag")]
  lk := [0, 1, 2]
  body := (.cons (.asg 3 (.lc true (.tp (.cons (.nm 4) (.cons (.nm 5) .nil))) (.enum (.var .pk 0)) (.some (.and (.cmp .In (.var .pk 2) (.var .pk 5)) (.or (.cmp .Eq (.var .pk 4) (.int 0)) (.cmp .NotIn (.var .pk 2) (.sidx 0 (.sidx 1 (.bin .Sub (.var .pk 4) (.int 1)))))))) (.var .sh 4))) (.cons (.ret (.cmp .Eq (.b1 .len (.var .pk 3)) (.int 1))) .nil))
def dFault (a : Nat) (b : Nat) : Df where
  nm := (Str.ofString "fault_of_bags")
  np := 4
  N := [(Str.ofString "n"), (Str.ofString "ties"), (Str.ofString "bags"), (Str.ofString "uppers"), (Str.ofString "fault"), (Str.ofString "place"), (Str.ofString "at"), (Str.ofString "i"), (Str.ofString "j"), (Str.ofString "bag")]
  lk := [0, 1, 2, 3]
  body := (.cons (.asg 4 (.callP a (.cons (.var .pk 0) (.cons (.wk .bor (.var .pk 2)) (.cons (.wk .bor (.var .pk 3)) .nil))))) (.cons (.ite (.notN (.var .pk 4)) (.cons (.ret (.var .mv 4)) .nil) .nil) (.cons (.fr (.nm 5) (.rng1 (.var .pk 0)) (.cons (.ite (.nt (.callP b (.cons (.wk .bor (.var .pk 2)) (.cons (.wk .bor (.var .pk 3)) (.cons (.var .pk 5) .nil))))) (.cons (.ret (.tup (.cons (.str (Str.ofString "place")) (.cons (.var .sh 5) .nil)))) .nil) .nil) .nil)) (.cons (.fr (.tp (.cons (.nm 6) (.cons (.tp (.cons (.nm 7) (.cons (.nm 8) .nil))) .nil))) (.enum (.var .pk 1)) (.cons (.ite (.nt (.b1 .any_ (.lc true (.nm 9) (.seq (.var .pk 2)) .nil (.and (.cmp .In (.var .pk 7) (.var .pk 9)) (.cmp .In (.var .pk 8) (.var .pk 9)))))) (.cons (.ret (.tup (.cons (.str (Str.ofString "tie")) (.cons (.var .sh 6) .nil)))) .nil) .nil) .nil)) (.cons (.ret .non) .nil)))))
def dCheck (a : Nat) : Df where
  nm := (Str.ofString "check_bags")
  np := 4
  N := [(Str.ofString "n"), (Str.ofString "ties"), (Str.ofString "bags"), (Str.ofString "uppers"), (Str.ofString "fault")]
  lk := [0, 1, 2, 3]
  body := (.cons (.asg 4 (.callP a (.cons (.var .pk 0) (.cons (.wk .bor (.var .pk 1)) (.cons (.wk .bor (.var .pk 2)) (.cons (.wk .bor (.var .pk 3)) .nil)))))) (.cons (.ite (.notN (.var .pk 4)) (.cons .nev .nil) .nil) .nil))
def dWOf : Df where
  nm := (Str.ofString "width_of")
  np := 1
  N := [(Str.ofString "bags"), (Str.ofString "bag")]
  lk := [0]
  body := (.cons (.ret (.bin .Sub (.b1 .max_ (.lc true (.nm 1) (.seq (.var .pk 0)) .nil (.b1 .len (.var .pk 1)))) (.int 1))) .nil)
section
variable {P : Tbl} {f a b c d k : Nat} {Q : Ow → D → List (Option (Ow × D)) → Prop}
theorem rise_ok {l : List Int} (ef : P[f]? = some dRise) (hl : l.length ≤ 1000) (q : ∀ outs, Q .all (.bl (riseB l)) outs) : cal P (k + 1) f [(.bor, lD l)] Q := by
  have hC := cal_mono P k
  have hsz : sizeLine = 16777216 := sizeLine_eq
  refine cal_of dRise ef rfl ?_
  refine r_ret (e_b1 (lc_pure ?_ hC))
  repeat trivial
  rw [List.length_map]
  refine ⟨⟨by omega, by omega, by omega, by omega⟩, ?_, ?_⟩
  · rw [List.length_map, List.length_range]; omega
  rw [rng_map]
  refine lc_map hC (ea := D.int) (eb := D.bl) (rng 1 l.length) (fun a => decide (nameOf l (a - 1) < nameOf l a)) (fun i hi => ⟨_, rfl, ?_⟩) ?_
  · obtain ⟨i0, i1⟩ := mem_rng.mp hi
    have a1 := atI_gI (l := l) (i := i - 1) (by omega) (by omega)
    have a2 := atI_gI (l := l) (i := i) (by omega) (by omega)
    repeat trivial
    refine ⟨_, a1, ?_⟩
    repeat trivial
    refine ⟨_, a2, ?_⟩
    repeat trivial
  refine s1_all ?_
  rw [List.all_map]
  repeat trivial
  exact q _
theorem isbag_ok {n : Int} {l : List Int} (ef : P[f]? = some (dIsBag a)) (ea : P[a]? = some dRise) (hl : l.length ≤ 1000) (q : ∀ outs, Q .all (.bl (bagB n l)) outs) : cal P (k + 2) f [(.all, .int n), (.bor, lD l)] Q := by
  have hC := cal_mono P (k + 1)
  have hsz : sizeLine = 16777216 := sizeLine_eq
  refine cal_of (dIsBag a) ef rfl ?_
  refine r_ret (e_and hC ?_)
  repeat trivial
  refine rise_ok ea hl fun outs => ?_
  refine ⟨_, rfl, fun h => ?_, fun h => ?_⟩
  · refine e_b1 (lc_pure ?_ hC)
    refine ⟨_, _, rfl, ?_⟩
    refine ⟨by rw [List.length_map]; omega, ?_⟩
    refine lc_map hC (ea := D.int) (eb := D.bl) l (fun p => decide (0 ≤ p) && decide (p < n)) (fun p hp => ⟨_, rfl, ?_⟩) ?_
    · repeat trivial
      refine sc_le (ch_if (fun h1 => ?_) fun h1 => ?_)
      · rw [h1]
        repeat trivial
      · rw [h1]
        repeat trivial
    refine s1_all ?_
    rw [List.all_map]
    have e : bagB n l = l.all (id ∘ fun p => decide (0 ≤ p) && decide (p < n)) := by unfold bagB; rw [h, Bool.true_and]; rfl
    repeat trivial
    rw [← e]
    exact q _
  · have e : bagB n l = false := by unfold bagB; rw [h, Bool.false_and]
    repeat trivial
    rw [h, ← e]
    exact q _
theorem shape_ok {n : Nat} {ties : List (Int × Int)} {bags : List (List Int)} {up : List Int} (ef : P[f]? = some (dShape a)) (ea : P[a]? = some (dIsBag b)) (eb : P[b]? = some dRise) (h : TellOk n ties bags up) (hn : n ≤ 1000) (q : ∀ outs, Q .all .non outs) : cal P (k + 3) f [(.all, .int n), (.bor, bD bags), (.bor, lD up)] Q := by
  have hC := cal_mono P (k + 2)
  have hsz : sizeLine = 16777216 := sizeLine_eq
  have hb1 := h.b1
  have hb20 := h.b20
  have hul := h.ul
  refine cal_of (dShape a) ef rfl ?_
  refine st_ite hC (e_nt ?_)
  repeat trivial
  rw [List.length_map]
  refine sc_le (ch_if (fun h1 => ?_) fun h1 => ?_)
  rotate_left
  · exact absurd (of_decide_eq_false h1) (by omega)
  repeat trivial
  refine ⟨fun h2 => absurd h2 (by simp; omega), fun _ => ?_⟩
  refine r_fr (i_enumL hC (f := lD) (xs := bags) ⟨_, _, rfl, ⟨rfl, ⟨⟨Ow.noConfusion, Ow.noConfusion⟩, ?_⟩⟩⟩)
  refine fr_pre hC (ea := fun i : Nat => D.tup [.int (i : Int), lD (bags.getD i default)]) (fun pre ρ => ∃ v3 v4 v5, ρ = [some (.all, .int n), some (.bor, bD bags), some (.bor, lD up), v3, v4, v5]) ⟨none, none, none, rfl⟩ ?_ ?_
  · rintro pre i post ρ hx ⟨v3, v4, v5, rfl⟩
    have hi : i < bags.length := by
      have : i ∈ List.range bags.length := by rw [hx]; simp
      exact List.mem_range.mp this
    have hm : bags.getD i default ∈ bags := by
      rw [List.getD_eq_getElem?_getD, List.getElem?_eq_getElem hi]; exact List.getElem_mem hi
    obtain ⟨h1, h2⟩ := h.bag _ hm
    have hlen := lens_nd (h1.imp fun hlt => Int.ne_of_lt hlt) h2
    refine ⟨_, rfl, ?_⟩
    refine st_ite hC (e_nt ?_)
    repeat trivial
    refine isbag_ok ea eb (by omega) fun outs => ?_
    rw [bagB_of h1 h2]
    refine ⟨_, rfl, _, rfl, fun h2 => absurd h2 (by decide), fun _ => ?_⟩
    exact ⟨_, _, _, rfl⟩
  rintro ρ ⟨v3, v4, v5, rfl⟩
  refine st_ite hC ?_
  repeat trivial
  rw [deq_int]
  refine ⟨fun h2 => ?_, fun _ => ?_⟩
  · rw [List.length_map, List.length_map, Bool.not_eq_true', decide_eq_false_iff_not] at h2
    omega
  refine r_fr (i_enumL hC (f := D.int) (xs := up) ⟨_, _, rfl, ⟨rfl, ⟨⟨Ow.noConfusion, Ow.noConfusion⟩, ?_⟩⟩⟩)
  refine fr_pre hC (ea := fun i : Nat => D.tup [.int (i : Int), .int (up.getD i default)]) (fun pre ρ => ∃ v3 v4 v5, ρ = [some (.all, .int n), some (.bor, bD bags), some (.bor, lD up), v3, v4, v5]) ⟨v3, v4, v5, rfl⟩ ?_ ?_
  · rintro pre i post ρ hx ⟨v3, v4, v5, rfl⟩
    have hi : i < up.length := by
      have : i ∈ List.range up.length := by rw [hx]; simp
      exact List.mem_range.mp this
    obtain ⟨u0, u1⟩ := h.ups i hi
    refine ⟨_, rfl, ?_⟩
    refine st_ite hC (e_nt ?_)
    repeat trivial
    refine sc_le (ch_if (fun h1 => ?_) fun h1 => ?_)
    rotate_left
    · exact absurd (of_decide_eq_false h1) (by show ¬ ¬ (0 : Int) ≤ up.getD i 0; omega)
    repeat trivial
    refine ⟨fun h2 => absurd h2 (by rw [decide_eq_true (show up.getD i default ≤ (i : Int) from u1)]; decide), fun _ => ?_⟩
    exact ⟨_, _, _, rfl⟩
  rintro ρ ⟨v3, v4, v5, rfl⟩
  repeat trivial
  exact q _
theorem atI_bags {bags : List (List Int)} {i : Nat} (h : i < bags.length) : atI (bags.map lD) (i : Int) = some (lD (bags.getD i default)) := atI_nat (by
  rw [List.getElem?_map, List.getElem?_eq_getElem h, List.getD_eq_getElem?_getD, List.getElem?_eq_getElem h]; rfl)
theorem hang_ok {n : Nat} {ties : List (Int × Int)} {bags : List (List Int)} {up : List Int} {p : Int} (ef : P[f]? = some dHang) (h : TellOk n ties bags up) (q : ∀ outs, Q .all (.bl (decide (((List.range bags.length).filter fun i => topB bags up p i).length = 1))) outs) : cal P (k + 1) f [(.bor, bD bags), (.bor, lD up), (.all, .int p)] Q := by
  have hC := cal_mono P k
  have hsz : sizeLine = 16777216 := sizeLine_eq
  have hb20 := h.b20
  have hul := h.ul
  refine cal_of dHang ef rfl ?_
  refine r_asg (lc_pure ?_ hC)
  refine i_enumL hC (f := lD) (xs := bags) ⟨_, _, rfl, ⟨rfl, ?_⟩⟩
  refine ⟨by rw [List.length_map, List.length_range]; omega, ?_⟩
  refine lc_fm hC (ea := fun i : Nat => D.tup [.int (i : Int), lD (bags.getD i default)]) (eb := D.int) (List.range bags.length) (fun i => topB bags up p i) (fun i => (i : Int)) (fun i hi => ⟨_, rfl, ?_⟩) ?_
  · have hi := List.mem_range.mp hi
    refine e_and hC ?_
    refine ⟨_, _, rfl, ⟨_, _, rfl, ⟨rfl, plainL _, ?_⟩⟩⟩
    rw [any_encI]
    refine ⟨_, rfl, fun h1 => ?_, fun h1 => ?_⟩
    · refine e_or hC ?_
      refine e_cmp ⟨_, _, rfl, wp2_free rfl (e_int ?_)⟩
      refine sc_eq rfl rfl deq_int ?_
      refine ⟨_, rfl, fun h2 => ?_, fun h2 => ?_⟩
      · have h2' : decide (i = 0) = true := by have := of_decide_eq_true h2; exact decide_eq_true (by omega)
        refine ⟨?_, fun _ => ?_⟩
        · unfold topB; rw [h1, h2, h2']; rfl
        · repeat trivial
      · have hi0 : i ≠ 0 := fun e => by subst e; exact absurd h2 (by decide)
        have h2' : decide (i = 0) = false := decide_eq_false hi0
        obtain ⟨u0, u1⟩ := h.ups (i - 1) (by omega)
        have a1 : atI (up.map D.int) ((i : Int) - 1) = some (.int (up.getD (i - 1) 0)) := by
          have := atI_gI (l := up) (i := (i : Int) - 1) (by omega) (by omega)
          rw [this]
          unfold nameOf
          rw [show ((i : Int) - 1).toNat = i - 1 by omega]
        have a2 := atI_bags (bags := bags) (i := (up.getD (i - 1) 0).toNat) (by omega)
        rw [Int.toNat_of_nonneg u0] at a2
        refine ⟨_, _, rfl, ?_⟩
        refine wp2_free rfl ?_
        refine ⟨⟨_, rfl⟩, ⟨⟨_, rfl⟩, ?_⟩⟩
        repeat trivial
        refine ⟨_, a1, ?_⟩
        repeat trivial
        refine ⟨_, a2, ?_⟩
        refine ⟨rfl, plainL _, ?_⟩
        rw [any_encI]
        refine ⟨?_, fun _ => ?_⟩
        · unfold topB; rw [h1, h2']; rfl
        · repeat trivial
    · refine ⟨?_, fun h3 => ?_⟩
      · unfold topB; rw [h1]; rfl
      · unfold topB at h3; rw [h1] at h3; cases h3
  refine ⟨_, rfl, ?_⟩
  repeat trivial
  rw [deq_int, List.length_map, List.length_map]
  have e : decide ((((List.range bags.length).filter fun i => topB bags up p i).length : Int) = 1) = decide (((List.range bags.length).filter fun i => topB bags up p i).length = 1) := decide_eq_decide.mpr (by omega)
  rw [e]
  exact q _
theorem fault_ok {n : Nat} {ties : List (Int × Int)} {bags : List (List Int)} {up : List Int} (ef : P[f]? = some (dFault c d)) (ec : P[c]? = some (dShape a)) (ed : P[d]? = some dHang) (ea : P[a]? = some (dIsBag b)) (eb : P[b]? = some dRise) (h : TellOk n ties bags up) (hn : n ≤ 1000) (q : ∀ outs, Q .all .non outs) : cal P (k + 4) f [(.all, .int n), (.bor, tD ties), (.bor, bD bags), (.bor, lD up)] Q := by
  have hC := cal_mono P (k + 3)
  have hsz : sizeLine = 16777216 := sizeLine_eq
  have hb20 := h.b20
  refine cal_of (dFault c d) ef rfl ?_
  refine r_asg ?_
  repeat trivial
  refine shape_ok ec ea eb h hn fun outs => ?_
  refine ⟨_, rfl, ?_⟩
  refine st_ite hC ?_
  repeat trivial
  refine ⟨fun h2 => absurd h2 (by decide), fun _ => ?_⟩
  refine r_fr ?_
  repeat trivial
  refine ⟨by omega, by omega, ⟨Ow.noConfusion, Ow.noConfusion⟩, ?_⟩
  rw [ups_map]
  refine fr_pre hC (ea := D.int) (fun pre ρ => ∃ v5, ρ = [some (.all, .int n), some (.bor, tD ties), some (.bor, bD bags), some (.bor, lD up), some (.all, .non), v5, none, none, none, none]) ⟨none, rfl⟩ ?_ ?_
  · rintro pre p post ρ hx ⟨v5, rfl⟩
    obtain ⟨p0, p1⟩ := mem_ups.mp (show p ∈ ups n by rw [hx]; simp)
    refine ⟨_, rfl, ?_⟩
    refine st_ite hC (e_nt ?_)
    repeat trivial
    refine hang_ok ed h fun outs => ?_
    rw [decide_eq_true (h.top p p0 p1)]
    refine ⟨_, rfl, _, rfl, fun h2 => absurd h2 (by decide), fun _ => ?_⟩
    exact ⟨_, rfl⟩
  rintro ρ ⟨v5, rfl⟩
  refine r_fr (i_enumL hC (f := encP) (xs := ties) ⟨_, _, rfl, ⟨rfl, ⟨⟨Ow.noConfusion, Ow.noConfusion⟩, ?_⟩⟩⟩)
  refine fr_pre hC (ea := fun i : Nat => D.tup [.int (i : Int), encP (ties.getD i default)]) (fun pre ρ => ∃ v5 v6 v7 v8 v9, ρ = [some (.all, .int n), some (.bor, tD ties), some (.bor, bD bags), some (.bor, lD up), some (.all, .non), v5, v6, v7, v8, v9]) ⟨v5, none, none, none, none, rfl⟩ ?_ ?_
  · rintro pre i post ρ hx ⟨v5, v6, v7, v8, v9, rfl⟩
    have hi : i < ties.length := by
      have : i ∈ List.range ties.length := by rw [hx]; simp
      exact List.mem_range.mp this
    have hm : ties.getD i default ∈ ties := by
      rw [List.getD_eq_getElem?_getD, List.getElem?_eq_getElem hi]; exact List.getElem_mem hi
    obtain ⟨bg, hbg, b1, b2⟩ := h.tie _ hm
    generalize ties.getD i default = t at hm b1 b2 ⊢
    obtain ⟨x, y⟩ := t
    refine ⟨_, rfl, ?_⟩
    refine st_ite hC (e_nt (e_b1 (lc_pure ?_ hC)))
    refine ⟨_, _, rfl, ?_⟩
    refine ⟨by rw [List.length_map]; omega, ?_⟩
    refine lc_map hC (ea := lD) (eb := D.bl) bags (fun bg => decide (x ∈ bg) && decide (y ∈ bg)) (fun bg hb => ⟨_, rfl, ?_⟩) ?_
    · refine e_and hC ?_
      refine ⟨_, _, rfl, ⟨_, _, rfl, ⟨rfl, plainL _, ?_⟩⟩⟩
      rw [any_encI]
      refine ⟨_, rfl, fun h1 => ?_, fun h1 => ?_⟩
      · refine ⟨_, _, rfl, ⟨_, _, rfl, ⟨rfl, plainL _, ?_⟩⟩⟩
        rw [any_encI, h1]
        repeat trivial
      · rw [h1]
        repeat trivial
    refine s1_any ?_
    have e : (bags.map fun bg => decide (x ∈ bg) && decide (y ∈ bg)).any id = true := by
      rw [List.any_map, List.any_eq_true]
      exact ⟨bg, hbg, by simp [b1, b2]⟩
    rw [e]
    refine ⟨_, rfl, _, rfl, fun h2 => absurd h2 (by decide), fun _ => ?_⟩
    exact ⟨_, _, _, _, _, rfl⟩
  rintro ρ ⟨v5, v6, v7, v8, v9, rfl⟩
  repeat trivial
  exact q _
theorem check_ok {w : Nat} {n : Nat} {ties : List (Int × Int)} {bags : List (List Int)} {up : List Int} (ew : P[w]? = some (dCheck f)) (ef : P[f]? = some (dFault c d)) (ec : P[c]? = some (dShape a)) (ed : P[d]? = some dHang) (ea : P[a]? = some (dIsBag b)) (eb : P[b]? = some dRise) (h : TellOk n ties bags up) (hn : n ≤ 1000) (q : ∀ outs, Q .all .non outs) : cal P (k + 5) w [(.all, .int n), (.bor, tD ties), (.bor, bD bags), (.bor, lD up)] Q := by
  have hC := cal_mono P (k + 4)
  refine cal_of (dCheck f) ew rfl ?_
  refine r_asg ?_
  repeat trivial
  refine fault_ok ef ec ed ea eb h hn fun outs => ?_
  refine ⟨_, rfl, ?_⟩
  refine st_ite hC ?_
  repeat trivial
  refine ⟨fun h2 => absurd h2 (by decide), fun _ => ?_⟩
  exact q _
theorem wof_ok {o : Ow} {bags : List (List Int)} (ef : P[f]? = some dWOf) (hb : bags ≠ []) (hl : bags.length ≤ 1000) (q : ∀ outs, Q .all (.int (maxI (bags.map fun b => (b.length : Int)) - 1)) outs) : cal P (k + 1) f [(.bor, bD bags)] Q := by
  have hC := cal_mono P k
  have hsz : sizeLine = 16777216 := sizeLine_eq
  refine cal_of dWOf ef rfl ?_
  refine r_ret (e_bin (e_b1 (lc_pure ?_ hC)))
  refine ⟨_, _, rfl, ?_⟩
  refine ⟨by rw [List.length_map]; omega, ?_⟩
  refine lc_map hC (ea := lD) (eb := D.int) bags (fun b => (b.length : Int)) (fun b _ => ⟨_, rfl, ?_⟩) ?_
  · repeat trivial
    rw [List.length_map]
    repeat trivial
  refine s1_max (by simpa using hb) ?_
  repeat trivial
  exact q _
end
end VH
namespace VH
open PySem PySem.Spec PyProof.Rows L2
local macro_rules | `(tactic| trivial) => `(tactic| first
  | exact rfl
  | refine ⟨⟨_, rfl⟩, ?_⟩
  | refine ⟨⟨_, _, rfl⟩, ?_⟩
  | refine ⟨_, _, rfl, ?_⟩
  | refine ⟨_, rfl, ?_⟩
  | refine ⟨_, _, _, _, _, rfl, rfl, rfl, rfl, ?_⟩
  | refine ⟨_, _, _, _, rfl, rfl, .inr rfl, rfl, ?_⟩
  | refine ⟨_, _, _, _, rfl, rfl, .inl rfl, rfl, ?_⟩
  | refine ⟨_, _, _, rfl, rfl, .inr rfl, rfl, ?_⟩
  | refine ⟨_, _, _, rfl, rfl, .inl rfl, rfl, ?_⟩
  | refine ⟨.inr ⟨by decide, by decide⟩, ?_⟩
  | refine ⟨by decide, by decide, ?_⟩
  | refine ⟨by decide, ?_⟩
  | refine ⟨Nat.le_of_ble_eq_true rfl, ?_⟩
  | refine ⟨List.nodup_nil, _, rfl, ?_⟩
  | refine ⟨nodup1 _, _, rfl, ?_⟩
  | refine ⟨nodup2 (by decide), _, rfl, ?_⟩
  | refine ⟨rfl, ?_⟩)

theorem ups_item {n i : Nat} {d : D} (hd : ((ups n).map D.int)[i]? = some d) : d = .int i ∧ i < n := by
  have h2 : i < n := by
    have := (List.getElem?_eq_some_iff.mp hd).1
    rw [List.length_map, ups_len] at this
    omega
  unfold ups at hd
  rw [List.map_map, List.getElem?_map, List.getElem?_range (by omega)] at hd
  exact ⟨(Option.some.inj hd).symm, h2⟩
theorem joinedB {n : Nat} {ties : List (Int × Int)} (hg : GoodT n ties) (i j : Int) : (decide ((i, j) ∈ ties) || decide ((j, i) ∈ ties)) = joined ties i j := by
  rw [Bool.eq_iff_iff, joined_iff hg, Bool.or_eq_true, decide_eq_true_eq, decide_eq_true_eq]
def stp (n : Nat) (o : List Int) : List (List Int) := (freeL n o).map fun p => o ++ [p]
theorem orders_len {n : Nat} : ∀ k : Nat, (ordersO n k).length ≤ n ^ k
  | 0 => Nat.le_refl _
  | k + 1 => by
    show ((ordersO n k).flatMap (stp n)).length ≤ n ^ (k + 1)
    have : ∀ os : List (List Int), (os.flatMap (stp n)).length ≤ os.length * n := fun os => by
      induction os with
      | nil => simp
      | cons o os ih =>
        rw [List.flatMap_cons, List.length_append, List.length_cons, Nat.add_mul]
        have : (stp n o).length ≤ n := by
          unfold stp freeL
          rw [List.length_map]
          refine Nat.le_trans (List.length_filter_le _ _) ?_
          rw [ups_len]; omega
        omega
    refine Nat.le_trans (this _) ?_
    rw [Nat.pow_succ]
    exact Nat.mul_le_mul_right _ (orders_len k)
theorem kids_one (ds : List D) : ∃ k, kidsO (pkO .one (.lst ds)) ds = some k ∧ (k = .all ∨ k = .sh) := by
  by_cases h : solidL ds = true
  · exact ⟨_, if_pos h, .inl rfl⟩
  · exact ⟨_, if_neg h, .inr rfl⟩
theorem fr_list2 {C : CallS} (hC : MonoC C) {α : Type} {ea : α → D} {lk : Nat → Bool} {t : Tg} {o : Ow} {sb : Sms} {A : De} {xs : List α} {ρ : VH.Env} (I : List α → VH.Env → Prop) (h0 : I [] ρ)
    (step : ∀ (pre : List α) (x : α) (ρ : VH.Env), x ∈ xs → pre.length < xs.length → I pre ρ → ∃ ρ1, bindT t (itmO o) (ea x) ρ = some ρ1 ∧ wpSs C lk sb ρ1 ⟨I (pre ++ [x]), A.rt, A.nx, I (pre ++ [x])⟩) (fin : ∀ ρ, I xs ρ → A.nx ρ) :
    wpFor (fun ρ A => wpSs C lk sb ρ A) (bindT t (itmO o)) A (xs.map ea) ρ := by
  refine fr_inv hC (fun i ρ => I (xs.take i) ρ) (by rw [List.take_zero]; exact h0) (fun i d ρ hd hi => ?_) fun ρ h => fin ρ (by rw [List.length_map, List.take_length] at h; exact h)
  rw [List.getElem?_map] at hd
  cases hx : xs[i]? with
  | none => rw [hx] at hd; cases hd
  | some x =>
    rw [hx] at hd
    obtain ⟨ρ1, e, w⟩ := step (xs.take i) x ρ (List.mem_of_getElem? hx) (by
      have := (List.getElem?_eq_some_iff.mp hx).1
      rw [List.length_take]; omega) hi
    refine ⟨ρ1, by rw [← Option.some.inj hd]; exact e, ?_⟩
    rw [show xs.take (i + 1) = xs.take i ++ [x] by rw [List.take_succ, hx]; rfl]
    exact w
theorem kids_all (ds : List D) : kidsO .all ds = some .all := by
  unfold kidsO
  split <;> rfl
def dWhole : Df where
  nm := (Str.ofString "_law_whole")
  np := 1
  N := [(Str.ofString "x")]
  lk := [0]
  body := (.cons (.ret (.and (.isi .int_ (.var .pk 0)) (.nt (.isi .bool_ (.var .pk 0))))) .nil)
def dWholes (a : Nat) : Df where
  nm := (Str.ofString "_law_wholes")
  np := 2
  N := [(Str.ofString "x"), (Str.ofString "n"), (Str.ofString "k")]
  lk := [0, 1]
  body := (.cons (.ite (.or (.nt (.isi .list_ (.var .pk 0))) (.cmp .NotEq (.b1 .len (.var .pk 0)) (.var .pk 1))) (.cons (.ret (.bl false)) .nil) .nil) (.cons (.ret (.b1 .all_ (.lc true (.nm 2) (.seq (.var .pk 0)) .nil (.callP a (.cons (.var .pk 2) .nil))))) .nil))
def dLJ : Df where
  nm := (Str.ofString "_law_joined")
  np := 3
  N := [(Str.ofString "ties"), (Str.ofString "i"), (Str.ofString "j")]
  lk := [0, 1, 2]
  body := (.cons (.ret (.or (.cmp .In (.tup (.cons (.var .sh 1) (.cons (.var .sh 2) .nil))) (.var .pk 0)) (.cmp .In (.tup (.cons (.var .sh 2) (.cons (.var .sh 1) .nil))) (.var .pk 0)))) .nil)
def dLNear (a : Nat) : Df where
  nm := (Str.ofString "_law_near")
  np := 2
  N := [(Str.ofString "n"), (Str.ofString "ties"), (Str.ofString "i"), (Str.ofString "j")]
  lk := [0, 1]
  body := (.cons (.ret (.lc true (.nm 2) (.rng1 (.var .pk 0)) .nil (.lc true (.nm 3) (.rng1 (.var .pk 0)) (.some (.callP a (.cons (.wk .bor (.var .pk 1)) (.cons (.var .pk 2) (.cons (.var .pk 3) .nil))))) (.var .sh 3)))) .nil)
def dOrds : Df where
  nm := (Str.ofString "_law_orders")
  np := 1
  N := [(Str.ofString "n"), (Str.ofString "orders"), (Str.ofString "step"), (Str.ofString "longer"), (Str.ofString "row"), (Str.ofString "place")]
  lk := [0]
  body := (.cons (.asg 1 (.wk .sh (.lst (.cons (.lst .nil) .nil)))) (.cons (.fr (.nm 2) (.rng1 (.var .pk 0)) (.cons (.asg 3 (.wk .one (.lst .nil))) (.cons (.fr (.nm 4) (.seq (.var .sh 1)) (.cons (.asg 3 (.wk .one (.bin .Add (.var .pk 3) (.lc true (.nm 5) (.rng1 (.var .pk 0)) (.some (.cmp .NotIn (.var .pk 5) (.var .pk 4))) (.bin .Add (.var .pk 4) (.lst (.cons (.var .sh 5) .nil))))))) .nil)) (.cons (.asg 1 (.var .sh 3)) .nil)))) (.cons (.ret (.var .mv 1)) .nil)))
section
variable {P : Tbl} {f a b c d k : Nat} {Q : Ow → D → List (Option (Ow × D)) → Prop}
theorem whole_ok {x : Int} (ef : P[f]? = some dWhole) (q : ∀ outs, Q .all (.bl true) outs) : cal P (k + 1) f [(.all, .int x)] Q := by
  have hC := cal_mono P k
  refine cal_of dWhole ef rfl ?_
  repeat trivial
  exact q _
theorem wholes_ok {o : Ow} {l : List Int} {n : Int} (ef : P[f]? = some (dWholes a)) (ea : P[a]? = some dWhole) (hl : (l.length : Int) = n) (hn : l.length ≤ 1000) (q : ∀ outs, Q .all (.bl true) outs) : cal P (k + 2) f [(.bor, lD l), (.all, .int n)] Q := by
  have hC := cal_mono P (k + 1)
  have hsz : sizeLine = 16777216 := sizeLine_eq
  refine cal_of (dWholes a) ef rfl ?_
  refine st_ite hC (e_or hC (e_nt ?_))
  repeat trivial
  refine ⟨fun h => absurd h (by decide), fun _ => ?_⟩
  repeat trivial
  rw [deq_int]
  refine ⟨fun h => ?_, fun _ => ?_⟩
  · rw [List.length_map, Bool.not_eq_true', decide_eq_false_iff_not] at h
    exact absurd hl h
  refine r_ret (e_b1 (lc_pure ?_ hC))
  refine ⟨_, _, rfl, ?_⟩
  refine ⟨by rw [List.length_map]; omega, ?_⟩
  refine lc_map hC (ea := D.int) (eb := D.bl) l (fun _ => true) (fun x _ => ⟨_, rfl, ?_⟩) ?_
  · repeat trivial
    refine whole_ok ea fun outs => ?_
    repeat trivial
  refine s1_all ?_
  rw [show (l.map fun _ => true).all id = true by rw [List.all_map, List.all_eq_true]; intro x _; rfl]
  repeat trivial
  exact q _
theorem lj_ok {n : Nat} {ties : List (Int × Int)} {o : Ow} {i j : Int} (ef : P[f]? = some dLJ) (hg : GoodT n ties) (q : ∀ outs, Q .all (.bl (joined ties i j)) outs) : cal P (k + 1) f [(.bor, tD ties), (.all, .int i), (.all, .int j)] Q := by
  have hC := cal_mono P k
  refine cal_of dLJ ef rfl ?_
  refine r_ret (e_or hC ?_)
  have e1 : ∀ x y : Int, (ties.map encP).any (fun z => deq z (D.tup [.int x, .int y])) = decide ((x, y) ∈ ties) := fun x y => any_encP (x, y) ties
  have p1 : plainD (.lst (ties.map encP)) = true := plainL (α := Int × Int) ties
  repeat trivial
  rw [e1]
  refine ⟨fun h => ?_, fun h => ?_⟩
  · have e : joined ties i j = true := by rw [← joinedB hg, h, Bool.true_or]
    rw [h, ← e]
    repeat trivial
    exact q _
  · have e : joined ties i j = decide ((j, i) ∈ ties) := by rw [← joinedB hg, h, Bool.false_or]
    have q' : ∀ outs, Q .all (.bl ((ties.map encP).any fun z => deq z (D.tup [.int j, .int i]))) outs := fun outs => by rw [e1, ← e]; exact q outs
    repeat trivial
    exact q' _
theorem lnear_ok {n : Nat} {ties : List (Int × Int)} (ef : P[f]? = some (dLNear a)) (ea : P[a]? = some dLJ) (hg : GoodT n ties) (hn : n ≤ 1000) (q : ∀ outs, Q .all (nearD n ties) outs) : cal P (k + 2) f [(.all, .int n), (.bor, tD ties)] Q := by
  have hC := cal_mono P (k + 1)
  have hsz : sizeLine = 16777216 := sizeLine_eq
  refine cal_of (dLNear a) ef rfl ?_
  refine r_ret (lc_pure ?_ hC)
  repeat trivial
  refine ⟨by omega, by omega, ?_, ?_⟩
  · rw [List.length_map, List.length_range]; omega
  rw [ups_map]
  refine lc_map hC (ea := D.int) (eb := lD) (ups n) (fun p => nb n ties p) (fun p hp => ⟨_, rfl, ?_⟩) ?_
  · refine lc_pure ?_ hC
    repeat trivial
    refine ⟨by omega, by omega, ?_, ?_⟩
    · rw [List.length_map, List.length_range]; omega
    rw [ups_map]
    refine lc_filter hC (ea := D.int) (ups n) (fun q => joined ties p q) (fun r hr => ⟨_, rfl, ?_⟩) ?_
    · repeat trivial
      refine lj_ok (o := .bor) ea hg fun outs => ?_
      refine ⟨rfl, fun _ => ?_⟩
      repeat trivial
    · repeat trivial
  · rw [List.map_map]
    repeat trivial
    exact q _
theorem orders_ok {n : Nat} (ef : P[f]? = some dOrds) (hn : n ≤ 7) (q : ∀ outs, Q .sh (.lst ((ordersO n n).map lD)) outs) : cal P (k + 1) f [(.all, .int n)] Q := by
  have hC := cal_mono P k
  have hsz : sizeLine = 16777216 := sizeLine_eq
  refine cal_of dOrds ef rfl ?_
  refine r_asg ?_
  repeat trivial
  refine ⟨by omega, by omega, ⟨Ow.noConfusion, Ow.noConfusion⟩, ?_⟩
  rw [ups_map]
  refine fr_inv hC (fun i ρ => ∃ v2 v3 v4 v5, ρ = [some (.all, .int n), some (.sh, .lst ((ordersO n i).map lD)), v2, v3, v4, v5]) ⟨none, none, none, none, rfl⟩ ?_ ?_
  · rintro i d ρ hd ⟨v2, v3, v4, v5, rfl⟩
    obtain ⟨rfl, hi⟩ := ups_item hd
    have hlen : ∀ j, j ≤ 7 → (ordersO n j).length ≤ 823543 := fun j hj => Nat.le_trans (orders_len j) (Nat.le_trans (Nat.pow_le_pow_left hn j) (Nat.le_trans (Nat.pow_le_pow_right (by decide) hj) (by decide)))
    refine ⟨_, rfl, ?_⟩
    refine r_asg ?_
    repeat trivial
    have hb := hlen (i + 1) (by omega)
    refine fr_list2 hC (ea := lD) (fun pre ρ => ∃ v4 v5, (pre.flatMap (stp n)).length ≤ pre.length * n ∧ ρ = [some (.all, .int n), some (.sh, .lst ((ordersO n i).map lD)), some (.all, .int i), some (.one, .lst ((pre.flatMap (stp n)).map lD)), v4, v5]) ⟨v4, v5, Nat.zero_le _, rfl⟩ ?_ ?_
    · rintro pre x ρ hx hpx ⟨v4, v5, hpl, rfl⟩
      refine ⟨_, rfl, ?_⟩
      refine r_asg ?_
      repeat trivial
      refine ⟨by omega, by omega, ?_, ?_⟩
      · rw [List.length_map, List.length_range]; omega
      rw [ups_map]
      refine lc_fm hC (ea := D.int) (eb := lD) (ups n) (fun p => !decide (p ∈ x)) (fun p => x ++ [p]) (fun p hp => ⟨_, rfl, ?_⟩) ?_
      · repeat trivial
        refine ⟨plainL (α := Int) x, ?_⟩
        rw [any_encI]
        refine ⟨rfl, fun _ => ?_⟩
        repeat trivial
        refine ⟨by rw [List.length_map, List.length_singleton, (ordersO_mem.mp hx).2]; omega, .all, .all, kidsO_solid (solid_ints x), rfl, ?_⟩
        refine ⟨rfl, congrArg D.lst ?_⟩
        rw [List.map_append]; rfl
      · obtain ⟨k1, e1, e2⟩ := kids_one ((pre.flatMap (stp n)).map lD)
        have hx2 : (stp n x).length ≤ n := by
          unfold stp freeL
          rw [List.length_map]
          refine Nat.le_trans (List.length_filter_le _ _) ?_
          rw [ups_len]; omega
        have ha := hlen i (by omega)
        have hm : (pre.length + 1) * n ≤ 823543 * 7 := Nat.mul_le_mul (by omega) hn
        rw [Nat.add_mul] at hm
        have es : ((ups n).filter fun p => !decide (p ∈ x)).map (fun p => x ++ [p]) = stp n x := rfl
        rw [es]
        have ef : (pre ++ [x]).flatMap (stp n) = pre.flatMap (stp n) ++ stp n x := by rw [List.flatMap_append, List.flatMap_cons, List.flatMap_nil, List.append_nil]
        refine ⟨by rw [List.length_map, List.length_map]; omega, k1, .all, e1, kids_all _, ?_⟩
        refine ⟨.one, by rcases e2 with rfl | rfl <;> rfl, .one, rfl, ?_⟩
        refine ⟨some (.sh, lD x), v5, by rw [ef, List.length_append, List.length_append, List.length_singleton, Nat.add_mul, Nat.one_mul]; omega, ?_⟩
        rw [ef, List.map_append]
        rfl
    · rintro ρ ⟨v4, v5, _, rfl⟩
      repeat trivial
      exact ⟨_, _, _, _, rfl⟩
  · rintro ρ ⟨v2, v3, v4, v5, rfl⟩
    rw [List.length_map, ups_len, show ((n : Int)).toNat = n by omega]
    repeat trivial
    exact q _
end
end VH
namespace VH
open PySem PySem.Spec PyProof.Rows L2
local macro_rules | `(tactic| trivial) => `(tactic| first
  | exact rfl
  | refine ⟨⟨_, rfl⟩, ?_⟩
  | refine ⟨⟨_, _, rfl⟩, ?_⟩
  | refine ⟨_, _, rfl, ?_⟩
  | refine ⟨_, rfl, ?_⟩
  | refine ⟨_, _, _, _, _, rfl, rfl, rfl, rfl, ?_⟩
  | refine ⟨_, _, _, _, rfl, rfl, .inr rfl, rfl, ?_⟩
  | refine ⟨_, _, _, _, rfl, rfl, .inl rfl, rfl, ?_⟩
  | refine ⟨_, _, _, rfl, rfl, .inr rfl, rfl, ?_⟩
  | refine ⟨_, _, _, rfl, rfl, .inl rfl, rfl, ?_⟩
  | refine ⟨.inr ⟨by decide, by decide⟩, ?_⟩
  | refine ⟨by decide, by decide, ?_⟩
  | refine ⟨by decide, ?_⟩
  | refine ⟨Nat.le_of_ble_eq_true rfl, ?_⟩
  | refine ⟨List.nodup_nil, _, rfl, ?_⟩
  | refine ⟨nodup1 _, _, rfl, ?_⟩
  | refine ⟨nodup2 (by decide), _, rfl, ?_⟩
  | refine ⟨rfl, ?_⟩)

theorem pl_all {n : Nat} : ∀ ds : List D, (∀ d ∈ ds, Pl n d) → PyData.canLayAll0 (toPs ds) = true ∧ PyData.depthAll (toPs ds) ≤ n
  | [], _ => ⟨rfl, Nat.zero_le _⟩
  | d :: ds, h => by
    obtain ⟨h1, h2⟩ := pl_all ds fun x hx => h x (List.mem_cons_of_mem _ hx)
    obtain ⟨h3, h4⟩ := h d List.mem_cons_self
    exact ⟨by show ((toP d).canLay0 && PyData.canLayAll0 (toPs ds)) = true; rw [h1, h3]; rfl, by show max _ _ ≤ n; omega⟩
theorem pl_lst {n : Nat} {ds : List D} (h : ∀ d ∈ ds, Pl n d) : Pl (n + 1) (.lst ds) := by
  obtain ⟨h1, h2⟩ := pl_all ds h
  exact ⟨h1, Nat.succ_le_succ h2⟩
theorem pl_tup {n : Nat} {ds : List D} (h : ∀ d ∈ ds, Pl n d) : Pl (n + 1) (.tup ds) := by
  obtain ⟨h1, h2⟩ := pl_all ds h
  exact ⟨h1, Nat.succ_le_succ h2⟩
theorem pl_le {n m : Nat} {d : D} (h : Pl n d) (e : n ≤ m) : Pl m d := ⟨h.1, Nat.le_trans h.2 e⟩
theorem pl_int (i : Int) : Pl 3 (.int i) := pl_le (Enc.pl i) (by decide)
theorem pl_lD (l : List Int) : Pl 3 (lD l) := pl_le (Enc.pl l) (by decide)
theorem pl_tD (l : List (Int × Int)) : Pl 3 (tD l) := pl_le (Enc.pl l) (by decide)
theorem deq_same {n : Nat} {d : D} (h : Pl n d) : deq d d = true := SeqAt.eqv_refl _ h.1
theorem pl_bD (bags : List (List Int)) : Pl 4 (bD bags) := pl_lst fun d hd => by
  obtain ⟨l, _, rfl⟩ := List.mem_map.mp hd
  exact pl_lD l
theorem pl_two {n : Nat} {a b : D} (ha : Pl n a) (hb : Pl n b) : Pl (n + 1) (.tup [a, b]) := pl_tup fun d hd => by
  simp only [List.mem_cons, List.not_mem_nil, or_false] at hd
  rcases hd with rfl | rfl
  · exact ha
  · exact hb
theorem pl_ltwo {n : Nat} {a b : D} (ha : Pl n a) (hb : Pl n b) : Pl (n + 1) (.lst [a, b]) := pl_lst fun d hd => by
  simp only [List.mem_cons, List.not_mem_nil, or_false] at hd
  rcases hd with rfl | rfl
  · exact ha
  · exact hb
theorem best_val {n : Nat} {f B : List Int → Int} {o : List Int} (h : IsBest max n f B) (hL : LeastF n f o) : valL max f [] o = B [] := by
  obtain ⟨r, h1, h2, h3⟩ := h.some n [] Pre.nil (by simp)
  rw [List.nil_append] at h1 h2
  have a := (hL.2.2 r h1 h2).1
  have b := h.le comb_max o [] (by rw [List.nil_append]; exact hL.1) (by rw [List.nil_append]; exact hL.2.1)
  omega
/-- the first of all orders with the least value -/
theorem first_least {n : Nat} {f : List Int → Int} {o : List Int} (hL : LeastF n f o) : ∃ r, (ordersO n n).filter (fun a => decide (valL max f [] a = valL max f [] o)) = o :: r := by
  have hm : o ∈ (ordersO n n).filter (fun a => decide (valL max f [] a = valL max f [] o)) := List.mem_filter.mpr ⟨ordersO_mem.mpr ⟨hL.1, hL.2.1⟩, decide_eq_true rfl⟩
  have hs : ((ordersO n n).filter (fun a => decide (valL max f [] a = valL max f [] o))).Pairwise (· < ·) := List.Pairwise.filter _ (ordersO_sorted n)
  cases hc : (ordersO n n).filter (fun a => decide (valL max f [] a = valL max f [] o)) with
  | nil => rw [hc] at hm; simp at hm
  | cons a r =>
    rw [hc] at hm hs
    rcases List.mem_cons.mp hm with rfl | hm
    · exact ⟨r, rfl⟩
    · have hlt := (List.pairwise_cons.mp hs).1 o hm
      have ha : a ∈ (ordersO n n).filter (fun a => decide (valL max f [] a = valL max f [] o)) := by rw [hc]; simp
      obtain ⟨a1, a2⟩ := List.mem_filter.mp ha
      obtain ⟨a3, a4⟩ := ordersO_mem.mp a1
      exact absurd (of_decide_eq_true a2) ((hL.2.2 a a3 a4).2 hlt)
theorem least_min {n : Nat} {f : List Int → Int} {o : List Int} (hL : LeastF n f o) : minI ((ordersO n n).map fun a => valL max f [] a) = valL max f [] o := by
  have hm : valL max f [] o ∈ (ordersO n n).map fun a => valL max f [] a := List.mem_map.mpr ⟨o, ordersO_mem.mpr ⟨hL.1, hL.2.1⟩, rfl⟩
  have h1 := minI_le hm
  obtain ⟨a, ha, e⟩ := List.mem_map.mp (minI_mem (List.ne_nil_of_mem hm))
  obtain ⟨a3, a4⟩ := ordersO_mem.mp ha
  have := (hL.2.2 a a3 a4).1
  omega
theorem lc_fmK {C : CallS} (hC : MonoC C) {α β : Type} {ea : α → D} {eb : β → D} {o : Ow} {t : Tg} {c e : E} {ρ : VH.Env} {k : Ow} (hk : k = .all ∨ k = .sh) (xs : List α) (p : α → Bool) (g : α → β) {Q : Ow → List D → VH.Env → Prop}
    (h : ∀ x ∈ xs, ∃ ρ2, bindT t (itmO o) (ea x) (wipeE (lock ρ) (tgs t)) = some ρ2 ∧ wpE C c ρ2 fun _ d ρ3 => truth d = some (p x) ∧ (p x = true → wpE C e ρ3 fun o' d' _ => chO o' d' = some k ∧ d' = eb (g x))) (q : ∀ k', (k' = .all ∨ k' = k) → Q k' (((xs.filter p).map g).map eb) ρ) :
    wpLcL (pureT C o t (.some c) e) (xs.map ea) ρ Q := by
  refine lc_typed hC (k := k) (eb := eb) xs (fun x => if p x = true then some (g x) else none) (fun x hx => ?_) hk fun k' hk' => ?_
  · obtain ⟨ρ2, e1, w⟩ := h x hx
    refine ⟨ρ2, e1, wpE_mono hC c _ _ _ (fun _ d ρ3 ⟨e2, w2⟩ => ⟨p x, e2, ?_⟩) w⟩
    cases hp : p x with
    | true =>
      rw [if_pos rfl, if_pos rfl]
      exact wpE_mono hC e _ _ _ (fun o' d' _ ⟨a, b⟩ => ⟨a, by rw [b]; rfl⟩) (w2 hp)
    | false => rfl
  · have e2 : xs.filterMap (fun x => if p x = true then some (g x) else none) = (xs.filter p).map g := by
      clear h q
      induction xs with
      | nil => rfl
      | cons x xs ih =>
        rw [List.filterMap_cons, List.filter_cons]
        cases hp : p x <;> simp [ih]
    rw [e2]
    exact q k' hk'
theorem lc_mapK {C : CallS} (hC : MonoC C) {α β : Type} {ea : α → D} {eb : β → D} {o : Ow} {t : Tg} {e : E} {ρ : VH.Env} {k : Ow} (hk : k = .all ∨ k = .sh) (xs : List α) (g : α → β) {Q : Ow → List D → VH.Env → Prop}
    (h : ∀ x ∈ xs, ∃ ρ2, bindT t (itmO o) (ea x) (wipeE (lock ρ) (tgs t)) = some ρ2 ∧ wpE C e ρ2 fun o' d' _ => chO o' d' = some k ∧ d' = eb (g x)) (q : ∀ k', (k' = .all ∨ k' = k) → Q k' ((xs.map g).map eb) ρ) : wpLcL (pureT C o t .nil e) (xs.map ea) ρ Q := by
  refine lc_typed hC (k := k) (eb := eb) xs (fun x => some (g x)) (fun x hx => ?_) hk fun k' hk' => ?_
  · obtain ⟨ρ2, e1, w⟩ := h x hx
    exact ⟨ρ2, e1, wpE_mono hC e _ _ _ (fun o' d' _ ⟨a, b⟩ => ⟨a, by rw [b]; rfl⟩) w⟩
  · rw [show xs.filterMap (fun x => some (g x)) = xs.map g from congrFun List.filterMap_eq_map xs]
    exact q k' hk'
theorem wk_one {k : Ow} (h : k = .all ∨ k = .sh) (ds : List D) : wkO .one (rootO k) (.lst ds) = some .one := by rcases h with rfl | rfl <;> rfl
end VH
namespace K49
open PySem PySem.Spec PyProof.Rows L2 VH
def top (i : Nat) : Stmt := PySem.Challenge.pw_havenwebs_k49_whole_rows_of_bags.main.body.getD i (.Pass ⟨0, 0, 0, 0⟩)
def d0 : Df where
  nm := (Str.ofString "is_rising")
  np := 1
  N := [(Str.ofString "numbers"), (Str.ofString "at")]
  lk := [0]
  body := (.cons (.ret (.b1 .all_ (.lc true (.nm 1) (.rng2 (.int 1) (.b1 .len (.var .pk 0))) .nil (.cmp .Lt (.sidx 0 (.bin .Sub (.var .pk 1) (.int 1))) (.sidx 0 (.var .pk 1)))))) .nil)
def d1 : Df where
  nm := (Str.ofString "is_bag")
  np := 2
  N := [(Str.ofString "n"), (Str.ofString "bag"), (Str.ofString "place")]
  lk := [0, 1]
  body := (.cons (.ret (.and (.callP 0 (.cons (.wk .bor (.var .pk 1)) .nil)) (.b1 .all_ (.lc true (.nm 2) (.seq (.var .pk 1)) .nil (.chain .LtE .Lt (.int 0) (.var .pk 2) (.var .pk 0)))))) .nil)
def d2 : Df where
  nm := (Str.ofString "fault_of_shape")
  np := 3
  N := [(Str.ofString "n"), (Str.ofString "bags"), (Str.ofString "uppers"), (Str.ofString "i"), (Str.ofString "bag"), (Str.ofString "upper")]
  lk := [0, 1, 2]
  body := (.cons (.ite (.nt (.chain .LtE .LtE (.int 1) (.b1 .len (.var .pk 1)) (.glb (Str.ofString "MOST_BAGS") (.int 20)))) (.cons (.ret (.tup (.cons (.str (Str.ofString "bags")) (.cons (.un .USub (.int 1)) .nil)))) .nil) .nil) (.cons (.fr (.tp (.cons (.nm 3) (.cons (.nm 4) .nil))) (.enum (.var .pk 1)) (.cons (.ite (.nt (.callP 1 (.cons (.var .pk 0) (.cons (.wk .bor (.var .pk 4)) .nil)))) (.cons (.ret (.tup (.cons (.str (Str.ofString "bags")) (.cons (.var .sh 3) .nil)))) .nil) .nil) .nil)) (.cons (.ite (.cmp .NotEq (.b1 .len (.var .pk 2)) (.bin .Sub (.b1 .len (.var .pk 1)) (.int 1))) (.cons (.ret (.tup (.cons (.str (Str.ofString "uppers")) (.cons (.un .USub (.int 1)) .nil)))) .nil) .nil) (.cons (.fr (.tp (.cons (.nm 3) (.cons (.nm 5) .nil))) (.enum (.var .pk 2)) (.cons (.ite (.nt (.chain .LtE .LtE (.int 0) (.var .pk 5) (.var .pk 3))) (.cons (.ret (.tup (.cons (.str (Str.ofString "uppers")) (.cons (.var .sh 3) .nil)))) .nil) .nil) .nil)) (.cons (.ret .non) .nil)))))
def d3 : Df where
  nm := (Str.ofString "hangs_together")
  np := 3
  N := [(Str.ofString "bags"), (Str.ofString "uppers"), (Str.ofString "place"), (Str.ofString "tops"), (Str.ofString "i"), (Str.ofString "bag")]
  lk := [0, 1, 2]
  body := (.cons (.asg 3 (.lc true (.tp (.cons (.nm 4) (.cons (.nm 5) .nil))) (.enum (.var .pk 0)) (.some (.and (.cmp .In (.var .pk 2) (.var .pk 5)) (.or (.cmp .Eq (.var .pk 4) (.int 0)) (.cmp .NotIn (.var .pk 2) (.sidx 0 (.sidx 1 (.bin .Sub (.var .pk 4) (.int 1)))))))) (.var .sh 4))) (.cons (.ret (.cmp .Eq (.b1 .len (.var .pk 3)) (.int 1))) .nil))
def d4 : Df where
  nm := (Str.ofString "fault_of_bags")
  np := 4
  N := [(Str.ofString "n"), (Str.ofString "ties"), (Str.ofString "bags"), (Str.ofString "uppers"), (Str.ofString "fault"), (Str.ofString "place"), (Str.ofString "at"), (Str.ofString "i"), (Str.ofString "j"), (Str.ofString "bag")]
  lk := [0, 1, 2, 3]
  body := (.cons (.asg 4 (.callP 2 (.cons (.var .pk 0) (.cons (.wk .bor (.var .pk 2)) (.cons (.wk .bor (.var .pk 3)) .nil))))) (.cons (.ite (.notN (.var .pk 4)) (.cons (.ret (.var .mv 4)) .nil) .nil) (.cons (.fr (.nm 5) (.rng1 (.var .pk 0)) (.cons (.ite (.nt (.callP 3 (.cons (.wk .bor (.var .pk 2)) (.cons (.wk .bor (.var .pk 3)) (.cons (.var .pk 5) .nil))))) (.cons (.ret (.tup (.cons (.str (Str.ofString "place")) (.cons (.var .sh 5) .nil)))) .nil) .nil) .nil)) (.cons (.fr (.tp (.cons (.nm 6) (.cons (.tp (.cons (.nm 7) (.cons (.nm 8) .nil))) .nil))) (.enum (.var .pk 1)) (.cons (.ite (.nt (.b1 .any_ (.lc true (.nm 9) (.seq (.var .pk 2)) .nil (.and (.cmp .In (.var .pk 7) (.var .pk 9)) (.cmp .In (.var .pk 8) (.var .pk 9)))))) (.cons (.ret (.tup (.cons (.str (Str.ofString "tie")) (.cons (.var .sh 6) .nil)))) .nil) .nil) .nil)) (.cons (.ret .non) .nil)))))
def d5 : Df where
  nm := (Str.ofString "check_bags")
  np := 4
  N := [(Str.ofString "n"), (Str.ofString "ties"), (Str.ofString "bags"), (Str.ofString "uppers"), (Str.ofString "fault")]
  lk := [0, 1, 2, 3]
  body := (.cons (.asg 4 (.callP 4 (.cons (.var .pk 0) (.cons (.wk .bor (.var .pk 1)) (.cons (.wk .bor (.var .pk 2)) (.cons (.wk .bor (.var .pk 3)) .nil)))))) (.cons (.ite (.notN (.var .pk 4)) (.cons .nev .nil) .nil) .nil))
def d6 : Df where
  nm := (Str.ofString "width_of")
  np := 1
  N := [(Str.ofString "bags"), (Str.ofString "bag")]
  lk := [0]
  body := (.cons (.ret (.bin .Sub (.b1 .max_ (.lc true (.nm 1) (.seq (.var .pk 0)) .nil (.b1 .len (.var .pk 1)))) (.int 1))) .nil)
def d7 : Df where
  nm := (Str.ofString "neighbours_left")
  np := 3
  N := [(Str.ofString "n"), (Str.ofString "ties"), (Str.ofString "order"), (Str.ofString "near"), (Str.ofString "place"), (Str.ofString "i"), (Str.ofString "j"), (Str.ofString "found"), (Str.ofString "left"), (Str.ofString "other"), (Str.ofString "own")]
  lk := [0, 1, 2]
  body := (.cons (.asg 3 (.dc (.nm 4) (.rng1 (.var .pk 0)) .nil (.var .pk 4) (.lst .nil))) (.cons (.fr (.tp (.cons (.nm 5) (.cons (.nm 6) .nil))) (.seq (.var .pk 1)) (.cons (.ex (.dmut false 3 (.var .pk 5) (.var .sh 6))) (.cons (.ex (.dmut false 3 (.var .pk 6) (.var .sh 5))) .nil))) (.cons (.asg 7 (.wk .one (.lst .nil))) (.cons (.fr (.nm 4) (.seq (.var .pk 2)) (.cons (.asg 8 (.b1 .sorted_ (.dpop 3 (.var .pk 4)))) (.cons (.ex (.app 7 (.var .sh 8))) (.cons (.fr (.nm 9) (.seq (.var .sh 8)) (.cons (.dset 3 (.var .pk 9) (.lc true (.nm 10) (.seq (.sidx 3 (.var .pk 9))) (.some (.cmp .NotEq (.var .pk 10) (.var .pk 4))) (.var .sh 10))) (.cons (.ex (.dmut true 3 (.var .pk 9) (.lc true (.nm 10) (.seq (.var .pk 8)) (.some (.and (.cmp .NotEq (.var .pk 10) (.var .pk 9)) (.cmp .NotIn (.var .pk 10) (.sidx 3 (.var .pk 9))))) (.var .sh 10)))) .nil))) .nil)))) (.cons (.ret (.var .mv 7)) .nil)))))
def d8 : Df where
  nm := (Str.ofString "tie_of")
  np := 2
  N := [(Str.ofString "i"), (Str.ofString "j")]
  lk := [0, 1]
  body := (.cons (.ret (.tup (.cons (.b2 .min_ (.var .pk 0) (.var .pk 1)) (.cons (.b2 .max_ (.var .pk 0) (.var .pk 1)) .nil)))) .nil)
def d9 : Df where
  nm := (Str.ofString "are_joined")
  np := 3
  N := [(Str.ofString "ties"), (Str.ofString "i"), (Str.ofString "j")]
  lk := [0, 1, 2]
  body := (.cons (.ret (.cmp .In (.callP 8 (.cons (.var .pk 1) (.cons (.var .pk 2) .nil))) (.var .pk 0))) .nil)
def d10 : Df where
  nm := (Str.ofString "neighbours")
  np := 3
  N := [(Str.ofString "n"), (Str.ofString "ties"), (Str.ofString "i"), (Str.ofString "j")]
  lk := [0, 1, 2]
  body := (.cons (.ret (.lc true (.nm 3) (.rng1 (.var .pk 0)) (.some (.callP 9 (.cons (.wk .bor (.var .pk 1)) (.cons (.var .pk 2) (.cons (.var .pk 3) .nil))))) (.var .sh 3))) .nil)
def d11 : Df where
  nm := (Str.ofString "order_width")
  np := 3
  N := [(Str.ofString "n"), (Str.ofString "ties"), (Str.ofString "order"), (Str.ofString "left")]
  lk := [0, 1, 2]
  body := (.cons (.ret (.mxd true (.lc true (.nm 3) (.seq (.callP 7 (.cons (.var .pk 0) (.cons (.wk .bor (.var .pk 1)) (.cons (.wk .bor (.var .pk 2)) .nil))))) .nil (.b1 .len (.var .pk 3))) (.int 0))) .nil)
def d12 : Df where
  nm := (Str.ofString "has_place")
  np := 2
  N := [(Str.ofString "number"), (Str.ofString "place")]
  lk := [0, 1]
  body := (.cons (.ret (.cmp .Eq (.bin .Mod (.bin .RShift (.var .pk 0) (.var .pk 1)) (.int 2)) (.int 1))) .nil)
def d13 : Df where
  nm := (Str.ofString "near_places")
  np := 2
  N := [(Str.ofString "n"), (Str.ofString "ties"), (Str.ofString "place")]
  lk := [0, 1]
  body := (.cons (.ret (.lc true (.nm 2) (.rng1 (.var .pk 0)) .nil (.callP 10 (.cons (.var .pk 0) (.cons (.wk .bor (.var .pk 1)) (.cons (.var .pk 2) .nil)))))) .nil)
def d14 : Df where
  nm := (Str.ofString "joined_when_off")
  np := 3
  N := [(Str.ofString "near"), (Str.ofString "gone"), (Str.ofString "place"), (Str.ofString "met"), (Str.ofString "found"), (Str.ofString "at"), (Str.ofString "other")]
  lk := [0, 1, 2]
  body := (.cons (.asg 3 (.lst (.cons (.var .sh 2) .nil))) (.cons (.asg 4 (.lst .nil)) (.cons (.asg 5 (.int 0)) (.cons (.wh (.cmp .Lt (.var .pk 5) (.b1 .len (.var .pk 3))) (.cons (.fr (.nm 6) (.seq (.idx (.var .pk 0) (.sidx 3 (.var .pk 5)))) (.cons (.ite (.and (.cmp .NotIn (.var .pk 6) (.var .pk 3)) (.cmp .NotIn (.var .pk 6) (.var .pk 4))) (.cons (.ite (.callP 12 (.cons (.var .pk 1) (.cons (.var .pk 6) .nil))) (.cons (.ex (.app 3 (.var .sh 6))) .nil) (.cons (.ex (.app 4 (.var .sh 6))) .nil)) .nil) .nil) .nil)) (.cons (.aug 5 .Add (.int 1)) .nil))) (.cons (.ret (.b1 .len (.var .pk 4))) .nil)))))
def d15 : Df where
  nm := (Str.ofString "least_widths")
  np := 2
  N := [(Str.ofString "n"), (Str.ofString "near"), (Str.ofString "widths"), (Str.ofString "gone"), (Str.ofString "left"), (Str.ofString "place")]
  lk := [0, 1]
  body := (.cons (.asg 2 (.bin .Mult (.lst (.cons (.int 0) .nil)) (.bin .LShift (.int 1) (.var .pk 0)))) (.cons (.fr (.nm 3) (.rng3 (.bin .Sub (.bin .LShift (.int 1) (.var .pk 0)) (.int 2)) (.un .USub (.int 1)) (-1)) (.cons (.asg 4 (.lc true (.nm 5) (.rng1 (.var .pk 0)) (.some (.nt (.callP 12 (.cons (.var .pk 3) (.cons (.var .pk 5) .nil))))) (.var .sh 5))) (.cons (.set 2 (.var .pk 3) (.b1 .min_ (.lc true (.nm 5) (.seq (.var .pk 4)) .nil (.b2 .max_ (.callP 14 (.cons (.wk .bor (.var .pk 1)) (.cons (.wk .bor (.var .pk 3)) (.cons (.var .pk 5) .nil)))) (.sidx 2 (.bin .Add (.var .pk 3) (.bin .LShift (.int 1) (.var .pk 5)))))))) .nil))) (.cons (.ret (.var .mv 2)) .nil)))
def d16 : Df where
  nm := (Str.ofString "least_order")
  np := 2
  N := [(Str.ofString "n"), (Str.ofString "ties"), (Str.ofString "near"), (Str.ofString "widths"), (Str.ofString "order"), (Str.ofString "gone"), (Str.ofString "_"), (Str.ofString "left"), (Str.ofString "fits"), (Str.ofString "place")]
  lk := [0, 1]
  body := (.cons (.asg 2 (.callP 13 (.cons (.var .pk 0) (.cons (.wk .bor (.var .pk 1)) .nil)))) (.cons (.asg 3 (.callP 15 (.cons (.var .pk 0) (.cons (.wk .bor (.var .pk 2)) .nil)))) (.cons (.asg 4 (.lst .nil)) (.cons (.asg 5 (.int 0)) (.cons (.fr (.nm 6) (.rng1 (.var .pk 0)) (.cons (.asg 7 (.lc true (.nm 9) (.rng1 (.var .pk 0)) (.some (.nt (.callP 12 (.cons (.var .pk 5) (.cons (.var .pk 9) .nil))))) (.var .sh 9))) (.cons (.asg 8 (.lc true (.nm 9) (.seq (.var .pk 7)) (.some (.cmp .LtE (.callP 14 (.cons (.wk .bor (.var .pk 2)) (.cons (.wk .bor (.var .pk 5)) (.cons (.var .pk 9) .nil)))) (.sidx 3 (.int 0)))) (.var .sh 9))) (.cons (.ex (.app 4 (.idx (.lc true (.nm 9) (.seq (.var .pk 8)) (.some (.cmp .LtE (.sidx 3 (.bin .Add (.var .pk 5) (.bin .LShift (.int 1) (.var .pk 9)))) (.sidx 3 (.int 0)))) (.var .sh 9)) (.int 0)))) (.cons (.aug 5 .Add (.bin .LShift (.int 1) (.sidx 4 (.un .USub (.int 1))))) .nil))))) (.cons (.ret (.var .mv 4)) .nil))))))
def d17 : Df where
  nm := (Str.ofString "joined_behind")
  np := 2
  N := [(Str.ofString "near"), (Str.ofString "ahead"), (Str.ofString "places"), (Str.ofString "place"), (Str.ofString "other")]
  lk := [0, 1]
  body := (.cons (.asg 2 (.lc true (.nm 3) (.rng1 (.b1 .len (.var .pk 0))) (.some (.callP 12 (.cons (.var .pk 1) (.cons (.var .pk 3) .nil)))) (.var .sh 3))) (.cons (.ret (.b1 .len (.lc true (.nm 3) (.seq (.var .pk 2)) (.some (.nt (.b1 .all_ (.lc true (.nm 4) (.seq (.sidx 0 (.var .pk 3))) .nil (.callP 12 (.cons (.var .pk 1) (.cons (.var .pk 4) .nil))))))) (.var .sh 3)))) .nil))
def d18 : Df where
  nm := (Str.ofString "cut_sizes")
  np := 3
  N := [(Str.ofString "n"), (Str.ofString "ties"), (Str.ofString "order"), (Str.ofString "near"), (Str.ofString "sizes"), (Str.ofString "ahead"), (Str.ofString "place")]
  lk := [0, 1, 2]
  body := (.cons (.asg 3 (.callP 13 (.cons (.var .pk 0) (.cons (.wk .bor (.var .pk 1)) .nil)))) (.cons (.asg 4 (.lst .nil)) (.cons (.asg 5 (.int 0)) (.cons (.fr (.nm 6) (.seq (.slc (.var .pk 2) .nil (.some (.un .USub (.int 1))))) (.cons (.aug 5 .Add (.bin .LShift (.int 1) (.var .pk 6))) (.cons (.ex (.app 4 (.callP 17 (.cons (.wk .bor (.var .pk 3)) (.cons (.wk .bor (.var .pk 5)) .nil))))) .nil))) (.cons (.ret (.var .mv 4)) .nil)))))
def d19 : Df where
  nm := (Str.ofString "least_cuts")
  np := 2
  N := [(Str.ofString "n"), (Str.ofString "near"), (Str.ofString "cuts"), (Str.ofString "ahead"), (Str.ofString "further"), (Str.ofString "place")]
  lk := [0, 1]
  body := (.cons (.asg 2 (.bin .Mult (.lst (.cons (.int 0) .nil)) (.bin .LShift (.int 1) (.var .pk 0)))) (.cons (.fr (.nm 3) (.rng3 (.bin .Sub (.bin .LShift (.int 1) (.var .pk 0)) (.int 2)) (.un .USub (.int 1)) (-1)) (.cons (.asg 4 (.lc true (.nm 5) (.rng1 (.var .pk 0)) (.some (.nt (.callP 12 (.cons (.var .pk 3) (.cons (.var .pk 5) .nil))))) (.idx (.var .pk 2) (.bin .Add (.var .pk 3) (.bin .LShift (.int 1) (.var .pk 5)))))) (.cons (.set 2 (.var .pk 3) (.b2 .max_ (.callP 17 (.cons (.wk .bor (.var .pk 1)) (.cons (.wk .bor (.var .pk 3)) .nil))) (.b1 .min_ (.var .pk 4)))) .nil))) (.cons (.ret (.var .mv 2)) .nil)))
def d20 : Df where
  nm := (Str.ofString "row_width")
  np := 2
  N := [(Str.ofString "n"), (Str.ofString "ties")]
  lk := [0, 1]
  body := (.cons (.ret (.idx (.callP 19 (.cons (.var .pk 0) (.cons (.wk .bor (.callP 13 (.cons (.var .pk 0) (.cons (.wk .bor (.var .pk 1)) .nil)))) .nil))) (.int 0))) .nil)
def d21 : Df where
  nm := (Str.ofString "first_order")
  np := 2
  N := [(Str.ofString "n"), (Str.ofString "ties"), (Str.ofString "cuts"), (Str.ofString "order"), (Str.ofString "ahead"), (Str.ofString "_"), (Str.ofString "left"), (Str.ofString "place")]
  lk := [0, 1]
  body := (.cons (.asg 2 (.callP 19 (.cons (.var .pk 0) (.cons (.wk .bor (.callP 13 (.cons (.var .pk 0) (.cons (.wk .bor (.var .pk 1)) .nil)))) .nil)))) (.cons (.asg 3 (.lst .nil)) (.cons (.asg 4 (.int 0)) (.cons (.fr (.nm 5) (.rng1 (.var .pk 0)) (.cons (.asg 6 (.lc true (.nm 7) (.rng1 (.var .pk 0)) (.some (.nt (.callP 12 (.cons (.var .pk 4) (.cons (.var .pk 7) .nil))))) (.var .sh 7))) (.cons (.ex (.app 3 (.idx (.lc true (.nm 7) (.seq (.var .pk 6)) (.some (.cmp .LtE (.sidx 2 (.bin .Add (.var .pk 4) (.bin .LShift (.int 1) (.var .pk 7)))) (.sidx 2 (.int 0)))) (.var .sh 7)) (.int 0)))) (.cons (.aug 4 .Add (.bin .LShift (.int 1) (.sidx 3 (.un .USub (.int 1))))) .nil)))) (.cons (.ret (.var .mv 3)) .nil)))))
def d22 : Df where
  nm := (Str.ofString "bag_at")
  np := 3
  N := [(Str.ofString "near"), (Str.ofString "order"), (Str.ofString "at"), (Str.ofString "later"), (Str.ofString "place"), (Str.ofString "other")]
  lk := [0, 1, 2]
  body := (.cons (.asg 3 (.slc (.var .pk 1) (.some (.var .pk 2)) .nil)) (.cons (.ret (.b1 .sorted_ (.bin .Add (.lc true (.nm 4) (.seq (.slc (.var .pk 1) .nil (.some (.var .pk 2)))) (.some (.b1 .any_ (.lc true (.nm 5) (.seq (.sidx 0 (.var .pk 4))) .nil (.cmp .In (.var .pk 5) (.var .pk 3))))) (.var .sh 4)) (.lst (.cons (.idx (.var .pk 1) (.var .pk 2)) .nil))))) .nil))
def d23 : Df where
  nm := (Str.ofString "row_told")
  np := 2
  N := [(Str.ofString "n"), (Str.ofString "ties"), (Str.ofString "near"), (Str.ofString "order"), (Str.ofString "at")]
  lk := [0, 1]
  body := (.cons (.asg 2 (.callP 13 (.cons (.var .pk 0) (.cons (.wk .bor (.var .pk 1)) .nil)))) (.cons (.asg 3 (.callP 21 (.cons (.var .pk 0) (.cons (.wk .bor (.var .pk 1)) .nil)))) (.cons (.ret (.tupM 3 (.lc true (.nm 4) (.rng1 (.var .pk 0)) .nil (.callP 22 (.cons (.wk .bor (.var .pk 2)) (.cons (.wk .bor (.var .pk 3)) (.cons (.var .pk 4) .nil))))))) .nil)))
def d24 : Df where
  nm := (Str.ofString "width")
  np := 2
  N := [(Str.ofString "n"), (Str.ofString "ties")]
  lk := [0, 1]
  body := (.cons (.ret (.callP 11 (.cons (.var .pk 0) (.cons (.wk .bor (.var .pk 1)) (.cons (.wk .bor (.callP 16 (.cons (.var .pk 0) (.cons (.wk .bor (.var .pk 1)) .nil)))) .nil))))) .nil)
def d25 : Df where
  nm := (Str.ofString "_law_feed")
  np := 1
  N := [(Str.ofString "script")]
  lk := [0]
  body := (.cons (.ret (.lst (.cons (.b1 .list_ (.var .pk 0)) (.cons (.int 0) (.cons (.int 0) (.cons (.int 1) .nil)))))) .nil)
def d26 : Df where
  nm := (Str.ofString "_law_draw")
  np := 2
  N := [(Str.ofString "feed"), (Str.ofString "many"), (Str.ofString "cell"), (Str.ofString "told"), (Str.ofString "mixed")]
  lk := [0, 1]
  body := (.cons (.ite (.and (.cmp .Eq (.sidx 0 (.int 2)) (.int 0)) (.cmp .Lt (.sidx 0 (.int 1)) (.b1 .len (.sidx 0 (.int 0))))) (.cons (.asg 2 (.b1 .abs (.b1 .int_ (.idx (.sidx 0 (.int 0)) (.sidx 0 (.int 1)))))) (.cons (.augS 0 (.int 1) .Add (.int 1)) (.cons (.ite (.cmp .GtE (.var .pk 2) (.bin .Pow (.int 10) (.int 18))) (.cons (.set 0 (.int 2) (.var .sh 2)) .nil) (.cons (.set 0 (.int 3) (.bin .Mod (.b1 .int_ (.bin .Add (.bin .Add (.bin .Mult (.sidx 0 (.int 3)) (.int 48271)) (.bin .Mult (.var .pk 2) (.int 69621))) (.sidx 0 (.int 1)))) (.int 2147483647))) .nil)) .nil))) .nil) (.cons (.ite (.cmp .Gt (.sidx 0 (.int 2)) (.int 0)) (.cons (.asg 3 (.bin .Mod (.b1 .int_ (.sidx 0 (.int 2))) (.var .pk 1))) (.cons (.set 0 (.int 2) (.bin .FloorDiv (.sidx 0 (.int 2)) (.var .pk 1))) (.cons (.ret (.var .mv 3)) .nil))) .nil) (.cons (.set 0 (.int 3) (.bin .Mod (.b1 .int_ (.bin .Add (.bin .Mult (.sidx 0 (.int 3)) (.int 16807)) (.int 12345))) (.int 2147483647))) (.cons (.asg 4 (.bin .Mod (.b1 .int_ (.bin .Add (.bin .Mult (.sidx 0 (.int 3)) (.sidx 0 (.int 3))) (.sidx 0 (.int 3)))) (.int 2147483629))) (.cons (.ret (.bin .Mod (.bin .FloorDiv (.var .pk 4) (.int 11)) (.var .pk 1))) .nil)))))
def d27 : Df where
  nm := (Str.ofString "_law_whole")
  np := 1
  N := [(Str.ofString "x")]
  lk := [0]
  body := (.cons (.ret (.and (.isi .int_ (.var .pk 0)) (.nt (.isi .bool_ (.var .pk 0))))) .nil)
def d28 : Df where
  nm := (Str.ofString "_law_wholes")
  np := 2
  N := [(Str.ofString "x"), (Str.ofString "n"), (Str.ofString "k")]
  lk := [0, 1]
  body := (.cons (.ite (.or (.nt (.isi .list_ (.var .pk 0))) (.cmp .NotEq (.b1 .len (.var .pk 0)) (.var .pk 1))) (.cons (.ret (.bl false)) .nil) .nil) (.cons (.ret (.b1 .all_ (.lc true (.nm 2) (.seq (.var .pk 0)) .nil (.callP 27 (.cons (.var .pk 2) .nil))))) .nil))
def d29 : Df where
  nm := (Str.ofString "_law_pairs")
  np := 1
  N := [(Str.ofString "n"), (Str.ofString "found"), (Str.ofString "i"), (Str.ofString "j")]
  lk := [0]
  body := (.cons (.asg 1 (.lst .nil)) (.cons (.fr (.nm 2) (.rng1 (.var .pk 0)) (.cons (.asg 1 (.bin .Add (.var .pk 1) (.lc true (.nm 3) (.rng2 (.bin .Add (.var .pk 2) (.int 1)) (.var .pk 0)) .nil (.tup (.cons (.var .sh 2) (.cons (.var .sh 3) .nil)))))) .nil)) (.cons (.ret (.var .mv 1)) .nil)))
def d30 : Df where
  nm := (Str.ofString "_law_order")
  np := 2
  N := [(Str.ofString "feed"), (Str.ofString "n"), (Str.ofString "rest"), (Str.ofString "k"), (Str.ofString "order")]
  lk := [0, 1]
  body := (.cons (.asg 2 (.lc true (.nm 3) (.rng1 (.var .pk 1)) .nil (.var .sh 3))) (.cons (.asg 4 (.lst .nil)) (.cons (.fr (.nm 3) (.rng1 (.var .pk 1)) (.cons (.ex (.app 4 (.popAt 2 (.callX 26 (.lend 0 (.val (.b1 .len (.var .pk 2)) .nil)))))) .nil)) (.cons (.ret (.var .mv 4)) .nil))))
def d31 : Df where
  nm := (Str.ofString "_law_joined")
  np := 3
  N := [(Str.ofString "ties"), (Str.ofString "i"), (Str.ofString "j")]
  lk := [0, 1, 2]
  body := (.cons (.ret (.or (.cmp .In (.tup (.cons (.var .sh 1) (.cons (.var .sh 2) .nil))) (.var .pk 0)) (.cmp .In (.tup (.cons (.var .sh 2) (.cons (.var .sh 1) .nil))) (.var .pk 0)))) .nil)
def d32 : Df where
  nm := (Str.ofString "_law_near")
  np := 2
  N := [(Str.ofString "n"), (Str.ofString "ties"), (Str.ofString "i"), (Str.ofString "j")]
  lk := [0, 1]
  body := (.cons (.ret (.lc true (.nm 2) (.rng1 (.var .pk 0)) .nil (.lc true (.nm 3) (.rng1 (.var .pk 0)) (.some (.callP 31 (.cons (.wk .bor (.var .pk 1)) (.cons (.var .pk 2) (.cons (.var .pk 3) .nil))))) (.var .sh 3)))) .nil)
def d33 : Df where
  nm := (Str.ofString "_law_web")
  np := 2
  N := [(Str.ofString "feed"), (Str.ofString "n"), (Str.ofString "kind"), (Str.ofString "ties"), (Str.ofString "k"), (Str.ofString "share"), (Str.ofString "pair"), (Str.ofString "names"), (Str.ofString "i"), (Str.ofString "j")]
  lk := [0, 1]
  body := (.cons (.asg 2 (.callX 26 (.lend 0 (.val (.int 9) .nil)))) (.cons (.asg 3 (.lc true (.nm 4) (.rng1 (.bin .Sub (.var .pk 1) (.int 1))) .nil (.tup (.cons (.var .sh 4) (.cons (.bin .Add (.var .pk 4) (.int 1)) .nil))))) (.cons (.ite (.and (.cmp .Eq (.var .pk 2) (.int 0)) (.cmp .Gt (.var .pk 1) (.int 2))) (.cons (.asg 3 (.bin .Add (.var .pk 3) (.lst (.cons (.tup (.cons (.int 0) (.cons (.bin .Sub (.var .pk 1) (.int 1)) .nil))) .nil)))) .nil) .nil) (.cons (.ite (.cmp .Eq (.var .pk 2) (.int 1)) (.cons (.asg 3 (.lc true (.nm 4) (.rng2 (.int 1) (.var .pk 1)) .nil (.tup (.cons (.int 0) (.cons (.var .sh 4) .nil))))) .nil) .nil) (.cons (.ite (.cmp .Eq (.var .pk 2) (.int 2)) (.cons (.asg 3 (.lc false (.nm 4) (.rng2 (.int 1) (.var .pk 1)) .nil (.tup (.cons (.callX 26 (.lend 0 (.val (.var .sh 4) .nil))) (.cons (.var .sh 4) .nil))))) .nil) .nil) (.cons (.ite (.cmp .Eq (.var .pk 2) (.int 3)) (.cons (.asg 3 (.callP 29 (.cons (.var .pk 1) .nil))) .nil) .nil) (.cons (.ite (.cmp .Eq (.var .pk 2) (.int 4)) (.cons (.asg 3 (.bin .Add (.lc true (.nm 4) (.rng1 (.bin .Sub (.var .pk 1) (.int 2))) .nil (.tup (.cons (.var .sh 4) (.cons (.bin .Add (.var .pk 4) (.int 2)) .nil)))) (.lc true (.nm 4) (.rng3 (.int 0) (.bin .Sub (.var .pk 1) (.int 1)) 2) .nil (.tup (.cons (.var .sh 4) (.cons (.bin .Add (.var .pk 4) (.int 1)) .nil)))))) .nil) .nil) (.cons (.ite (.cmp .Gt (.var .pk 2) (.int 4)) (.cons (.asg 5 (.bin .Add (.int 1) (.callX 26 (.lend 0 (.val (.int 5) .nil))))) (.cons (.asg 3 (.lst .nil)) (.cons (.fr (.nm 6) (.seq (.callP 29 (.cons (.var .pk 1) .nil))) (.cons (.ite (.cmp .Lt (.callX 26 (.lend 0 (.val (.int 6) .nil))) (.var .pk 5)) (.cons (.ex (.app 3 (.var .sh 6))) .nil) .nil) .nil)) .nil))) .nil) (.cons (.asg 7 (.callX 30 (.lend 0 (.val (.var .sh 1) .nil)))) (.cons (.ret (.b1 .sorted_ (.lc true (.tp (.cons (.nm 8) (.cons (.nm 9) .nil))) (.seq (.slc (.var .pk 3) .nil (.some (.int 40)))) .nil (.tup (.cons (.b2 .min_ (.sidx 7 (.var .pk 8)) (.sidx 7 (.var .pk 9))) (.cons (.b2 .max_ (.sidx 7 (.var .pk 8)) (.sidx 7 (.var .pk 9))) .nil)))))) .nil))))))))))
def d34 : Df where
  nm := (Str.ofString "_law_cuts")
  np := 2
  N := [(Str.ofString "near"), (Str.ofString "order"), (Str.ofString "found"), (Str.ofString "at"), (Str.ofString "behind"), (Str.ofString "place"), (Str.ofString "p")]
  lk := [0, 1]
  body := (.cons (.asg 2 (.lst .nil)) (.cons (.fr (.nm 3) (.rng2 (.int 1) (.b1 .len (.var .pk 1))) (.cons (.asg 4 (.slc (.var .pk 1) (.some (.var .pk 3)) .nil)) (.cons (.ex (.app 2 (.b1 .len (.lc true (.nm 5) (.seq (.slc (.var .pk 1) .nil (.some (.var .pk 3)))) (.some (.cmp .Gt (.b1 .len (.lc true (.nm 6) (.seq (.sidx 0 (.var .pk 5))) (.some (.cmp .In (.var .pk 6) (.var .pk 4))) (.var .sh 6))) (.int 0))) (.var .sh 5))))) .nil))) (.cons (.ret (.var .mv 2)) .nil)))
def d35 : Df where
  nm := (Str.ofString "_law_cuts_right")
  np := 3
  N := [(Str.ofString "n"), (Str.ofString "ties"), (Str.ofString "order"), (Str.ofString "handed"), (Str.ofString "due"), (Str.ofString "told")]
  lk := [0, 1, 2]
  body := (.cons (.asg 3 (.lst (.cons (.b1 .list_ (.var .pk 1)) (.cons (.b1 .list_ (.var .pk 2)) .nil)))) (.cons (.asg 4 (.callP 34 (.cons (.wk .bor (.callP 32 (.cons (.var .pk 0) (.cons (.wk .bor (.var .pk 1)) .nil)))) (.cons (.wk .bor (.var .pk 2)) .nil)))) (.cons (.asg 5 (.callP 18 (.cons (.var .pk 0) (.cons (.wk .bor (.sidx 3 (.int 0))) (.cons (.wk .bor (.sidx 3 (.int 1))) .nil))))) (.cons (.ite (.or (.nt (.callP 28 (.cons (.var .pk 5) (.cons (.b1 .len (.var .pk 4)) .nil)))) (.or (.cmp .NotEq (.var .pk 5) (.var .pk 4)) (.cmp .NotEq (.var .pk 3) (.lst (.cons (.var .sh 1) (.cons (.var .sh 2) .nil)))))) (.cons (.ret (.bl false)) .nil) .nil) (.cons (.ex (.app 5 (.un .USub (.int 1)))) (.cons (.ret (.cmp .Eq (.callP 18 (.cons (.var .pk 0) (.cons (.wk .bor (.sidx 3 (.int 0))) (.cons (.wk .bor (.sidx 3 (.int 1))) .nil)))) (.var .pk 4))) .nil))))))
def d36 : Df where
  nm := (Str.ofString "_law_first")
  np := 2
  N := [(Str.ofString "n"), (Str.ofString "near"), (Str.ofString "cuts"), (Str.ofString "ahead"), (Str.ofString "own"), (Str.ofString "place"), (Str.ofString "p"), (Str.ofString "order"), (Str.ofString "step"), (Str.ofString "fits")]
  lk := [0, 1]
  body := (.cons (.asg 2 (.bin .Mult (.lst (.cons (.int 0) .nil)) (.bin .LShift (.int 1) (.var .pk 0)))) (.cons (.fr (.nm 3) (.rng3 (.bin .Sub (.bin .LShift (.int 1) (.var .pk 0)) (.int 2)) (.un .USub (.int 1)) (-1)) (.cons (.asg 4 (.int 0)) (.cons (.fr (.nm 5) (.rng1 (.var .pk 0)) (.cons (.ite (.and (.cmp .Eq (.bin .BitAnd (.bin .RShift (.var .pk 3) (.var .pk 5)) (.int 1)) (.int 1)) (.cmp .Gt (.b1 .len (.lc true (.nm 6) (.seq (.sidx 1 (.var .pk 5))) (.some (.cmp .Eq (.bin .BitAnd (.bin .RShift (.var .pk 3) (.var .pk 6)) (.int 1)) (.int 0))) (.var .sh 6))) (.int 0))) (.cons (.aug 4 .Add (.int 1)) .nil) .nil) .nil)) (.cons (.set 2 (.var .pk 3) (.b2 .max_ (.var .pk 4) (.b1 .min_ (.lc true (.nm 5) (.rng1 (.var .pk 0)) (.some (.cmp .Eq (.bin .BitAnd (.bin .RShift (.var .pk 3) (.var .pk 5)) (.int 1)) (.int 0))) (.idx (.var .pk 2) (.bin .Add (.var .pk 3) (.bin .LShift (.int 1) (.var .pk 5)))))))) .nil)))) (.cons (.asg 7 (.lst .nil)) (.cons (.asg 3 (.int 0)) (.cons (.fr (.nm 8) (.rng1 (.var .pk 0)) (.cons (.asg 9 (.lc true (.nm 5) (.rng1 (.var .pk 0)) (.some (.and (.cmp .NotIn (.var .pk 5) (.var .pk 7)) (.cmp .LtE (.sidx 2 (.bin .Add (.var .pk 3) (.bin .LShift (.int 1) (.var .pk 5)))) (.sidx 2 (.int 0))))) (.var .sh 5))) (.cons (.ex (.app 7 (.idx (.var .pk 9) (.int 0)))) (.cons (.aug 3 .Add (.bin .LShift (.int 1) (.sidx 9 (.int 0)))) .nil)))) (.cons (.ret (.tup (.cons (.idx (.var .pk 2) (.int 0)) (.cons (.var .sh 7) .nil)))) .nil))))))
def d37 : Df where
  nm := (Str.ofString "_law_orders")
  np := 1
  N := [(Str.ofString "n"), (Str.ofString "orders"), (Str.ofString "step"), (Str.ofString "longer"), (Str.ofString "row"), (Str.ofString "place")]
  lk := [0]
  body := (.cons (.asg 1 (.wk .sh (.lst (.cons (.lst .nil) .nil)))) (.cons (.fr (.nm 2) (.rng1 (.var .pk 0)) (.cons (.asg 3 (.wk .one (.lst .nil))) (.cons (.fr (.nm 4) (.seq (.var .sh 1)) (.cons (.asg 3 (.wk .one (.bin .Add (.var .pk 3) (.lc true (.nm 5) (.rng1 (.var .pk 0)) (.some (.cmp .NotIn (.var .pk 5) (.var .pk 4))) (.bin .Add (.var .pk 4) (.lst (.cons (.var .sh 5) .nil))))))) .nil)) (.cons (.asg 1 (.var .sh 3)) .nil)))) (.cons (.ret (.var .mv 1)) .nil)))
def d38 : Df where
  nm := (Str.ofString "_law_bags")
  np := 2
  N := [(Str.ofString "near"), (Str.ofString "order"), (Str.ofString "bags"), (Str.ofString "at"), (Str.ofString "behind"), (Str.ofString "bag"), (Str.ofString "place"), (Str.ofString "p")]
  lk := [0, 1]
  body := (.cons (.asg 2 (.lst .nil)) (.cons (.fr (.nm 3) (.rng1 (.b1 .len (.var .pk 1))) (.cons (.asg 4 (.slc (.var .pk 1) (.some (.var .pk 3)) .nil)) (.cons (.asg 5 (.lc true (.nm 6) (.seq (.slc (.var .pk 1) .nil (.some (.var .pk 3)))) (.some (.cmp .Gt (.b1 .len (.lc true (.nm 7) (.seq (.sidx 0 (.var .pk 6))) (.some (.cmp .In (.var .pk 7) (.var .pk 4))) (.var .sh 7))) (.int 0))) (.var .sh 6))) (.cons (.ex (.app 2 (.b1 .sorted_ (.bin .Add (.var .pk 5) (.lst (.cons (.idx (.var .pk 1) (.var .pk 3)) .nil)))))) .nil)))) (.cons (.ret (.var .mv 2)) .nil)))
def d39 : Df where
  nm := (Str.ofString "_law_right")
  np := 3
  N := [(Str.ofString "feed"), (Str.ofString "n"), (Str.ofString "ties"), (Str.ofString "near"), (Str.ofString "handed"), (Str.ofString "least"), (Str.ofString "due"), (Str.ofString "bags"), (Str.ofString "told"), (Str.ofString "bag"), (Str.ofString "x"), (Str.ofString "many"), (Str.ofString "k"), (Str.ofString "every"), (Str.ofString "order"), (Str.ofString "pair")]
  lk := [0, 1, 2]
  body := (.cons (.asg 3 (.callP 32 (.cons (.var .pk 1) (.cons (.wk .bor (.var .pk 2)) .nil)))) (.cons (.asg 4 (.b1 .list_ (.var .pk 2))) (.cons (.asgT (.tp (.cons (.nm 5) (.cons (.nm 6) .nil))) (.callP 36 (.cons (.var .pk 1) (.cons (.wk .bor (.var .pk 3)) .nil)))) (.cons (.asg 7 (.wk .sh (.callP 38 (.cons (.wk .bor (.var .pk 3)) (.cons (.wk .bor (.var .pk 6)) .nil))))) (.cons (.asg 8 (.callP 23 (.cons (.var .pk 1) (.cons (.wk .bor (.var .pk 4)) .nil)))) (.cons (.ite (.or (.nt (.isi .tuple_ (.var .pk 8))) (.or (.cmp .NotEq (.b1 .len (.var .pk 8)) (.int 2)) (.or (.nt (.callP 28 (.cons (.sidx 8 (.int 0)) (.cons (.var .pk 1) .nil)))) (.or (.nt (.isi .list_ (.sidx 8 (.int 1)))) (.cmp .NotEq (.var .pk 4) (.var .pk 2)))))) (.cons (.ret (.bl false)) .nil) .nil) (.cons (.lkd [9] (.fr (.nm 9) (.seq (.sidx 8 (.int 1))) (.cons (.ite (.or (.nt (.isi .list_ (.var .pk 9))) (.cmp .NotEq (.b1 .len (.lc true (.nm 10) (.seq (.var .pk 9)) (.some (.callP 27 (.cons (.var .pk 10) .nil))) (.var .sh 10))) (.b1 .len (.var .pk 9)))) (.cons (.ret (.bl false)) .nil) .nil) .nil))) (.cons (.ite (.or (.cmp .NotEq (.var .pk 8) (.tup (.cons (.var .sh 6) (.cons (.var .sh 7) .nil)))) (.cmp .NotEq (.b1 .max_ (.bin .Add (.lst (.cons (.int 0) .nil)) (.callP 34 (.cons (.wk .bor (.var .pk 3)) (.cons (.wk .bor (.var .pk 6)) .nil))))) (.var .pk 5))) (.cons (.ret (.bl false)) .nil) .nil) (.cons (.asg 11 (.callP 20 (.cons (.var .pk 1) (.cons (.wk .bor (.var .pk 4)) .nil)))) (.cons (.ite (.or (.nt (.callP 27 (.cons (.var .pk 11) .nil))) (.or (.cmp .NotEq (.var .pk 11) (.var .pk 5)) (.or (.cmp .NotEq (.callP 6 (.cons (.wk .bor (.lc true (.nm 9) (.seq (.var .pk 7)) .nil (.b1 .list_ (.var .pk 9)))) .nil)) (.var .pk 5)) (.cmp .Gt (.callP 24 (.cons (.var .pk 1) (.cons (.wk .bor (.var .pk 4)) .nil))) (.var .pk 11))))) (.cons (.ret (.bl false)) .nil) .nil) (.cons (.ite (.notN (.callP 5 (.cons (.var .pk 1) (.cons (.wk .bor (.var .pk 4)) (.cons (.wk .bor (.lc true (.nm 9) (.seq (.var .pk 7)) .nil (.b1 .list_ (.var .pk 9)))) (.cons (.wk .bor (.lc true (.nm 12) (.rng1 (.bin .Sub (.var .pk 1) (.int 1))) .nil (.var .sh 12))) .nil)))))) (.cons (.ret (.bl false)) .nil) .nil) (.cons (.ite (.cmp .Lt (.b1 .max_ (.bin .Add (.lst (.cons (.int 0) .nil)) (.callX 34 (.val (.var .sh 3) (.val (.callX 30 (.lend 0 (.val (.var .sh 1) .nil))) .nil))))) (.var .pk 5)) (.cons (.ret (.bl false)) .nil) .nil) (.cons (.ite (.cmp .Lt (.var .pk 1) (.int 6)) (.cons (.asg 13 (.wk .one (.lc true (.nm 14) (.seq (.callP 37 (.cons (.var .pk 1) .nil))) .nil (.tup (.cons (.b1 .max_ (.bin .Add (.lst (.cons (.int 0) .nil)) (.callP 34 (.cons (.wk .bor (.var .pk 3)) (.cons (.wk .bor (.var .pk 14)) .nil))))) (.cons (.var .sh 14) .nil)))))) (.cons (.ite (.or (.cmp .NotEq (.b1 .min_ (.lc true (.nm 15) (.seq (.var .pk 13)) .nil (.idx (.var .pk 15) (.int 0)))) (.var .pk 5)) (.cmp .NotEq (.idx (.lc true (.nm 15) (.seq (.var .pk 13)) (.some (.cmp .Eq (.sidx 15 (.int 0)) (.var .pk 5))) (.idx (.var .pk 15) (.int 1))) (.int 0)) (.var .pk 6))) (.cons (.ret (.bl false)) .nil) .nil) .nil)) .nil) (.cons (.ex (.tapp 8 0 (.un .USub (.int 1)))) (.cons (.ex (.tapp 8 1 (.lst .nil))) (.cons (.ret (.cmp .Eq (.callP 23 (.cons (.var .pk 1) (.cons (.wk .bor (.var .pk 4)) .nil))) (.tup (.cons (.var .sh 6) (.cons (.var .sh 7) .nil))))) .nil))))))))))))))))
def d40 : Df where
  nm := (Str.ofString "law")
  np := 1
  N := [(Str.ofString "script"), (Str.ofString "feed"), (Str.ofString "n"), (Str.ofString "turn"), (Str.ofString "star"), (Str.ofString "three")]
  lk := [0]
  body := (.cons (.asg 1 (.callP 25 (.cons (.var .pk 0) .nil))) (.cons (.asg 2 (.bin .Add (.int 1) (.callX 26 (.lend 1 (.val (.int 5) .nil))))) (.cons (.ite (.nt (.callX 39 (.lend 1 (.val (.var .sh 2) (.val (.callX 33 (.lend 1 (.val (.var .sh 2) .nil))) .nil))))) (.cons (.ret (.bl false)) .nil) .nil) (.cons (.asg 2 (.bin .Add (.int 4) (.callX 26 (.lend 1 (.val (.int 3) .nil))))) (.cons (.ite (.cmp .Eq (.callX 26 (.lend 1 (.val (.int 8) .nil))) (.int 0)) (.cons (.asg 2 (.bin .Add (.int 7) (.callX 26 (.lend 1 (.val (.int 2) .nil))))) .nil) .nil) (.cons (.ite (.nt (.callX 39 (.lend 1 (.val (.var .sh 2) (.val (.callX 33 (.lend 1 (.val (.var .sh 2) .nil))) .nil))))) (.cons (.ret (.bl false)) .nil) .nil) (.cons (.fr (.nm 3) (.rng1 (.int 2)) (.cons (.asg 2 (.callX 26 (.lend 1 (.val (.int 13) .nil)))) (.cons (.ite (.nt (.callX 35 (.val (.var .sh 2) (.val (.wk .sh (.callX 33 (.lend 1 (.val (.var .sh 2) .nil)))) (.val (.wk .sh (.callX 30 (.lend 1 (.val (.var .sh 2) .nil)))) .nil))))) (.cons (.ret (.bl false)) .nil) .nil) .nil))) (.cons (.asg 4 (.lst (.cons (.tup (.cons (.int 0) (.cons (.int 1) .nil))) (.cons (.tup (.cons (.int 0) (.cons (.int 2) .nil))) (.cons (.tup (.cons (.int 0) (.cons (.int 3) .nil))) .nil))))) (.cons (.ite (.or (.cmp .NotEq (.callP 23 (.cons (.int 1) (.cons (.wk .bor (.lst .nil)) .nil))) (.tup (.cons (.lst (.cons (.int 0) .nil)) (.cons (.lst (.cons (.lst (.cons (.int 0) .nil)) .nil)) .nil)))) (.or (.cmp .NotEq (.callP 20 (.cons (.int 4) (.cons (.wk .bor (.var .pk 4)) .nil))) (.int 1)) (.cmp .NotEq (.callP 23 (.cons (.int 4) (.cons (.wk .bor (.var .pk 4)) .nil))) (.tup (.cons (.lst (.cons (.int 0) (.cons (.int 1) (.cons (.int 2) (.cons (.int 3) .nil))))) (.cons (.lst (.cons (.lst (.cons (.int 0) .nil)) (.cons (.lst (.cons (.int 0) (.cons (.int 1) .nil))) (.cons (.lst (.cons (.int 0) (.cons (.int 2) .nil))) (.cons (.lst (.cons (.int 0) (.cons (.int 3) .nil))) .nil))))) .nil)))))) (.cons (.ret (.bl false)) .nil) .nil) (.cons (.ite (.or (.cmp .NotEq (.callP 18 (.cons (.int 0) (.cons (.wk .bor (.lst .nil)) (.cons (.wk .bor (.lst .nil)) .nil)))) (.lst .nil)) (.or (.cmp .NotEq (.callP 18 (.cons (.int 1) (.cons (.wk .bor (.lst .nil)) (.cons (.wk .bor (.lst (.cons (.int 0) .nil))) .nil)))) (.lst .nil)) (.cmp .NotEq (.callP 18 (.cons (.int 4) (.cons (.wk .bor (.var .pk 4)) (.cons (.wk .bor (.lst (.cons (.int 1) (.cons (.int 2) (.cons (.int 0) (.cons (.int 3) .nil)))))) .nil)))) (.lst (.cons (.int 1) (.cons (.int 2) (.cons (.int 1) .nil))))))) (.cons (.ret (.bl false)) .nil) .nil) (.cons (.asg 5 (.lst (.cons (.tup (.cons (.int 0) (.cons (.int 1) .nil))) (.cons (.tup (.cons (.int 0) (.cons (.int 3) .nil))) (.cons (.tup (.cons (.int 0) (.cons (.int 5) .nil))) (.cons (.tup (.cons (.int 1) (.cons (.int 2) .nil))) (.cons (.tup (.cons (.int 3) (.cons (.int 4) .nil))) (.cons (.tup (.cons (.int 5) (.cons (.int 6) .nil))) .nil)))))))) (.cons (.ret (.and (.cmp .Eq (.callP 20 (.cons (.int 7) (.cons (.wk .bor (.var .pk 5)) .nil))) (.int 2)) (.and (.cmp .Eq (.callP 20 (.cons (.int 4) (.cons (.wk .bor (.lst (.cons (.tup (.cons (.int 0) (.cons (.int 1) .nil))) (.cons (.tup (.cons (.int 0) (.cons (.int 3) .nil))) (.cons (.tup (.cons (.int 1) (.cons (.int 2) .nil))) (.cons (.tup (.cons (.int 2) (.cons (.int 3) .nil))) .nil)))))) .nil))) (.int 2)) (.cmp .Eq (.callP 20 (.cons (.int 3) (.cons (.wk .bor (.lst .nil)) .nil))) (.int 0))))) .nil))))))))))))
def T : Tbl := [d0, d1, d2, d3, d4, d5, d6, d7, d8, d9, d10, d11, d12, d13, d14, d15, d16, d17, d18, d19, d20, d21, d22, d23, d24, d25, d26, d27, d28, d29, d30, d31, d32, d33, d34, d35, d36, d37, d38, d39, d40]
def bl : List Str := [(Str.ofString "ValueError"), (Str.ofString "abs"), (Str.ofString "all"), (Str.ofString "any"), (Str.ofString "bool"), (Str.ofString "enumerate"), (Str.ofString "int"), (Str.ofString "isinstance"), (Str.ofString "len"), (Str.ofString "list"), (Str.ofString "max"), (Str.ofString "min"), (Str.ofString "range"), (Str.ofString "sorted"), (Str.ofString "tuple")]
def gl : List (Str × D) := [((Str.ofString "MOST_BAGS"), (.int 20))]
theorem gl_of {x : Str} {d : D} (e : gl.lookup x = some d) : (x = (Str.ofString "MOST_BAGS") ∧ d = (.int 20)) := by
  unfold gl at e
  rw [List.lookup_cons] at e
  split at e
  · rename_i h; have h := eq_of_beq h; cases e; exact ⟨h, rfl⟩
  cases e
theorem chk0 : ckSs (ckOf bl gl T d0) d0.body (defScope (top 4)) (defBody (top 4)) = true := by decide +kernel
theorem chk1 : ckSs (ckOf bl gl T d1) d1.body (defScope (top 7)) (defBody (top 7)) = true := by decide +kernel
theorem chk2 : ckSs (ckOf bl gl T d2) d2.body (defScope (top 8)) (defBody (top 8)) = true := by decide +kernel
theorem chk3 : ckSs (ckOf bl gl T d3) d3.body (defScope (top 9)) (defBody (top 9)) = true := by decide +kernel
theorem chk4 : ckSs (ckOf bl gl T d4) d4.body (defScope (top 10)) (defBody (top 10)) = true := by decide +kernel
theorem chk5 : ckSs (ckOf bl gl T d5) d5.body (defScope (top 11)) (defBody (top 11)) = true := by decide +kernel
theorem chk6 : ckSs (ckOf bl gl T d6) d6.body (defScope (top 12)) (defBody (top 12)) = true := by decide +kernel
theorem chk7 : ckSs (ckOf bl gl T d7) d7.body (defScope (top 13)) (defBody (top 13)) = true := by decide +kernel
theorem chk8 : ckSs (ckOf bl gl T d8) d8.body (defScope (top 15)) (defBody (top 15)) = true := by decide +kernel
theorem chk9 : ckSs (ckOf bl gl T d9) d9.body (defScope (top 16)) (defBody (top 16)) = true := by decide +kernel
theorem chk10 : ckSs (ckOf bl gl T d10) d10.body (defScope (top 17)) (defBody (top 17)) = true := by decide +kernel
theorem chk11 : ckSs (ckOf bl gl T d11) d11.body (defScope (top 19)) (defBody (top 19)) = true := by decide +kernel
theorem chk12 : ckSs (ckOf bl gl T d12) d12.body (defScope (top 20)) (defBody (top 20)) = true := by decide +kernel
theorem chk13 : ckSs (ckOf bl gl T d13) d13.body (defScope (top 21)) (defBody (top 21)) = true := by decide +kernel
theorem chk14 : ckSs (ckOf bl gl T d14) d14.body (defScope (top 22)) (defBody (top 22)) = true := by decide +kernel
theorem chk15 : ckSs (ckOf bl gl T d15) d15.body (defScope (top 23)) (defBody (top 23)) = true := by decide +kernel
theorem chk16 : ckSs (ckOf bl gl T d16) d16.body (defScope (top 24)) (defBody (top 24)) = true := by decide +kernel
theorem chk17 : ckSs (ckOf bl gl T d17) d17.body (defScope (top 26)) (defBody (top 26)) = true := by decide +kernel
theorem chk18 : ckSs (ckOf bl gl T d18) d18.body (defScope (top 27)) (defBody (top 27)) = true := by decide +kernel
theorem chk19 : ckSs (ckOf bl gl T d19) d19.body (defScope (top 28)) (defBody (top 28)) = true := by decide +kernel
theorem chk20 : ckSs (ckOf bl gl T d20) d20.body (defScope (top 29)) (defBody (top 29)) = true := by decide +kernel
theorem chk21 : ckSs (ckOf bl gl T d21) d21.body (defScope (top 30)) (defBody (top 30)) = true := by decide +kernel
theorem chk22 : ckSs (ckOf bl gl T d22) d22.body (defScope (top 31)) (defBody (top 31)) = true := by decide +kernel
theorem chk23 : ckSs (ckOf bl gl T d23) d23.body (defScope (top 32)) (defBody (top 32)) = true := by decide +kernel
theorem chk24 : ckSs (ckOf bl gl T d24) d24.body (defScope (top 34)) (defBody (top 34)) = true := by decide +kernel
theorem chk25 : ckSs (ckOf bl gl T d25) d25.body (defScope (top 36)) (defBody (top 36)) = true := by decide +kernel
theorem chk26 : ckSs (ckOf bl gl T d26) d26.body (defScope (top 37)) (defBody (top 37)) = true := by decide +kernel
theorem chk27 : ckSs (ckOf bl gl T d27) d27.body (defScope (top 38)) (defBody (top 38)) = true := by decide +kernel
theorem chk28 : ckSs (ckOf bl gl T d28) d28.body (defScope (top 39)) (defBody (top 39)) = true := by decide +kernel
theorem chk29 : ckSs (ckOf bl gl T d29) d29.body (defScope (top 40)) (defBody (top 40)) = true := by decide +kernel
theorem chk30 : ckSs (ckOf bl gl T d30) d30.body (defScope (top 41)) (defBody (top 41)) = true := by decide +kernel
theorem chk31 : ckSs (ckOf bl gl T d31) d31.body (defScope (top 42)) (defBody (top 42)) = true := by decide +kernel
theorem chk32 : ckSs (ckOf bl gl T d32) d32.body (defScope (top 43)) (defBody (top 43)) = true := by decide +kernel
theorem chk33 : ckSs (ckOf bl gl T d33) d33.body (defScope (top 44)) (defBody (top 44)) = true := by decide +kernel
theorem chk34 : ckSs (ckOf bl gl T d34) d34.body (defScope (top 45)) (defBody (top 45)) = true := by decide +kernel
theorem chk35 : ckSs (ckOf bl gl T d35) d35.body (defScope (top 46)) (defBody (top 46)) = true := by decide +kernel
theorem chk36 : ckSs (ckOf bl gl T d36) d36.body (defScope (top 47)) (defBody (top 47)) = true := by decide +kernel
theorem chk37 : ckSs (ckOf bl gl T d37) d37.body (defScope (top 48)) (defBody (top 48)) = true := by decide +kernel
theorem chk38 : ckSs (ckOf bl gl T d38) d38.body (defScope (top 49)) (defBody (top 49)) = true := by decide +kernel
theorem chk39 : ckSs (ckOf bl gl T d39) d39.body (defScope (top 50)) (defBody (top 50)) = true := by decide +kernel
theorem chk40 : ckSs (ckOf bl gl T d40) d40.body (defScope (top 51)) (defBody (top 51)) = true := by decide +kernel
end K49
namespace K49
open PySem PySem.Spec PyProof.Rows L2 VH

theorem getD_mem {o : List Int} {i : Nat} (h : i < o.length) : o.getD i 0 = o[i] := by rw [List.getD_eq_getElem?_getD, List.getElem?_eq_getElem h]; rfl
theorem ups_getD {n i : Nat} (h : i < n) : (ups (n : Int)).getD i 0 = i := by
  unfold ups
  rw [List.getD_eq_getElem?_getD, List.getElem?_map, List.getElem?_range (by omega)]; rfl
theorem range_pick {n j : Nat} (h : j < n) : ((List.range n).filter fun i => decide (i = j)).length = 1 := by
  have : ((List.range n).filter fun i => decide (i = j)).Perm [j] := perm_of (List.Pairwise.filter _ List.nodup_range) (by simp) fun x => by
    rw [List.mem_filter, List.mem_range, decide_eq_true_eq, List.mem_singleton]
    exact ⟨fun h => h.2, fun e => ⟨by omega, e⟩⟩
  exact this.length_eq
section
variable {n : Nat} {ties : List (Int × Int)} {o : List Int}
theorem at_inj {o : List Int} (hd : o.Nodup) {i j : Nat} (hi : i < o.length) (hj : j < o.length) (e : o[i] = o[j]) : i = j := by
  rcases Nat.lt_trichotomy i j with h | h | h
  · exact absurd e (List.pairwise_iff_getElem.mp hd i j hi hj h)
  · exact h
  · exact absurd e.symm (List.pairwise_iff_getElem.mp hd j i hj hi h)
theorem mem_take_iff (hd : o.Nodup) {i j : Nat} (hj : j < o.length) : o[j] ∈ o.take i ↔ j < i := by
  constructor
  · intro h
    obtain ⟨k, hk, e⟩ := List.mem_iff_getElem.mp h
    rw [List.getElem_take] at e
    rw [List.length_take] at hk
    have := at_inj hd (by omega) hj e
    omega
  · intro h
    exact List.mem_iff_getElem.mpr ⟨j, by rw [List.length_take]; omega, List.getElem_take⟩
theorem mem_drop_iff (hd : o.Nodup) {i j : Nat} (hj : j < o.length) : o[j] ∈ o.drop i ↔ i ≤ j := by
  have hs : (o.take i ++ o.drop i).Nodup := by rw [List.take_append_drop]; exact hd
  have hm : o[j] ∈ o.take i ∨ o[j] ∈ o.drop i := List.mem_append.mp (by rw [List.take_append_drop]; exact List.getElem_mem hj)
  constructor
  · intro h
    have : ¬ o[j] ∈ o.take i := fun z => (List.nodup_append.mp hs).2.2 _ z _ h rfl
    rw [mem_take_iff hd hj] at this; omega
  · intro h
    rcases hm with z | z
    · rw [mem_take_iff hd hj] at z; omega
    · exact z
theorem mem_bag {i : Nat} {p : Int} : p ∈ bagL n ties o i ↔ (p ∈ o.take i ∧ inB n ties o i p = true) ∨ p = o.getD i 0 := by
  unfold bagL
  rw [mem_srtI, List.mem_append, List.mem_filter, List.mem_singleton]
theorem inB_iff {i : Nat} {p : Int} : inB n ties o i p = true ↔ ∃ q, ((0 ≤ q ∧ q < (n : Int)) ∧ joined ties p q = true) ∧ q ∈ o.drop i := by
  unfold inB
  rw [List.any_eq_true]
  exact ⟨fun ⟨q, a, b⟩ => ⟨q, mem_nb.mp a, of_decide_eq_true b⟩, fun ⟨q, a, b⟩ => ⟨q, mem_nb.mpr a, decide_eq_true b⟩⟩
theorem inB_less {i i' : Nat} (h : i' ≤ i) {p : Int} (w : inB n ties o i p = true) : inB n ties o i' p = true := by
  rw [inB_iff] at w ⊢
  obtain ⟨q, a, b⟩ := w
  exact ⟨q, a, List.drop_subset_drop_left o h b⟩
theorem bags_getD {i : Nat} (h : i < n) : (bagsL n ties o).getD i default = bagL n ties o i := by
  unfold bagsL
  rw [List.getD_eq_getElem?_getD, List.getElem?_map, List.getElem?_range h]; rfl
theorem bags_len : (bagsL n ties o).length = n := by unfold bagsL; rw [List.length_map, List.length_range]
theorem in_bag (ho : Pre n o) (hl : o.length = n) {i j : Nat} (hi : i < n) (hj : j < n) : o[j]'(by omega) ∈ bagL n ties o i ↔ i = j ∨ (j < i ∧ inB n ties o i (o[j]'(by omega)) = true) := by
  rw [mem_bag, mem_take_iff ho.1, getD_mem (by omega)]
  have : o[j]'(by omega) = o[i]'(by omega) ↔ i = j := by
    constructor
    · intro e
      exact (at_inj ho.1 (by omega) (by omega) e).symm
    · intro e; subst e; rfl
  rw [this, or_comm]
theorem bag_sorted (ho : Pre n o) (hl : o.length = n) {i : Nat} (hi : i < n) : (bagL n ties o i).Pairwise (· < ·) ∧ ∀ p ∈ bagL n ties o i, 0 ≤ p ∧ p < (n : Int) := by
  have hnd : ((o.take i).filter (inB n ties o i) ++ [o.getD i 0]).Nodup := by
    refine List.nodup_append.mpr ⟨List.Pairwise.filter _ (List.Nodup.sublist (List.take_sublist _ _) ho.1), by simp, fun a ha b hb e => ?_⟩
    simp only [List.mem_singleton] at hb
    have := (List.mem_filter.mp ha).1
    rw [e, hb, getD_mem (by omega), mem_take_iff ho.1] at this
    omega
  have h1 := srtI_pw ((o.take i).filter (inB n ties o i) ++ [o.getD i 0])
  have h2 := (srtI_perm ((o.take i).filter (inB n ties o i) ++ [o.getD i 0])).nodup_iff.mpr hnd
  refine ⟨(List.Pairwise.and h1 h2).imp fun ⟨a, b⟩ => by omega, fun p hp => ?_⟩
  rcases mem_bag.mp hp with ⟨h, _⟩ | h
  · exact ho.2 p (List.mem_of_mem_take h)
  · rw [h, getD_mem (by omega)]; exact ho.2 _ (List.getElem_mem _)
theorem at_pos (ho : Pre n o) (hl : o.length = n) {p : Int} (h0 : 0 ≤ p) (h1 : p < n) : ∃ j, ∃ hj : j < o.length, o[j] = p := by
  have : p ∈ o := (ho.perm hl).mem_iff.mpr (mem_ups.mpr ⟨h0, h1⟩)
  obtain ⟨j, hj, e⟩ := List.mem_iff_getElem.mp this
  exact ⟨j, hj, e⟩
theorem row_tell (hg : GoodT n ties) (hn1 : 1 ≤ n) (hn : n ≤ 20) (ho : Pre n o) (hl : o.length = n) : TellOk n ties (bagsL n ties o) (ups ((n : Int) - 1)) := by
  have eu : ups ((n : Int) - 1) = ups ((n - 1 : Nat) : Int) := by congr 1; omega
  have pickN : ∀ {i j : Nat}, i < n → j < n → (hjo : j < o.length) → topB (bagsL n ties o) (ups ((n - 1 : Nat) : Int)) o[j] i = decide (i = j) := fun {i j} hi hj hjo => by
    unfold topB
    rw [bags_getD hi]
    have hm := in_bag (ties := ties) ho hl hi hj
    by_cases e : i = j
    · subst e
      rw [decide_eq_true (hm.mpr (.inl rfl)), decide_eq_true rfl, Bool.true_and]
      by_cases hz : i = 0
      · rw [decide_eq_true hz, Bool.true_or]
      · rw [ups_getD (by omega), show (((i - 1 : Nat) : Int)).toNat = i - 1 by omega, bags_getD (by omega)]
        have := in_bag (ties := ties) ho hl (i := i - 1) (by omega) hj
        have hno : ¬ o[i] ∈ bagL n ties o (i - 1) := fun z => by have := this.mp z; omega
        rw [decide_eq_false hno]
        simp
    · rw [decide_eq_false e]
      by_cases hin : o[j] ∈ bagL n ties o i
      · rcases hm.mp hin with h | ⟨h1, h2⟩
        · exact absurd h e
        · rw [decide_eq_true hin, Bool.true_and, decide_eq_false (by omega), Bool.false_or, ups_getD (by omega), show (((i - 1 : Nat) : Int)).toNat = i - 1 by omega, bags_getD (by omega)]
          have := (in_bag (ties := ties) ho hl (i := i - 1) (by omega) hj).mpr (by
            by_cases h3 : i - 1 = j
            · exact .inl h3
            · exact .inr ⟨by omega, inB_less (by omega) h2⟩)
          rw [decide_eq_true this]; rfl
      · rw [decide_eq_false hin, Bool.false_and]
  rw [eu]
  refine ⟨by rw [bags_len]; exact hn1, by rw [bags_len]; exact hn, fun b hb => ?_, by rw [ups_len, bags_len]; omega, fun i hi => ?_, fun p p0 p1 => ?_, fun t ht => ?_⟩
  · unfold bagsL at hb
    obtain ⟨i, hi, rfl⟩ := List.mem_map.mp hb
    exact bag_sorted ho hl (List.mem_range.mp hi)
  · rw [ups_len] at hi
    rw [ups_getD (by omega)]; omega
  · obtain ⟨j, hj, rfl⟩ := at_pos ho hl p0 p1
    rw [bags_len, List.filter_congr fun i hi => pickN (List.mem_range.mp hi) (by omega) hj]
    exact range_pick (by omega)
  · obtain ⟨t0, t1, t2⟩ := hg.1 t ht
    obtain ⟨a, ha, ea⟩ := at_pos ho hl t0 (by omega)
    obtain ⟨b, hb, eb⟩ := at_pos ho hl (p := t.2) (by omega) t2
    have hne : a ≠ b := fun e => by subst e; omega
    have mem : ∀ i, i < n → bagL n ties o i ∈ bagsL n ties o := fun i hi => List.mem_map.mpr ⟨i, List.mem_range.mpr hi, rfl⟩
    have jt : joined ties t.1 t.2 = true := (joined_iff hg).mpr (.inl ht)
    rcases Nat.lt_or_gt_of_ne hne with h | h
    · refine ⟨_, mem b (by omega), ?_, ?_⟩
      · rw [← ea]
        refine (in_bag ho hl (by omega) (by omega)).mpr (.inr ⟨h, inB_iff.mpr ⟨t.2, ⟨⟨by omega, t2⟩, by rw [ea]; exact jt⟩, ?_⟩⟩)
        rw [← eb]
        exact (mem_drop_iff ho.1 hb).mpr (Nat.le_refl _)
      · rw [← eb]
        exact (in_bag ho hl (by omega) (by omega)).mpr (.inl rfl)
    · refine ⟨_, mem a (by omega), ?_, ?_⟩
      · rw [← ea]
        exact (in_bag ho hl (by omega) (by omega)).mpr (.inl rfl)
      · rw [← eb]
        refine (in_bag ho hl (by omega) (by omega)).mpr (.inr ⟨h, inB_iff.mpr ⟨t.1, ⟨⟨t0, by omega⟩, by rw [eb, joined_symm]; exact jt⟩, ?_⟩⟩)
        rw [← ea]
        exact (mem_drop_iff ho.1 ha).mpr (Nat.le_refl _)
/-- how many of a bag are ahead -/
theorem ahead_len (ho : Pre n o) (hl : o.length = n) {i : Nat} : (((o.take i).filter (inB n ties o i)).length : Int) = jb n ties (o.take i) := by
  unfold jb
  congr 1
  refine (perm_of (List.Pairwise.filter _ (List.Nodup.sublist (List.take_sublist _ _) ho.1)) (List.Pairwise.filter _ (ups_nodup n)) fun p => ?_).length_eq
  rw [List.mem_filter, List.mem_filter, inB_iff, mem_ups, Bool.and_eq_true, decide_eq_true_eq, Bool.not_eq_true', List.all_eq_false]
  constructor
  · rintro ⟨h1, q, ⟨hq, hj⟩, hd⟩
    refine ⟨ho.2 p (List.mem_of_mem_take h1), h1, q, mem_ups.mpr hq, ?_⟩
    obtain ⟨j, hjo, e⟩ := at_pos ho hl hq.1 hq.2
    subst e
    rw [mem_drop_iff ho.1 hjo] at hd
    rw [hj, decide_eq_false (fun z => by rw [mem_take_iff ho.1 hjo] at z; omega)]
    decide
  · rintro ⟨_, h1, q, hq, hn⟩
    have hq := mem_ups.mp hq
    obtain ⟨j, hjo, e⟩ := at_pos ho hl hq.1 hq.2
    rw [Bool.not_eq_true, Bool.or_eq_false_iff, Bool.not_eq_false', decide_eq_false_iff_not] at hn
    refine ⟨h1, q, ⟨hq, hn.1⟩, ?_⟩
    subst e
    rw [mem_take_iff ho.1 hjo] at hn
    rw [mem_drop_iff ho.1 hjo]; omega
end
end K49
namespace K49
open PySem PySem.Spec PyProof.Rows L2 VH

theorem val_take {f : List Int → Int} : ∀ (r l : List Int), valL max f l r = ((List.range r.length).map fun i => f (l ++ r.take (i + 1))).foldr max 0
  | [], _ => rfl
  | p :: r, l => by
    show max (f (l ++ [p])) (valL max f (l ++ [p]) r) = _
    rw [val_take r (l ++ [p]), List.length_cons, List.range_succ_eq_map, List.map_cons, List.map_map, List.foldr_cons]
    congr 2
    refine List.map_congr_left fun i _ => ?_
    show f (l ++ [p] ++ r.take (i + 1)) = f (l ++ (p :: r).take (i + 1 + 1))
    rw [List.take_succ_cons, List.append_assoc]; rfl
theorem foldr_ge : ∀ {xs : List Int} {x : Int}, x ∈ xs → x ≤ xs.foldr max 0
  | y :: ys, x, h => by
    rw [List.foldr_cons]
    rcases List.mem_cons.mp h with rfl | h
    · omega
    · have := foldr_ge h; omega
theorem foldr_le {m : Int} (h0 : 0 ≤ m) : ∀ {xs : List Int}, (∀ x ∈ xs, x ≤ m) → xs.foldr max 0 ≤ m
  | [], _ => h0
  | y :: ys, h => by
    rw [List.foldr_cons]
    have h1 := h y List.mem_cons_self
    have h2 := foldr_le h0 fun x hx => h x (List.mem_cons_of_mem _ hx)
    omega
theorem foldr_nonneg : ∀ xs : List Int, 0 ≤ xs.foldr max 0
  | [] => Int.le_refl _
  | y :: ys => by rw [List.foldr_cons]; have := foldr_nonneg ys; omega
section
variable {n : Nat} {ties : List (Int × Int)} {o : List Int}
/-- the greatest cut of an order -/
def WR (n : Nat) (ties : List (Int × Int)) (o : List Int) : Int := valL max (rowf n ties) [] o
theorem row_val (hl : o.length = n) : WR n ties o = ((List.range n).map fun i => jb n ties (o.take i)).foldr max 0 := by
  unfold WR
  rw [val_take, hl]
  congr 1
  refine List.map_congr_left fun i hi => ?_
  have hi := List.mem_range.mp hi
  unfold rowf
  rw [List.nil_append, List.dropLast_eq_take, List.length_take, List.take_take, hl]
  congr 2; omega
theorem row_max (hl : o.length = n) (hn : 1 ≤ n) : WR n ties o = maxI ((List.range n).map fun i => jb n ties (o.take i)) := by
  rw [row_val hl, foldr_max _ fun x hx => by obtain ⟨i, _, rfl⟩ := List.mem_map.mp hx; exact jb_nonneg _ _ _, if_neg]
  intro e
  have := congrArg List.length e
  rw [List.length_map, List.length_range] at this
  simp at this; omega
theorem maxI_succ {xs : List Int} (h : xs ≠ []) : maxI (xs.map (· + 1)) = maxI xs + 1 := by
  refine (maxI_eq (List.mem_map.mpr ⟨_, maxI_mem h, rfl⟩) fun y hy => ?_).symm
  obtain ⟨x, hx, rfl⟩ := List.mem_map.mp hy
  have := maxI_ge hx; omega
theorem bags_width (ho : Pre n o) (hl : o.length = n) (hn : 1 ≤ n) : maxI ((bagsL n ties o).map fun b => (b.length : Int)) - 1 = WR n ties o := by
  have e : (bagsL n ties o).map (fun b => (b.length : Int)) = ((List.range n).map fun i => jb n ties (o.take i)).map (· + 1) := by
    unfold bagsL
    rw [List.map_map, List.map_map]
    refine List.map_congr_left fun i hi => ?_
    show ((bagL n ties o i).length : Int) = jb n ties (o.take i) + 1
    unfold bagL
    rw [len_srtI, List.length_append, List.length_singleton, ← ahead_len ho hl]; rfl
  rw [e, maxI_succ, row_max hl hn]
  · omega
  · intro e
    have := congrArg List.length e
    rw [List.length_map, List.length_range] at this
    simp at this; omega
theorem jb_nil : jb n ties [] = 0 := by unfold jb behindL; simp
theorem cuts_max (hl : o.length = n) (hn : 1 ≤ n) : maxI ([0] ++ cutsL n ties o (n - 1)) = WR n ties o := by
  rw [row_max hl hn]
  congr 1
  obtain ⟨m, rfl⟩ : ∃ m, n = m + 1 := ⟨n - 1, by omega⟩
  rw [List.range_succ_eq_map, List.map_cons, List.take_zero, jb_nil, List.map_map]
  rfl
theorem wid_row (ho : Pre n o) (hl : o.length = n) : widL n (joined ties) o.reverse ≤ WR n ties o := by
  unfold widL
  rw [val_take, row_val hl]
  refine foldr_le (foldr_nonneg _) fun x hx => ?_
  obtain ⟨i, hi, rfl⟩ := List.mem_map.mp hx
  have hi := List.mem_range.mp hi
  rw [List.length_reverse, hl] at hi
  have hm : n - 1 - i < o.length := by omega
  have e : o.reverse.take (i + 1) = o.reverse.take i ++ [o[n - 1 - i]] := by
    rw [List.take_succ, List.getElem?_reverse (by omega), hl, List.getElem?_eq_getElem hm]; rfl
  rw [List.nil_append, e, jw_push]
  have el : ∀ r, r ∈ o.reverse.take i ↔ r ∈ o.drop (n - 1 - i + 1) := fun r => by
    rw [List.take_reverse, List.mem_reverse, show o.length - i = n - 1 - i + 1 by omega]
  refine Int.le_trans (b := jb n ties (o.take (n - 1 - i))) ?_ (foldr_ge (List.mem_map.mpr ⟨n - 1 - i, List.mem_range.mpr (by omega), rfl⟩))
  unfold jb
  refine Int.ofNat_le.mpr (List.Nodup.length_le_of_subset leftL_nodup fun q hq => ?_)
  obtain ⟨hr, hq1, hq2, hq3⟩ := leftL_mem.mp hq
  obtain ⟨j, hj, rfl⟩ := at_pos ho hl hr.1 hr.2
  rw [el, mem_drop_iff ho.1 hj] at hq1
  have hjm : j ≠ n - 1 - i := fun z => by subst z; exact hq2 rfl
  obtain ⟨r, hr2, hA⟩ := hq3.last
  have hrd : r ∈ o.drop (n - 1 - i) := by
    rcases hr2 with rfl | hr2
    · exact (mem_drop_iff ho.1 hm).mpr (Nat.le_refl _)
    · rw [el] at hr2
      exact List.drop_subset_drop_left o (by omega) hr2
  unfold behindL
  rw [List.mem_filter, mem_ups, Bool.and_eq_true, decide_eq_true_eq, Bool.not_eq_true', List.all_eq_false]
  refine ⟨hr, (mem_take_iff ho.1 hj).mpr (by omega), r, mem_ups.mpr (ho.2 r (List.mem_of_mem_drop hrd)), ?_⟩
  have hnt : r ∉ o.take (n - 1 - i) := fun z => by
    have hs : (o.take (n - 1 - i) ++ o.drop (n - 1 - i)).Nodup := by rw [List.take_append_drop]; exact ho.1
    exact (List.nodup_append.mp hs).2.2 _ z _ hrd rfl
  rw [joined_symm, hA, decide_eq_false hnt]
  decide
theorem width_row {o' : List Int} (ho : Pre n o) (hl : o.length = n) (h : LeastO n (joined ties) o') : widL n (joined ties) o' ≤ WR n ties o := by
  have hp : Pre n o.reverse := ⟨(List.reverse_perm o).nodup_iff.mpr ho.1, fun p hp => ho.2 p (List.mem_reverse.mp hp)⟩
  exact Int.le_trans (h.2.2 o.reverse hp (by rw [List.length_reverse]; exact hl)).1 (wid_row ho hl)
/-- two first least orders are one -/
theorem least_one {f : List Int → Int} {a b : List Int} (ha : LeastF n f a) (hb : LeastF n f b) : a = b := by
  have h1 := (ha.2.2 b hb.1 hb.2.1).1
  have h2 := (hb.2.2 a ha.1 ha.2.1).1
  by_cases h : a < b
  · exact absurd (by omega) ((hb.2.2 a ha.1 ha.2.1).2 h)
  · by_cases h' : b < a
    · exact absurd (by omega) ((ha.2.2 b hb.1 hb.2.1).2 h')
    · exact List.le_antisymm h' h
theorem least_dec {f : List Int → Int} {a : List Int} (h : (decide (a ∈ ordersO n n) && (ordersO n n).all fun b => decide (valL max f [] a ≤ valL max f [] b) && (!decide (b < a) || decide (valL max f [] b ≠ valL max f [] a))) = true) : LeastF n f a := by
  rw [Bool.and_eq_true, decide_eq_true_eq, List.all_eq_true] at h
  obtain ⟨h1, h2⟩ := ordersO_mem.mp h.1
  refine ⟨h1, h2, fun b hb hl => ?_⟩
  have := h.2 b (ordersO_mem.mpr ⟨hb, hl⟩)
  rw [Bool.and_eq_true, decide_eq_true_eq, Bool.or_eq_true, Bool.not_eq_true', decide_eq_false_iff_not, decide_eq_true_eq] at this
  exact ⟨this.1, fun hlt => this.2.elim (fun z => absurd hlt z) id⟩
end
end K49
namespace K49
open PySem PySem.Spec PyProof.Rows L2 VH
local macro_rules | `(tactic| trivial) => `(tactic| first
  | exact rfl
  | refine ⟨⟨_, rfl⟩, ?_⟩
  | refine ⟨⟨_, _, rfl⟩, ?_⟩
  | refine ⟨_, _, rfl, ?_⟩
  | refine ⟨_, rfl, ?_⟩
  | refine ⟨_, _, _, _, _, rfl, rfl, rfl, rfl, ?_⟩
  | refine ⟨_, _, _, _, rfl, rfl, .inr rfl, rfl, ?_⟩
  | refine ⟨_, _, _, _, rfl, rfl, .inl rfl, rfl, ?_⟩
  | refine ⟨_, _, _, rfl, rfl, .inr rfl, rfl, ?_⟩
  | refine ⟨_, _, _, rfl, rfl, .inl rfl, rfl, ?_⟩
  | refine ⟨.inr ⟨by decide, by decide⟩, ?_⟩
  | refine ⟨by decide, by decide, ?_⟩
  | refine ⟨by decide, ?_⟩
  | refine ⟨Nat.le_of_ble_eq_true rfl, ?_⟩
  | refine ⟨List.nodup_nil, _, rfl, ?_⟩
  | refine ⟨nodup1 _, _, rfl, ?_⟩
  | refine ⟨nodup2 (by decide), _, rfl, ?_⟩
  | refine ⟨rfl, ?_⟩)

theorem range_pre {m i : Nat} {pre post : List Nat} (h : List.range m = pre ++ i :: post) : i = pre.length ∧ pre.length < m := by
  have hl : pre.length < m := by
    have := congrArg List.length h
    rw [List.length_range, List.length_append, List.length_cons] at this
    omega
  have h2 := congrArg (fun l => l[pre.length]?) h
  rw [List.getElem?_range hl, List.getElem?_append_right (Nat.le_refl _), Nat.sub_self] at h2
  simp at h2
  exact ⟨h2.symm, hl⟩
theorem pos_any {α : Type} (f : α → Bool) (xs : List α) : decide ((0 : Int) < ((xs.filter f).length : Nat)) = xs.any f := by
  rw [Bool.eq_iff_iff, decide_eq_true_eq, List.any_eq_true]
  constructor
  · intro h
    have hne : xs.filter f ≠ [] := fun e => by rw [e] at h; simp at h
    obtain ⟨x, hx⟩ := List.exists_mem_of_ne_nil _ hne
    exact ⟨x, (List.mem_filter.mp hx).1, (List.mem_filter.mp hx).2⟩
  · rintro ⟨x, hx, hf⟩
    have := List.length_pos_of_mem (List.mem_filter.mpr ⟨hx, hf⟩)
    omega
section
variable {k : Nat} {Q : Ow → D → List (Option (Ow × D)) → Prop}
theorem lcutsB {n : Nat} {ties : List (Int × Int)} {o : List Int} (hn : n ≤ 20) (ho : Pre n o) (hl : o.length = n) (q : ∀ outs, Q .all (lD (cutsL n ties o (n - 1))) outs) : cal T (k + 1) 34 [(.bor, nearD n ties), (.bor, lD o)] Q := by
  have hC := cal_mono T k
  refine cal_of d34 rfl rfl ?_
  refine r_asg ?_
  trivial
  trivial
  trivial
  refine ⟨_, rfl, ?_⟩
  trivial
  refine s1_len ?_
  refine ⟨_, rfl, ?_⟩
  have hsz : sizeLine = 16777216 := sizeLine_eq
  rw [hl]
  refine ⟨⟨by omega, by omega, by omega, by omega⟩, ⟨Ow.noConfusion, Ow.noConfusion⟩, ?_⟩
  rw [show ((n : Int) - 1).toNat = n - 1 by omega, show ((List.range (n - 1)).map fun k => D.int (1 + Int.ofNat k)) = (List.range (n - 1)).map fun i : Nat => D.int (1 + Int.ofNat i) from rfl]
  refine fr_pre hC (ea := fun i : Nat => D.int (1 + Int.ofNat i)) (fun pre ρ => ∃ v3 v4 v5 v6, ρ = [some (.bor, nearD n ties), some (.bor, lD o), some (.all, lD (cutsL n ties o pre.length)), v3, v4, v5, v6])
    ⟨none, none, none, none, rfl⟩ ?_ ?_
  · rintro pre i post ρ hx ⟨v3, v4, v5, v6, rfl⟩
    obtain ⟨rfl, hi⟩ := range_pre hx
    have e1 : (1 : Int) + Int.ofNat pre.length = ((pre.length + 1 : Nat) : Int) := by simp; omega
    rw [e1]
    have hil : pre.length + 1 < n := by omega
    have hcl : (cutsL n ties o pre.length).length = pre.length := by unfold cutsL; rw [List.length_map, List.length_range]
    have e2 : cutsL n ties o (pre.length + 1) = cutsL n ties o pre.length ++ [jb n ties (o.take (pre.length + 1))] := by
      unfold cutsL; rw [List.range_succ, List.map_append]; rfl
    have hal := ahead_len (ties := ties) ho hl (i := pre.length + 1)
    refine ⟨_, rfl, ?_⟩
    refine r_asg ?_
    repeat trivial
    refine ⟨_, kidsO_solid (solid_ints _), ?_⟩
    rw [slc_from D.int o (pre.length + 1) rfl (by omega)]
    refine ⟨_, rfl, ?_⟩
    refine r_ex ?_
    refine ⟨⟨_, _, rfl⟩, ?_⟩
    refine e_b1 (lc_pure ?_ hC)
    repeat trivial
    refine ⟨_, kidsO_solid (solid_ints _), ?_⟩
    rw [slc_to D.int o (pre.length + 1) rfl]
    refine ⟨by rw [List.length_map, List.length_take]; omega, ?_⟩
    refine lc_filter hC (ea := D.int) (o.take (pre.length + 1)) (inB n ties o (pre.length + 1)) (fun p hp => ⟨_, rfl, ?_⟩) ?_
    · have hr := ho.2 p (List.mem_of_mem_take hp)
      have a1 := ups_at (f := fun p => lD (nb n ties p)) hr.1 hr.2
      have hlb := nb_len n ties p
      refine e_cmp (e_b1 (lc_pure ?_ hC))
      repeat trivial
      refine ⟨_, a1, ?_⟩
      refine ⟨by rw [List.length_map]; omega, ?_⟩
      refine lc_filter hC (ea := D.int) (nb n ties p) (fun q => decide (q ∈ o.drop (pre.length + 1))) (fun r hr => ⟨_, rfl, ?_⟩) ?_
      · refine ⟨_, _, rfl, ⟨_, _, rfl, ⟨rfl, plainL _, ?_⟩⟩⟩
        rw [any_encI]
        refine ⟨rfl, fun _ => ?_⟩
        repeat trivial
      · refine s1_len ?_
        refine wp2_free rfl ?_
        refine ⟨?_, fun _ => ?_⟩
        · show some (decide ((0 : Int) < _)) = _
          rw [pos_any]; rfl
        · repeat trivial
    refine s1_len ?_
    rw [hal]
    refine ⟨_, _, _, rfl, rfl, .inr rfl, by rw [List.length_map, hcl]; omega, ?_⟩
    rw [lD_snoc, ← e2]
    exact ⟨_, _, _, _, by rw [List.length_append]; rfl⟩
  · rintro ρ ⟨v3, v4, v5, v6, rfl⟩
    repeat trivial
    rw [List.length_range]
    exact q _
theorem lcutsX {n : Nat} {ties : List (Int × Int)} {o : List Int} (hn : n ≤ 20) (ho : Pre n o) (hl : o.length = n) (q : Q .all (lD (cutsL n ties o (n - 1))) [some (.sh, nearD n ties), some (.all, lD o)]) : cal T (k + 1) 34 [(.sh, nearD n ties), (.all, lD o)] Q := by
  have hC := cal_mono T k
  refine cal_of d34 rfl rfl ?_
  refine r_asg ?_
  trivial
  trivial
  trivial
  refine ⟨_, rfl, ?_⟩
  trivial
  refine s1_len ?_
  refine ⟨_, rfl, ?_⟩
  have hsz : sizeLine = 16777216 := sizeLine_eq
  rw [hl]
  refine ⟨⟨by omega, by omega, by omega, by omega⟩, ⟨Ow.noConfusion, Ow.noConfusion⟩, ?_⟩
  rw [show ((n : Int) - 1).toNat = n - 1 by omega, show ((List.range (n - 1)).map fun k => D.int (1 + Int.ofNat k)) = (List.range (n - 1)).map fun i : Nat => D.int (1 + Int.ofNat i) from rfl]
  refine fr_pre hC (ea := fun i : Nat => D.int (1 + Int.ofNat i)) (fun pre ρ => ∃ v3 v4 v5 v6, ρ = [some (.sh, nearD n ties), some (.all, lD o), some (.all, lD (cutsL n ties o pre.length)), v3, v4, v5, v6])
    ⟨none, none, none, none, rfl⟩ ?_ ?_
  · rintro pre i post ρ hx ⟨v3, v4, v5, v6, rfl⟩
    obtain ⟨rfl, hi⟩ := range_pre hx
    have e1 : (1 : Int) + Int.ofNat pre.length = ((pre.length + 1 : Nat) : Int) := by simp; omega
    rw [e1]
    have hil : pre.length + 1 < n := by omega
    have hcl : (cutsL n ties o pre.length).length = pre.length := by unfold cutsL; rw [List.length_map, List.length_range]
    have e2 : cutsL n ties o (pre.length + 1) = cutsL n ties o pre.length ++ [jb n ties (o.take (pre.length + 1))] := by
      unfold cutsL; rw [List.range_succ, List.map_append]; rfl
    have hal := ahead_len (ties := ties) ho hl (i := pre.length + 1)
    refine ⟨_, rfl, ?_⟩
    refine r_asg ?_
    repeat trivial
    refine ⟨_, kidsO_solid (solid_ints _), ?_⟩
    rw [slc_from D.int o (pre.length + 1) rfl (by omega)]
    refine ⟨_, rfl, ?_⟩
    refine r_ex ?_
    refine ⟨⟨_, _, rfl⟩, ?_⟩
    refine e_b1 (lc_pure ?_ hC)
    repeat trivial
    refine ⟨_, kidsO_solid (solid_ints _), ?_⟩
    rw [slc_to D.int o (pre.length + 1) rfl]
    refine ⟨by rw [List.length_map, List.length_take]; omega, ?_⟩
    refine lc_filter hC (ea := D.int) (o.take (pre.length + 1)) (inB n ties o (pre.length + 1)) (fun p hp => ⟨_, rfl, ?_⟩) ?_
    · have hr := ho.2 p (List.mem_of_mem_take hp)
      have a1 := ups_at (f := fun p => lD (nb n ties p)) hr.1 hr.2
      have hlb := nb_len n ties p
      refine e_cmp (e_b1 (lc_pure ?_ hC))
      repeat trivial
      refine ⟨_, a1, ?_⟩
      refine ⟨by rw [List.length_map]; omega, ?_⟩
      refine lc_filter hC (ea := D.int) (nb n ties p) (fun q => decide (q ∈ o.drop (pre.length + 1))) (fun r hr => ⟨_, rfl, ?_⟩) ?_
      · refine ⟨_, _, rfl, ⟨_, _, rfl, ⟨rfl, plainL _, ?_⟩⟩⟩
        rw [any_encI]
        refine ⟨rfl, fun _ => ?_⟩
        repeat trivial
      · refine s1_len ?_
        refine wp2_free rfl ?_
        refine ⟨?_, fun _ => ?_⟩
        · show some (decide ((0 : Int) < _)) = _
          rw [pos_any]; rfl
        · repeat trivial
    refine s1_len ?_
    rw [hal]
    refine ⟨_, _, _, rfl, rfl, .inr rfl, by rw [List.length_map, hcl]; omega, ?_⟩
    rw [lD_snoc, ← e2]
    exact ⟨_, _, _, _, by rw [List.length_append]; rfl⟩
  · rintro ρ ⟨v3, v4, v5, v6, rfl⟩
    repeat trivial
    rw [List.length_range]
    exact q
end
end K49
namespace K49
open PySem PySem.Spec PyProof.Rows L2 VH
local macro_rules | `(tactic| trivial) => `(tactic| first
  | exact rfl
  | refine ⟨⟨_, rfl⟩, ?_⟩
  | refine ⟨⟨_, _, rfl⟩, ?_⟩
  | refine ⟨_, _, rfl, ?_⟩
  | refine ⟨_, rfl, ?_⟩
  | refine ⟨_, _, _, _, _, rfl, rfl, rfl, rfl, ?_⟩
  | refine ⟨_, _, _, _, rfl, rfl, .inr rfl, rfl, ?_⟩
  | refine ⟨_, _, _, _, rfl, rfl, .inl rfl, rfl, ?_⟩
  | refine ⟨_, _, _, rfl, rfl, .inr rfl, rfl, ?_⟩
  | refine ⟨_, _, _, rfl, rfl, .inl rfl, rfl, ?_⟩
  | refine ⟨.inr ⟨by decide, by decide⟩, ?_⟩
  | refine ⟨by decide, by decide, ?_⟩
  | refine ⟨by decide, ?_⟩
  | refine ⟨Nat.le_of_ble_eq_true rfl, ?_⟩
  | refine ⟨List.nodup_nil, _, rfl, ?_⟩
  | refine ⟨nodup1 _, _, rfl, ?_⟩
  | refine ⟨nodup2 (by decide), _, rfl, ?_⟩
  | refine ⟨rfl, ?_⟩)

theorem bit_eq' : (List.range 256).all (fun m => (List.range 8).all fun p => (decide (Builtin.bitAnd ((m : Int) / 2 ^ p) 1 = 1) == bitF m p) && (decide (Builtin.bitAnd ((m : Int) / 2 ^ p) 1 = 0) == !bitF m p)) = true := by decide +kernel
theorem bit_eq {n : Nat} {m p : Int} (hn : n ≤ 8) (h0 : 0 ≤ m) (h1 : m < 2 ^ n) (p0 : 0 ≤ p) (p1 : p < n) : decide (Builtin.bitAnd (m / 2 ^ p.toNat) 1 = 1) = bitF m p ∧ decide (Builtin.bitAnd (m / 2 ^ p.toNat) 1 = 0) = !bitF m p := by
  obtain ⟨a, rfl⟩ := Int.eq_ofNat_of_zero_le h0
  obtain ⟨b, rfl⟩ := Int.eq_ofNat_of_zero_le p0
  have h2 : (2 ^ n : Nat) ≤ 2 ^ 8 := Nat.pow_le_pow_right (by decide) hn
  have ha : a < 2 ^ n := by have : (2 : Int) ^ n = ((2 ^ n : Nat) : Int) := by simp
                            omega
  have := List.all_eq_true.mp (List.all_eq_true.mp bit_eq' a (List.mem_range.mpr (by omega))) b (List.mem_range.mpr (by omega))
  rw [Bool.and_eq_true, beq_iff_eq, beq_iff_eq] at this
  exact this
def ownB (n : Nat) (ties : List (Int × Int)) (v p : Int) : Bool := bitF v p && (nb n ties p).any fun q => !bitF v q
theorem own_eq {n : Nat} {ties : List (Int × Int)} {v : Int} (hn : n ≤ 8) (h0 : 0 ≤ v) (h1 : v < 2 ^ n) : (((ups n).filter (ownB n ties v)).length : Int) = jbH n ties (hasN v) := by
  unfold jbH
  rw [List.filter_filter]
  congr 2
  refine List.filter_congr fun p hp => ?_
  have hp := mem_ups.mp hp
  unfold ownB
  rw [bitF_has hn h0 h1 hp.1 hp.2, Bool.and_comm]
  congr 1
  rw [List.all_eq_not_any_not, Bool.not_not]
  rw [Bool.eq_iff_iff, List.any_eq_true, List.any_eq_true]
  constructor
  · rintro ⟨q, hq, e⟩
    obtain ⟨a, b⟩ := (mem_nb.mp hq).1
    exact ⟨q, hq, by rw [bitF_has hn h0 h1 a b]; exact e⟩
  · rintro ⟨q, hq, e⟩
    obtain ⟨a, b⟩ := (mem_nb.mp hq).1
    exact ⟨q, hq, by rw [← bitF_has hn h0 h1 a b]; exact e⟩
theorem range_nat (n : Nat) : (ups (n : Int)).map D.int = (List.range n).map fun i : Nat => D.int (i : Int) := by unfold ups; rw [List.map_map, Int.toNat_natCast]; rfl
section
variable {k : Nat} {Q : Ow → D → List (Option (Ow × D)) → Prop}
theorem lbags {n : Nat} {ties : List (Int × Int)} {o : List Int} (hn : n ≤ 20) (ho : Pre n o) (hl : o.length = n) (q : ∀ outs, Q .all (bD (bagsL n ties o)) outs) : cal T (k + 1) 38 [(.bor, nearD n ties), (.bor, lD o)] Q := by
  have hC := cal_mono T k
  refine cal_of d38 rfl rfl ?_
  refine r_asg ?_
  trivial
  trivial
  trivial
  trivial
  refine s1_len ?_
  refine ⟨_, rfl, ?_⟩
  have hsz : sizeLine = 16777216 := sizeLine_eq
  rw [hl]
  refine ⟨by omega, by omega, ⟨Ow.noConfusion, Ow.noConfusion⟩, ?_⟩
  rw [ups_map, range_nat]
  refine fr_pre hC (ea := fun i : Nat => D.int (i : Int)) (fun pre ρ => ∃ v3 v4 v5 v6 v7, ρ = [some (.bor, nearD n ties), some (.bor, lD o), some (.all, bD ((List.range pre.length).map fun i => bagL n ties o i)), v3, v4, v5, v6, v7])
    ⟨none, none, none, none, none, rfl⟩ ?_ ?_
  · rintro pre i post ρ hx ⟨v3, v4, v5, v6, v7, rfl⟩
    obtain ⟨rfl, hi⟩ := range_pre hx
    have hcl : ((List.range pre.length).map fun i => bagL n ties o i).length = pre.length := by rw [List.length_map, List.length_range]
    have e2 : ((List.range (pre.length + 1)).map fun i => bagL n ties o i) = ((List.range pre.length).map fun i => bagL n ties o i) ++ [bagL n ties o pre.length] := by
      rw [List.range_succ, List.map_append]; rfl
    refine ⟨_, rfl, ?_⟩
    refine r_asg ?_
    repeat trivial
    refine ⟨_, kidsO_solid (solid_ints _), ?_⟩
    rw [slc_from D.int o pre.length rfl (by omega)]
    refine ⟨_, rfl, ?_⟩
    refine r_asg (lc_pure ?_ hC)
    repeat trivial
    refine ⟨_, kidsO_solid (solid_ints _), ?_⟩
    rw [slc_to D.int o pre.length rfl]
    refine ⟨by rw [List.length_map, List.length_take]; omega, ?_⟩
    refine lc_filter hC (ea := D.int) (o.take pre.length) (inB n ties o pre.length) (fun p hp => ⟨_, rfl, ?_⟩) ?_
    · have hr := ho.2 p (List.mem_of_mem_take hp)
      have a1 := ups_at (f := fun p => lD (nb n ties p)) hr.1 hr.2
      have hlb := nb_len n ties p
      refine e_cmp (e_b1 (lc_pure ?_ hC))
      repeat trivial
      refine ⟨_, a1, ?_⟩
      refine ⟨by rw [List.length_map]; omega, ?_⟩
      refine lc_filter hC (ea := D.int) (nb n ties p) (fun q => decide (q ∈ o.drop pre.length)) (fun r hr => ⟨_, rfl, ?_⟩) ?_
      · refine ⟨_, _, rfl, ⟨_, _, rfl, ⟨rfl, plainL _, ?_⟩⟩⟩
        rw [any_encI]
        refine ⟨rfl, fun _ => ?_⟩
        repeat trivial
      · refine s1_len ?_
        refine wp2_free rfl ?_
        refine ⟨?_, fun _ => ?_⟩
        · show some (decide ((0 : Int) < _)) = _
          rw [pos_any]; rfl
        · repeat trivial
    refine ⟨_, rfl, ?_⟩
    refine r_ex ?_
    refine ⟨⟨_, _, rfl⟩, ?_⟩
    refine e_b1 (e_bin ?_)
    have ha : atI (o.map D.int) (pre.length : Int) = some (.int (o.getD pre.length 0)) := atI_nat (by rw [List.getElem?_map, List.getElem?_eq_getElem (by omega), List.getD_eq_getElem?_getD, List.getElem?_eq_getElem (by omega)]; rfl)
    repeat trivial
    refine ⟨_, ha, ?_⟩
    repeat trivial
    have hlf : ((o.take pre.length).filter (inB n ties o pre.length)).length ≤ n := by
      have := List.length_filter_le (inB n ties o pre.length) (o.take pre.length)
      rw [List.length_take] at this; omega
    refine ⟨by rw [List.length_map, List.length_singleton]; omega, _, _, kidsO_solid (solid_ints _), rfl, ?_⟩
    rw [lD_snoc]
    refine s1_sort ?_
    refine ⟨_, _, _, rfl, rfl, .inr rfl, by rw [List.length_map, hcl]; omega, ?_⟩
    rw [show (((List.range pre.length).map fun i => bagL n ties o i).map lD ++ [lD (srtI ((o.take pre.length).filter (inB n ties o pre.length) ++ [o.getD pre.length 0]))]) = ((List.range (pre.length + 1)).map fun i => bagL n ties o i).map lD by rw [e2, List.map_append]; rfl]
    exact ⟨_, _, _, _, _, by rw [List.length_append]; rfl⟩
  · rintro ρ ⟨v3, v4, v5, v6, v7, rfl⟩
    repeat trivial
    rw [List.length_range]
    exact q _
theorem lfirst {n : Nat} {ties : List (Int × Int)} (hn : n ≤ 8) (q : ∀ outs t o, TabG n (FC n ties) t (-1) → LeastF n (rowf n ties) o → valL max (rowf n ties) [] o = nameOf t 0 → Q .sh (.tup [.int (nameOf t 0), lD o]) outs) : cal T (k + 1) 36 [(.all, .int n), (.bor, nearD n ties)] Q := by
  have hC := cal_mono T k
  have h1n : (1 : Int) * 2 ^ ((n : Int).toNat) = ((2 ^ n : Nat) : Int) := by rw [Int.toNat_natCast]; simp
  have hpw : 2 ^ n ≤ 256 := Nat.pow_le_pow_right (by decide : 0 < 2) hn
  have hpz : (2 : Int) ^ n = ((2 ^ n : Nat) : Int) := by simp
  have hpp : 0 < 2 ^ n := Nat.two_pow_pos n
  refine cal_of d36 rfl rfl ?_
  refine r_asg ?_
  repeat trivial
  have hsz : sizeLine = 16777216 := sizeLine_eq
  refine ⟨by omega, by omega, by decide, ?_⟩
  rw [h1n]
  refine ⟨by omega, by omega, ?_, rfl, ?_⟩
  · rw [List.length_singleton]; omega
  rw [rep_ints]
  have hT0 : TabG n (FC n ties) (List.replicate (((2 ^ n : Nat) : Int)).toNat 0) (2 ^ n - 1 - 1) := by
    rw [Int.toNat_natCast]; exact tabG_start
  generalize List.replicate (((2 ^ n : Nat) : Int)).toNat (0 : Int) = t0 at hT0 ⊢
  refine ⟨_, rfl, ?_⟩
  refine r_fr ?_
  repeat trivial
  refine ⟨by omega, by omega, by decide, ?_⟩
  rw [h1n]
  refine wp2_free rfl ?_
  refine ⟨_, rfl, ?_⟩
  refine ⟨-1, _, rfl, L2.RgC.neg (by omega) (by omega) (by omega) (by omega), ?_⟩
  refine ⟨⟨Ow.noConfusion, Ow.noConfusion⟩, ?_⟩
  refine fr_inv hC (fun i ρ => ∃ t v3 v4 v5 v6, TabG n (FC n ties) t ((2 ^ n : Nat) - 1 - 1 - i) ∧ ρ = [some (.all, .int n), some (.bor, nearD n ties), some (.all, lD t), v3, v4, v5, v6, none, none, none])
    ⟨t0, none, none, none, none, ?_, rfl⟩ ?_ ?_
  · rw [hpz] at hT0
    simpa using hT0
  · rintro i d ρ hd ⟨t, v3, v4, v5, v6, hT, rfl⟩
    obtain ⟨hi, v, hv, rfl⟩ : i < 2 ^ n - 1 ∧ ∃ v : Int, v = (2 ^ n : Nat) - 1 - 1 - i ∧ d = .int v := by
      have h2 := (List.getElem?_eq_some_iff.mp hd).1
      rw [List.length_map, List.length_range] at h2
      rw [List.getElem?_map, List.getElem?_range h2] at hd
      refine ⟨by omega, _, rfl, ?_⟩
      rw [← Option.some.inj hd]
      show D.int (((2 ^ n : Nat) : Int) - 2 + (i : Int) * -1) = D.int (((2 ^ n : Nat) : Int) - 1 - 1 - i)
      rw [show ((2 ^ n : Nat) : Int) - 2 + (i : Int) * -1 = ((2 ^ n : Nat) : Int) - 1 - 1 - i by omega]
    rw [← hv] at hT
    have v0 : 0 ≤ v := by omega
    have v1 : v < 2 ^ n - 1 := by omega
    have v2 : v < 2 ^ n := by omega
    have htl : (t.length : Int) = 2 ^ n := by rw [hT.1]; simp
    refine ⟨_, rfl, ?_⟩
    refine r_asg ?_
    repeat trivial
    refine ⟨by omega, by omega, ⟨Ow.noConfusion, Ow.noConfusion⟩, ?_⟩
    rw [ups_map]
    refine fr_pre hC (ea := D.int) (fun pre ρ => ∃ v5 v6, ρ = [some (.all, .int n), some (.bor, nearD n ties), some (.all, lD t), some (.all, .int v), some (.all, .int ((pre.filter (ownB n ties v)).length : Nat)), v5, v6, none, none, none])
      ⟨v5, v6, rfl⟩ ?_ ?_
    · rintro pre p post ρ hx ⟨v5, v6, rfl⟩
      have hp : 0 ≤ p ∧ p < (n : Int) := mem_ups.mp (by rw [hx]; simp)
      have hpl : pre.length ≤ n := by
        have : (ups (n : Int)).length = n := by rw [ups_len]; omega
        rw [hx, List.length_append] at this; omega
      have hfl := List.length_filter_le (ownB n ties v) pre
      have hpm : v / 2 ^ p.toNat = v / 2 ^ p.toNat := rfl
      obtain ⟨q1, q2⟩ := bit_eq hn v0 v2 hp.1 hp.2
      have a1 := ups_at (f := fun p => lD (nb n ties p)) hp.1 hp.2
      have hlb := nb_len n ties p
      have estep : ∀ b, ownB n ties v p = b → (((pre ++ [p]).filter (ownB n ties v)).length : Int) = ((pre.filter (ownB n ties v)).length : Int) + if b = true then 1 else 0 := fun b hb => by
        rw [List.filter_append, List.length_append]
        cases b with
        | true => rw [List.filter_cons_of_pos hb]; simp
        | false => rw [List.filter_cons_of_neg (by rw [hb]; decide)]; simp
      refine ⟨_, rfl, ?_⟩
      refine st_ite hC ?_
      refine e_and hC ?_
      repeat trivial
      refine ⟨hp.1, ?_⟩
      repeat trivial
      refine ⟨fun h => ?_, fun h => ?_⟩
      · rw [deq_int, q1] at h
        refine e_cmp (e_b1 (lc_pure ?_ hC))
        repeat trivial
        refine ⟨_, a1, ?_⟩
        refine ⟨by rw [List.length_map]; omega, ?_⟩
        refine lc_filter hC (ea := D.int) (nb n ties p) (fun q => !bitF v q) (fun r hr => ⟨_, rfl, ?_⟩) ?_
        · have hr := (mem_nb.mp hr).1
          have q3 := (bit_eq hn v0 v2 hr.1 hr.2).2
          repeat trivial
          refine ⟨hr.1, ?_⟩
          repeat trivial
          refine ⟨by rw [deq_int, q3]; rfl, fun _ => ?_⟩
          repeat trivial
        · refine s1_len ?_
          refine wp2_free rfl ?_
          refine ⟨_, rfl, fun h2 => ?_, fun h2 => ?_⟩
          · have h2 : decide ((0 : Int) < (((nb n ties p).filter fun q => !bitF v q).length : Nat)) = true := h2
            rw [pos_any] at h2
            have := estep true (by unfold ownB; rw [h, h2]; rfl)
            rw [if_pos rfl] at this
            repeat trivial
            unfold augI
            dsimp only
            exact ⟨_, _, by rw [this]; rfl⟩
          · have h2 : decide ((0 : Int) < (((nb n ties p).filter fun q => !bitF v q).length : Nat)) = false := h2
            rw [pos_any] at h2
            have := estep false (by unfold ownB; rw [h, h2]; rfl)
            exact ⟨_, _, by rw [this, if_neg (by decide), Int.add_zero]; rfl⟩
      · rw [deq_int, q1] at h
        have := estep false (by unfold ownB; rw [h]; rfl)
        refine ⟨_, rfl, fun h3 => ?_, fun _ => ?_⟩
        · rw [deq_int, q1, h] at h3; cases h3
        exact ⟨_, _, by rw [this, if_neg (by decide), Int.add_zero]; rfl⟩
    · rintro ρ ⟨v5, v6, rfl⟩
      rw [own_eq hn v0 v2]
      repeat trivial
      refine ⟨by omega, by omega, ?_⟩
      refine ⟨by rw [List.length_map, List.length_range]; omega, ?_⟩
      rw [ups_map]
      refine lc_fm hC (ea := D.int) (eb := D.int) (ups n) (fun p => !bitF v p) (fun p => nameOf t (orB v p)) (fun p hp => ⟨_, rfl, ?_⟩) ?_
      · have hp := mem_ups.mp hp
        obtain ⟨b1, b2, b3, b4, b5⟩ := bits_or hn v0 v2 hp.1 hp.2
        have q3 := (bit_eq hn v0 v2 hp.1 hp.2).2
        repeat trivial
        refine ⟨hp.1, ?_⟩
        repeat trivial
        refine ⟨by rw [deq_int, q3]; rfl, fun h => ?_⟩
        have em := (bit_mod hn v0 v2 hp.1 hp.2).2 (by rwa [Bool.not_eq_true'] at h)
        have a1 := atI_gI (l := t) b1 (by omega)
        repeat trivial
        refine ⟨hp.1, by omega, by decide, ?_⟩
        repeat trivial
        refine ⟨.int (nameOf t (orB v p)), ?_, ?_⟩
        · rw [em]; exact a1
        repeat trivial
      have hne : offs n v ≠ [] := fun e => by
        have := (bits_whole hn v0 (by omega)).mpr fun p p0 p1 => by
          have := List.filter_eq_nil_iff.mp e p (mem_ups.mpr ⟨p0, p1⟩)
          rwa [Bool.not_eq_true', Bool.not_eq_false] at this
        omega
      rw [show (ups n).filter (fun p => !bitF v p) = offs n v from rfl]
      have hst := tabG_step hn FC_same hT v0 v1
      rw [show FC n ties v (fun p => nameOf t (orB v p)) = max (jbH n ties (hasN v)) (minI ((offs n v).map fun p => nameOf t (orB v p))) from rfl] at hst
      refine s1_min (by simpa using hne) ?_
      generalize minI ((offs n v).map fun p => nameOf t (orB v p)) = y at hst ⊢
      generalize jbH n ties (hasN v) = x at hst ⊢
      repeat trivial
      refine ⟨_, _, _, _, rfl, rfl, .inr rfl, ixN_of v0 (by rw [List.length_map]; omega), ?_⟩
      refine ⟨t.set v.toNat (max x y), some (.all, .int v), some (.all, .int x), v5, v6, by rw [show ((2 ^ n : Nat) : Int) - 1 - 1 - ((i + 1 : Nat) : Int) = v - 1 by omega]; exact hst, ?_⟩
      rw [show (max x y : Int) = if y > x then y else x by split <;> omega]
      rw [show lD (t.set v.toNat (if y > x then y else x)) = .lst ((t.map D.int).set v.toNat (.int (if y > x then y else x))) by unfold lD; rw [List.map_set]]
      rfl
  · rintro ρ ⟨t, v3, v4, v5, v6, hT, rfl⟩
    rw [List.length_map, List.length_range] at hT
    have hT : TabG n (FC n ties) t (-1) := by
      rw [show (-1 : Int) = ((2 ^ n : Nat) : Int) - 1 - 1 - (((((2 ^ n : Nat) : Int) - 2 - -1).toNat : Nat) : Int) by omega]
      exact hT
    have hB := row_best hn hT
    have htl : (t.length : Int) = 2 ^ n := by rw [hT.1]; simp
    have a0 := atI_gI (l := t) (Int.le_refl 0) (by omega)
    have mk0 : mk [] = 0 := rfl
    have hb0 := bestF_nonneg (fun l => jb_nonneg n ties l.dropLast) hB
    refine r_asg ?_
    repeat trivial
    refine ⟨by omega, by omega, ⟨Ow.noConfusion, Ow.noConfusion⟩, ?_⟩
    rw [ups_map]
    refine fr_pre hC (ea := D.int) (fun pre ρ => ∃ (l : List Int) (cc : Int) (v4 v5 v6 v8 v9 : Option (Ow × D)), l.length = pre.length ∧ Pre n l ∧ max cc (nameOf t (mk l)) = nameOf t 0 ∧ (∀ r, Greedy max n (rowf n ties) (fun l => nameOf t (mk l)) l cc r → Greedy max n (rowf n ties) (fun l => nameOf t (mk l)) [] 0 (l ++ r)) ∧
        ρ = [some (.all, .int n), some (.bor, nearD n ties), some (.all, lD t), some (.all, .int (mk l)), v4, v5, v6, some (.all, lD l), v8, v9])
      ⟨[], 0, v4, v5, v6, none, none, rfl, Pre.nil, by rw [mk0] at hb0 ⊢; omega, fun r h => h, rfl⟩ ?_ ?_
    · rintro pre x post ρ hx ⟨l, cc, v4, v5, v6, v8, v9, hll, hp, hcc, hgr, rfl⟩
      have hln : l.length < n := by
        have : (ups n).length = n := by rw [ups_len]; omega
        rw [hx, List.length_append, List.length_cons] at this; omega
      obtain ⟨m0, m1, m2⟩ := mk_pre hn hp
      obtain ⟨p, ps, hfe, hpf, hfit, hno, hcc'⟩ := greedy_next hB hp hln hcc
      rw [row_cond hn hT hp hln hcc, mk0] at hfe
      refine ⟨_, rfl, ?_⟩
      refine r_asg (lc_pure ?_ hC)
      repeat trivial
      refine ⟨by omega, by omega, ?_, ?_⟩
      · rw [List.length_map, List.length_range]; omega
      rw [ups_map]
      refine lc_filter hC (ea := D.int) (ups n) (fun p => (!decide (p ∈ l)) && decide (nameOf t (mk (l ++ [p])) ≤ nameOf t 0)) (fun p hp' => ⟨_, rfl, ?_⟩) ?_
      · have hr := mem_ups.mp hp'
        refine e_and hC ?_
        refine ⟨_, _, rfl, ⟨_, _, rfl, ⟨rfl, plainL _, ?_⟩⟩⟩
        rw [any_encI]
        refine ⟨_, rfl, fun h => ?_, fun h => ?_⟩
        · have hb : bitF (mk l) p = false := by rw [m2 p hr.1 hr.2]; simpa using h
          obtain ⟨b1, b2, b3, b4, b5⟩ := bits_or hn m0 m1 hr.1 hr.2
          have em := (bit_mod hn m0 m1 hr.1 hr.2).2 hb
          have a1 := atI_gI (l := t) b1 (by omega)
          repeat trivial
          refine ⟨hr.1, by omega, by decide, ?_⟩
          repeat trivial
          refine ⟨.int (nameOf t (orB (mk l) p)), ?_, ?_⟩
          · rw [em]; exact a1
          repeat trivial
          refine ⟨_, a0, ?_⟩
          rw [mk_push, h]
          refine ⟨rfl, fun _ => ?_⟩
          repeat trivial
        · rw [h]
          refine ⟨rfl, fun h => ?_⟩
          cases h
      rw [show ((ups n).filter fun p => (!decide (p ∈ l)) && decide (nameOf t (mk (l ++ [p])) ≤ nameOf t 0)) = p :: ps by rw [← hfe]; unfold freeL; rw [List.filter_filter]; refine List.filter_congr fun a _ => ?_; rw [Bool.and_comm]]
      have hpr := (mem_freeL.mp hpf).1
      have hbp : bitF (mk l) p = false := by rw [m2 p hpr.1 hpr.2]; simpa using (mem_freeL.mp hpf).2
      have emp := (bit_mod hn m0 m1 hpr.1 hpr.2).2 hbp
      have hlc : l.length < sizeLine := by omega
      refine ⟨_, rfl, ?_⟩
      refine r_ex ?_
      refine ⟨⟨_, _, rfl⟩, ?_⟩
      refine e_idx ?_
      have hal := atI_head p ps
      repeat trivial
      refine ⟨_, hal, ?_⟩
      refine ⟨_, _, _, rfl, rfl, .inr rfl, by rw [List.length_map]; exact hlc, ?_⟩
      repeat trivial
      refine ⟨_, hal, ?_⟩
      refine ⟨hpr.1, by omega, by decide, ?_⟩
      repeat trivial
      unfold augI
      dsimp only
      rw [lD_snoc, emp, ← mk_push]
      refine ⟨l ++ [p], max cc (rowf n ties (l ++ [p])), _, _, _, _, _, by rw [List.length_append, List.length_append, hll]; rfl, hp.push hpf, hcc', fun r hr => ?_, rfl⟩
      rw [List.append_assoc]
      exact hgr _ (.step hpf hfit hno hr)
    · rintro ρ ⟨l, cc, v4, v5, v6, v8, v9, hll, hp, hcc, hgr, rfl⟩
      have hln : l.length = n := by rw [hll, ups_len]; omega
      have hg := hgr [] (.done hln)
      rw [List.append_nil] at hg
      have hL := least_ofF (fun l => jb_nonneg n ties l.dropLast) hB hg
      repeat trivial
      refine ⟨_, a0, ?_⟩
      repeat trivial
      exact q _ _ _ hT hL.1 hL.2
end
end K49
namespace K49
open PySem PySem.Spec PyProof.Rows L2 VH
local macro_rules | `(tactic| trivial) => `(tactic| first
  | exact rfl
  | refine ⟨⟨_, rfl⟩, ?_⟩
  | refine ⟨⟨_, _, rfl⟩, ?_⟩
  | refine ⟨_, _, rfl, ?_⟩
  | refine ⟨_, rfl, ?_⟩
  | refine ⟨_, _, _, _, _, rfl, rfl, rfl, rfl, ?_⟩
  | refine ⟨_, _, _, _, rfl, rfl, .inr rfl, rfl, ?_⟩
  | refine ⟨_, _, _, _, rfl, rfl, .inl rfl, rfl, ?_⟩
  | refine ⟨_, _, _, rfl, rfl, .inr rfl, rfl, ?_⟩
  | refine ⟨_, _, _, rfl, rfl, .inl rfl, rfl, ?_⟩
  | refine ⟨.inr ⟨by decide, by decide⟩, ?_⟩
  | refine ⟨by decide, by decide, ?_⟩
  | refine ⟨by decide, ?_⟩
  | refine ⟨Nat.le_of_ble_eq_true rfl, ?_⟩
  | refine ⟨List.nodup_nil, _, rfl, ?_⟩
  | refine ⟨nodup1 _, _, rfl, ?_⟩
  | refine ⟨nodup2 (by decide), _, rfl, ?_⟩
  | refine ⟨rfl, ?_⟩)

theorem a_cons {C : CallS} {e : E} {es : Es} {ρ : VH.Env} {Q : List (Ow × D) → Prop} (w : wpE C e ρ fun o d _ => ∃ o', asgO o d = some o' ∧ wpArgs C es ρ fun l => Q ((o', d) :: l)) : wpArgs C (.cons e es) ρ Q := w
theorem e_cP {C : CallS} {f : Nat} {es : Es} {ρ : VH.Env} {Q : KE} (w : wpArgs C es (lock ρ) fun l => C f l fun o d _ => Q o d ρ) : wpE C (.callP f es) ρ Q := w
theorem e_notN {C : CallS} {e : E} {ρ : VH.Env} {Q : KE} (w : wpE C e ρ fun _ d ρ1 => Q .all (.bl (!isNon d)) ρ1) : wpE C (.notN e) ρ Q := w
theorem nd {b : Bool} (e : b = true) (h : (!b) = true) : False := by subst e; cases h
theorem nt_no {C : CallS} {o : Ow} {b : Bool} {ρ : VH.Env} {Q : KE} (h : b = true) (q : Q .all (.bl false) ρ) : Q .all (.bl (!b)) ρ := by subst h; exact q
section
variable {k : Nat} {Q : Ow → D → List (Option (Ow × D)) → Prop}
theorem cutsRight {n : Nat} {ties : List (Int × Int)} {o : List Int} (hn : n ≤ 12) (hg : GoodT n ties) (ht : ties.length ≤ 1000) (ho : Pre n o) (hl : o.length = n) (q : Q .all (.bl true) [some (.all, .int n), some (.sh, tD ties), some (.sh, lD o)]) : cal T (k + 6) 35 [(.all, .int n), (.sh, tD ties), (.sh, lD o)] Q := by
  have hC := cal_mono T (k + 5)
  refine cal_of d35 rfl rfl ?_
  refine r_asg ?_
  repeat trivial
  refine ⟨.all, kidsO_solid (solid_pairs ties), ?_⟩
  repeat trivial
  refine ⟨.all, kidsO_solid (solid_ints o), ?_⟩
  have e4 := pl_ltwo (pl_tD ties) (pl_lD o)
  have e5 := deq_same e4
  have e6 := e4.plain (by decide)
  have f5 := deq_same (pl_lD (cutsL n ties o (n - 1)))
  have f6 := (pl_lD (cutsL n ties o (n - 1))).plain (by decide)
  repeat trivial
  refine lnear_ok rfl rfl hg (by omega) fun outs => ?_
  repeat trivial
  refine lcutsB (by omega) ho hl fun outs => ?_
  refine ⟨_, rfl, ?_⟩
  refine r_asg ?_
  repeat trivial
  refine cs_ok (a := 12) (c := 10) (d := 9) (e := 13) (g := 17) (h := 8) rfl rfl rfl rfl rfl rfl rfl (by omega) ho fun outs => ?_
  rw [hl]
  refine ⟨_, rfl, ?_⟩
  refine st_ite hC (e_or hC (e_nt ?_))
  repeat trivial
  have hcl : (cutsL n ties o (n - 1)).length ≤ n := by unfold cutsL; rw [List.length_map, List.length_range]; omega
  refine wholes_ok (o := .bor) (a := 27) rfl rfl (by rw [List.length_map]) (by omega) fun outs => ?_
  refine ⟨_, rfl, _, rfl, fun h => Bool.noConfusion h, fun _ => ?_⟩
  refine e_or hC (e_cmp ?_)
  repeat trivial
  refine ⟨fun h => (nd f5 h).elim, fun _ => ?_⟩
  refine e_cmp ?_
  repeat trivial
  refine ⟨fun h => (nd e5 h).elim, fun _ => ?_⟩
  have hsz : sizeLine = 16777216 := sizeLine_eq
  repeat trivial
  refine ⟨_, _, _, rfl, rfl, .inr rfl, by rw [List.length_map]; omega, ?_⟩
  refine r_ret (e_cmp ?_)
  repeat trivial
  refine cs_ok (a := 12) (c := 10) (d := 9) (e := 13) (g := 17) (h := 8) rfl rfl rfl rfl rfl rfl rfl (by omega) ho fun outs => ?_
  rw [hl]
  repeat trivial
  show Q .all (.bl (deq (lD (cutsL n ties o (n - 1))) (lD (cutsL n ties o (n - 1))))) _
  rw [f5]
  exact q
theorem rt' {n : Nat} {ties : List (Int × Int)} (hn : n ≤ 8) (q : ∀ outs o, LeastF n (rowf n ties) o → Q .all (.tup [lD o, bD (bagsL n ties o)]) outs) : cal T (k + 6) 23 [(.all, .int n), (.bor, tD ties)] Q :=
  rt_ok (a := 12) (b := 17) (c := 10) (d := 9) (e := 13) (g := 19) (h := 8) (w := 21) (z := 22) rfl rfl rfl rfl rfl rfl rfl rfl rfl rfl hn q
theorem rw' {n : Nat} {ties : List (Int × Int)} (hn : n ≤ 8) (q : ∀ outs t, TabG n (FC n ties) t (-1) → Q .all (.int (nameOf t 0)) outs) : cal T (k + 5) 20 [(.all, .int n), (.bor, tD ties)] Q :=
  rw_ok (a := 12) (b := 17) (c := 10) (d := 9) (e := 13) (g := 19) (h := 8) rfl rfl rfl rfl rfl rfl rfl rfl hn q
theorem fc_val {n : Nat} {ties : List (Int × Int)} {t o : List Int} (hn : n ≤ 8) (hT : TabG n (FC n ties) t (-1)) (hL : LeastF n (rowf n ties) o) : nameOf t 0 = WR n ties o := (best_val (row_best hn hT) hL).symm
theorem bagL_len {n : Nat} {ties : List (Int × Int)} {o : List Int} {i : Nat} : (bagL n ties o i).length ≤ o.length + 1 := by
  unfold bagL
  rw [(srtI_perm _).length_eq, List.length_append, List.length_singleton]
  have := List.length_filter_le (inB n ties o i) (o.take i)
  rw [List.length_take] at this
  omega
theorem right {fd : D} {n : Nat} {ties : List (Int × Int)} (hf : Feed fd) (hn : n ≤ 8) (hn1 : 1 ≤ n) (hg : GoodT n ties) (ht : ties.length ≤ 1000) (q : ∀ fd' w, Feed fd' → Q .all (.bl true) [some (.all, fd'), some (.all, .int n), some (w, tD ties)]) : cal T (k + 8) 39 [(.all, fd), (.all, .int n), (.all, tD ties)] Q := by
  have hC := cal_mono T (k + 7)
  refine cal_of d39 rfl rfl ?_
  refine r_asg ?_
  repeat trivial
  refine lnear_ok rfl rfl hg (by omega) fun outs => ?_
  repeat trivial
  refine ⟨.all, kidsO_solid (solid_pairs ties), ?_⟩
  repeat trivial
  refine lfirst hn fun outs t o hT hL hv => ?_
  have hv : nameOf t 0 = WR n ties o := hv.symm
  rw [hv]
  refine ⟨.sh, _, rfl, rfl, ?_⟩
  repeat trivial
  refine lbags (by omega) hL.1 hL.2.1 fun outs => ?_
  repeat trivial
  refine rt' hn fun outs o2 hL2 => ?_
  obtain rfl := least_one hL hL2
  refine ⟨_, rfl, ?_⟩
  let ρ0 : D → Ow → Option (Ow × D) → Option (Ow × D) → Option (Ow × D) → Option (Ow × D) → Option (Ow × D) → Option (Ow × D) → Option (Ow × D) → VH.Env := fun fd w3 v9 v10 v11 v12 v13 v14 v15 => [some (.all, fd), some (.all, .int n), some (.all, tD ties), some (w3, nearD n ties), some (.all, tD ties), some (.all, .int (WR n ties o)), some (.sh, lD o), some (.sh, bD (bagsL n ties o)), some (.all, .tup [lD o, bD (bagsL n ties o)]), v9, v10, v11, v12, v13, v14, v15]
  have et := deq_same (pl_tD ties)
  have ep := (pl_tD ties).plain (by decide)
  have pd := pl_two (pl_le (pl_lD o) (by decide : 3 ≤ 4)) (pl_bD (bagsL n ties o))
  have pe := deq_same pd
  have pp := pd.plain (by decide)
  have hbl := bags_len (n := n) (ties := ties) (o := o)
  refine wpSs_cut hC (fun ρ => ρ = ρ0 fd .all none none none none none none none) ?_ ?_
  · refine s_ite hC (e_or hC (e_nt ?_))
    repeat trivial
    refine ⟨fun h => Bool.noConfusion h, fun _ => ?_⟩
    refine e_or hC (e_cmp ?_)
    repeat trivial
    refine ⟨fun h => (nd (deq_same (pl_int 2)) h).elim, fun _ => ?_⟩
    refine e_or hC (e_nt ?_)
    repeat trivial
    refine wholes_ok (o := .bor) (a := 27) (l := o) rfl rfl (by rw [hL.2.1]) (by rw [hL.2.1]; omega) fun outs => ?_
    refine ⟨_, rfl, _, rfl, fun h => Bool.noConfusion h, fun _ => ?_⟩
    refine e_or hC (e_nt ?_)
    repeat trivial
    refine ⟨fun h => Bool.noConfusion h, fun _ => ?_⟩
    refine e_cmp ?_
    repeat trivial
    exact ⟨fun h => (nd et h).elim, fun _ => rfl⟩
  rintro ρ rfl
  refine wpSs_cut hC (fun ρ => ρ = ρ0 fd .all none none none none none none none) ?_ ?_
  · refine ⟨rfl, rfl, ?_⟩
    repeat trivial
    refine ⟨⟨fun h => Ow.noConfusion h, fun h => Ow.noConfusion h⟩, ?_⟩
    refine fr_pre hC (ea := lD) (fun pre ρ => ∃ v9, ρ = (lock (ρ0 fd .all none none none none none none none)).set 9 v9) ⟨none, rfl⟩ ?_ ?_
    · rintro pre b post ρ hx ⟨v9, rfl⟩
      have hb : b.length ≤ 1000 := by
        have hm : b ∈ bagsL n ties o := by rw [hx]; simp
        obtain ⟨i, hi, rfl⟩ := List.mem_map.mp (show b ∈ (List.range n).map fun at_ => bagL n ties o at_ from hm)
        have hi := List.mem_range.mp hi
        have := bagL_len (n := n) (ties := ties) (o := o) (i := i)
        rw [hL.2.1] at this
        omega
      refine ⟨_, rfl, ?_⟩
      refine st_ite hC (e_or hC (e_nt ?_))
      repeat trivial
      refine ⟨fun h => Bool.noConfusion h, fun _ => ?_⟩
      refine e_cmp (e_b1 (lc_pure ?_ hC))
      refine ⟨_, _, rfl, ?_⟩
      refine ⟨by rw [List.length_map]; have hsz : sizeLine = 16777216 := sizeLine_eq; omega, ?_⟩
      refine lc_fm hC (ea := D.int) (eb := D.int) b (fun _ => true) (fun x => x) (fun x _ => ⟨_, rfl, ?_⟩) ?_
      · repeat trivial
        refine whole_ok rfl fun outs => ?_
        repeat trivial
        intro _
        repeat trivial
      rw [show b.filter (fun _ => true) = b from List.filter_eq_self.mpr fun _ _ => rfl, List.map_id']
      refine s1_len ?_
      have el : deq (.int (b.length : Nat)) (.int ((b.map D.int).length : Nat)) = true := by rw [List.length_map]; exact deq_same (pl_int _)
      repeat trivial
      exact ⟨fun h => (nd el h).elim, fun _ => ⟨_, rfl⟩⟩
    · rintro ρ ⟨v9, rfl⟩
      exact ⟨rfl, rfl⟩
  rintro ρ rfl
  refine wpSs_cut hC (fun ρ => ρ = ρ0 fd .all none none none none none none none) ?_ ?_
  · refine s_ite hC (e_or hC (e_cmp ?_))
    repeat trivial
    refine ⟨fun h => (nd pe h).elim, fun _ => ?_⟩
    refine e_cmp (e_b1 (e_bin ?_))
    repeat trivial
    refine lcutsB (by omega) hL.1 hL.2.1 fun outs => ?_
    repeat trivial
    refine ⟨?_, _, _, rfl, kidsO_solid (solid_ints _), ?_⟩
    · have hsz : sizeLine = 16777216 := sizeLine_eq
      have hcl : (cutsL n ties o (n - 1)).length = n - 1 := by unfold cutsL; rw [List.length_map, List.length_range]
      rw [List.length_map, hcl, List.length_singleton]; omega
    refine s1_max (ns := 0 :: cutsL n ties o (n - 1)) (by simp) ?_
    rw [show maxI (0 :: cutsL n ties o (n - 1)) = WR n ties o from cuts_max hL.2.1 hn1]
    repeat trivial
    exact ⟨fun h => (nd (deq_same (pl_int _)) h).elim, fun _ => rfl⟩
  rintro ρ rfl
  refine r_asg ?_
  repeat trivial
  refine rw' hn fun outs t2 hT2 => ?_
  rw [fc_val hn hT2 hL]
  refine ⟨_, rfl, ?_⟩
  refine wpSs_cut hC (fun ρ => ρ = ρ0 fd .all none none (some (.all, .int (WR n ties o))) none none none none) ?_ ?_
  · refine s_ite hC (e_or hC (e_nt ?_))
    repeat trivial
    refine whole_ok rfl fun outs => ?_
    refine ⟨_, rfl, _, rfl, fun h => Bool.noConfusion h, fun _ => ?_⟩
    refine e_or hC (e_cmp ?_)
    repeat trivial
    refine ⟨fun h => (nd (deq_same (pl_int _)) h).elim, fun _ => ?_⟩
    refine e_or hC (e_cmp (e_cP (a_cons (e_wk (lc_pure ?_ hC)))))
    repeat trivial
    refine ⟨by rw [List.length_map, hbl]; have hsz : sizeLine = 16777216 := sizeLine_eq; omega, ?_⟩
    refine lc_map hC (ea := lD) (eb := lD) (bagsL n ties o) (fun b => b) (fun b hb => ⟨_, rfl, ?_⟩) ?_
    · repeat trivial
      exact ⟨.all, kidsO_solid (solid_ints b), rfl, rfl⟩
    rw [List.map_id']
    repeat trivial
    have hbne : bagsL n ties o ≠ [] := fun e => by rw [e] at hbl; simp at hbl; omega
    refine wof_ok (o := .bor) rfl hbne (by omega) fun outs => ?_
    rw [bags_width hL.1 hL.2.1 hn1]
    repeat trivial
    refine ⟨fun h => (nd (deq_same (pl_int _)) h).elim, fun _ => ?_⟩
    refine e_cmp ?_
    repeat trivial
    refine wd_ok (w := 24) (f := 11) (nl := 7) (h := 16) (e := 13) (c := 10) (d := 9) (j := 8) (g := 15) (a := 12) (b := 14) rfl rfl rfl rfl rfl rfl rfl rfl rfl rfl rfl hn hg ht fun outs o3 hL3 => ?_
    have hw := width_row hL.1 hL.2.1 hL3
    generalize widL n (joined ties) o3 = x3 at hw
    repeat trivial
    exact ⟨fun h => absurd (of_decide_eq_true h) (by omega), fun _ => rfl⟩
  rintro ρ rfl
  have hTell := row_tell hg hn1 (by omega) hL.1 hL.2.1
  refine wpSs_cut hC (fun ρ => ρ = ρ0 fd .all none none (some (.all, .int (WR n ties o))) none none none none) ?_ ?_
  · refine s_ite hC ?_
    refine e_notN (e_cP (a_cons ?_))
    trivial
    refine ⟨_, rfl, a_cons (e_wk ?_)⟩
    trivial
    refine ⟨_, rfl, ?_⟩
    refine ⟨_, rfl, a_cons (e_wk (lc_pure ?_ hC))⟩
    repeat trivial
    refine ⟨by rw [List.length_map, hbl]; have hsz : sizeLine = 16777216 := sizeLine_eq; omega, ?_⟩
    refine lc_map hC (ea := lD) (eb := lD) (bagsL n ties o) (fun b => b) (fun b hb => ⟨_, rfl, ?_⟩) ?_
    · repeat trivial
      exact ⟨.all, kidsO_solid (solid_ints b), rfl, rfl⟩
    rw [List.map_id']
    refine ⟨_, rfl, ?_⟩
    refine ⟨_, rfl, a_cons (e_wk (lc_pure ?_ hC))⟩
    repeat trivial
    refine ⟨by omega, by omega, ?_, ?_⟩
    · rw [List.length_map, List.length_range]; have hsz : sizeLine = 16777216 := sizeLine_eq; omega
    rw [ups_map]
    refine lc_map hC (ea := D.int) (eb := D.int) (ups ((n : Int) - 1)) (fun p => p) (fun p hp => ⟨_, rfl, ?_⟩) ?_
    · repeat trivial
    rw [List.map_id']
    repeat trivial
    refine check_ok (w := 5) (f := 4) (c := 2) (d := 3) (a := 1) (b := 0) rfl rfl rfl rfl rfl rfl hTell (by omega) fun outs => ?_
    exact ⟨_, rfl, fun h => Bool.noConfusion h, fun _ => rfl⟩
  rintro ρ rfl
  refine wpSs_cut hC (fun ρ => ∃ fd2, Feed fd2 ∧ ρ = ρ0 fd2 .sh none none (some (.all, .int (WR n ties o))) none none none none) ?_ ?_
  · refine s_ite hC (e_cmp (e_b1 (e_bin ?_)))
    repeat trivial
    refine order_ok (f := 30) (g := 26) rfl rfl hf (by omega) (by omega) fun fd2 l hf2 hp => ?_
    obtain ⟨p1, p2⟩ := Pre.of_perm hp
    refine ⟨_, rfl, ?_⟩
    repeat trivial
    refine lcutsX (by omega) p1 p2 ?_
    refine ⟨_, rfl, ?_⟩
    repeat trivial
    refine ⟨?_, _, _, rfl, kidsO_solid (solid_ints _), ?_⟩
    · have hsz : sizeLine = 16777216 := sizeLine_eq
      have hcl : (cutsL n ties l (n - 1)).length = n - 1 := by unfold cutsL; rw [List.length_map, List.length_range]
      rw [List.length_map, hcl, List.length_singleton]; omega
    refine s1_max (ns := 0 :: cutsL n ties l (n - 1)) (by simp) ?_
    rw [show maxI (0 :: cutsL n ties l (n - 1)) = WR n ties l from cuts_max p2 hn1]
    have hle : WR n ties o ≤ WR n ties l := (hL.2.2 l p1 p2).1
    generalize WR n ties l = x4 at hle
    repeat trivial
    exact ⟨fun h => absurd (of_decide_eq_true h) (by omega), fun _ => ⟨fd2, hf2, rfl⟩⟩
  rintro ρ ⟨fd2, hf2, rfl⟩
  obtain ⟨rest, hrest⟩ := first_least hL
  have hmin := least_min hL
  refine wpSs_cut hC (fun ρ => ∃ v13, ρ = ρ0 fd2 .sh none none (some (.all, .int (WR n ties o))) none v13 none none) ?_ ?_
  · refine s_ite hC (e_cmp ?_)
    repeat trivial
    refine ⟨fun h6 => ?_, fun _ => ⟨none, rfl⟩⟩
    have h6 : (n : Int) < 6 := of_decide_eq_true h6
    refine r_asg (e_wk (lc_pure ?_ hC))
    repeat trivial
    refine orders_ok rfl (by omega) fun outs => ?_
    have hle : (ordersO n n).length ≤ 3125 := Nat.le_trans (orders_len n) (Nat.le_trans (Nat.pow_le_pow_left (show n ≤ 5 by omega) n) (Nat.pow_le_pow_right (by decide) (show n ≤ 5 by omega)))
    refine ⟨by rw [List.length_map]; have hsz : sizeLine = 16777216 := sizeLine_eq; omega, ?_⟩
    refine lc_mapK hC (ea := lD) (eb := fun a => D.tup [.int (WR n ties a), lD a]) (.inr rfl) (ordersO n n) (fun a => a) (fun a ha => ⟨_, rfl, ?_⟩) fun k' hk' => ?_
    · obtain ⟨p1, p2⟩ := ordersO_mem.mp ha
      repeat trivial
      refine lcutsB (by omega) p1 p2 fun outs => ?_
      repeat trivial
      refine ⟨?_, _, _, rfl, kidsO_solid (solid_ints _), ?_⟩
      · have hsz : sizeLine = 16777216 := sizeLine_eq
        have hcl : (cutsL n ties a (n - 1)).length = n - 1 := by unfold cutsL; rw [List.length_map, List.length_range]
        rw [List.length_map, hcl, List.length_singleton]; omega
      refine s1_max (ns := 0 :: cutsL n ties a (n - 1)) (by simp) ?_
      rw [show maxI (0 :: cutsL n ties a (n - 1)) = WR n ties a from cuts_max p2 hn1]
      repeat trivial
    rw [List.map_id']
    refine ⟨_, wk_one hk' _, ?_⟩
    refine ⟨_, rfl, ?_⟩
    refine st_ite hC (e_or hC (e_cmp (e_b1 (lc_pure ?_ hC))))
    refine ⟨_, _, rfl, ?_⟩
    refine ⟨by rw [List.length_map]; have hsz : sizeLine = 16777216 := sizeLine_eq; omega, ?_⟩
    refine lc_map hC (ea := fun a => D.tup [.int (WR n ties a), lD a]) (eb := D.int) (ordersO n n) (fun a => WR n ties a) (fun a ha => ⟨_, rfl, ?_⟩) ?_
    · repeat trivial
    have hne : (ordersO n n).map (fun a => WR n ties a) ≠ [] := fun e => by
      have := ordersO_mem.mpr ⟨hL.1, hL.2.1⟩
      rw [List.map_eq_nil_iff.mp e] at this; simp at this
    refine s1_min hne ?_
    rw [show minI ((ordersO n n).map fun a => WR n ties a) = WR n ties o from hmin]
    repeat trivial
    refine ⟨fun h => (nd (deq_same (pl_int _)) h).elim, fun _ => ?_⟩
    refine e_cmp (e_idx (lc_pure ?_ hC))
    refine ⟨_, _, rfl, ?_⟩
    refine ⟨by rw [List.length_map]; have hsz : sizeLine = 16777216 := sizeLine_eq; omega, ?_⟩
    refine lc_fmK hC (ea := fun a => D.tup [.int (WR n ties a), lD a]) (eb := lD) (.inr rfl) (ordersO n n) (fun a => decide (WR n ties a = WR n ties o)) (fun a => a) (fun a ha => ⟨_, rfl, ?_⟩) fun k' hk' => ?_
    · repeat trivial
      intro _
      repeat trivial
    rw [List.map_id', show (ordersO n n).filter (fun a => decide (WR n ties a = WR n ties o)) = o :: rest from hrest]
    refine wp2_free (by rcases hk' with rfl | rfl <;> rfl) ?_
    refine ⟨lD o, (atI_nat (j := 0) (by simp) : atI ((o :: rest).map lD) ((0 : Nat) : Int) = some (lD o)), ?_⟩
    have el := deq_same (pl_lD o)
    have ep2 := (pl_lD o).plain (by decide)
    refine wp2_free (by rcases hk' with rfl | rfl <;> rfl) ?_
    repeat trivial
    exact ⟨fun h => (nd el h).elim, fun _ => ⟨_, rfl⟩⟩
  rintro ρ ⟨v13, rfl⟩
  have hsz : sizeLine = 16777216 := sizeLine_eq
  refine r_ex ?_
  refine ⟨_, _, rfl, rfl, by rw [List.length_map, hL.2.1]; omega, ?_⟩
  repeat trivial
  refine ⟨_, _, rfl, rfl, by rw [List.length_map, hbl]; omega, ?_⟩
  repeat trivial
  refine rt' hn fun outs o3 hL3 => ?_
  obtain rfl := least_one hL hL3
  repeat trivial
  show Q .all (.bl (deq (.tup [lD o, bD (bagsL n ties o)]) (.tup [lD o, bD (bagsL n ties o)]))) _
  rw [pe]
  exact q fd2 _ hf2
end
end K49
namespace K49
open PySem PySem.Spec PyProof.Rows L2 VH
local macro_rules | `(tactic| trivial) => `(tactic| first
  | exact rfl
  | refine ⟨⟨_, rfl⟩, ?_⟩
  | refine ⟨⟨_, _, rfl⟩, ?_⟩
  | refine ⟨_, _, rfl, ?_⟩
  | refine ⟨_, rfl, ?_⟩
  | refine ⟨_, _, _, _, _, rfl, rfl, rfl, rfl, ?_⟩
  | refine ⟨_, _, _, _, rfl, rfl, .inr rfl, rfl, ?_⟩
  | refine ⟨_, _, _, _, rfl, rfl, .inl rfl, rfl, ?_⟩
  | refine ⟨_, _, _, rfl, rfl, .inr rfl, rfl, ?_⟩
  | refine ⟨_, _, _, rfl, rfl, .inl rfl, rfl, ?_⟩
  | refine ⟨.inr ⟨by decide, by decide⟩, ?_⟩
  | refine ⟨by decide, by decide, ?_⟩
  | refine ⟨by decide, ?_⟩
  | refine ⟨Nat.le_of_ble_eq_true rfl, ?_⟩
  | refine ⟨List.nodup_nil, _, rfl, ?_⟩
  | refine ⟨nodup1 _, _, rfl, ?_⟩
  | refine ⟨nodup2 (by decide), _, rfl, ?_⟩
  | refine ⟨rfl, ?_⟩)

def star : List (Int × Int) := [(0, 1), (0, 2), (0, 3)]
def three : List (Int × Int) := [(0, 1), (0, 3), (0, 5), (1, 2), (3, 4), (5, 6)]
def ring : List (Int × Int) := [(0, 1), (0, 3), (1, 2), (2, 3)]
def threeT : List Int := [2, 2, 2, 2, 2, 2, 2, 2, 2, 2, 2, 3, 2, 3, 2, 2, 2, 2, 2, 3, 2, 3, 2, 2, 2, 2, 2, 2, 2, 2, 2, 1, 2, 2, 2, 3, 2, 3, 2, 2, 2, 3, 3, 3, 3, 4, 3, 2, 2, 3, 3, 4, 3, 4, 3, 3, 2, 2, 3, 2, 3, 3, 3, 1, 2, 2, 2, 3, 2, 3, 2, 2, 2, 3, 3, 4, 3, 4, 3, 3, 2, 3, 3, 4, 3, 4, 3, 3, 2, 2, 3, 3, 3, 3, 3, 2, 2, 2, 2, 2, 2, 2, 2, 1, 2, 2, 3, 2, 3, 3, 3, 1, 2, 2, 3, 3, 3, 3, 3, 2, 2, 1, 3, 1, 3, 2, 3, 0]
theorem three_chk : (List.range 127).all (fun m => decide (nameOf threeT (m : Int) = FC 7 three (m : Int) fun p => nameOf threeT (orB (m : Int) p))) = true := by decide +kernel
theorem three_tab : TabG 7 (FC 7 three) threeT (-1) := by
  refine ⟨by decide +kernel, by decide +kernel, fun m m0 m1 => ?_⟩
  obtain ⟨a, rfl⟩ := Int.eq_ofNat_of_zero_le (show 0 ≤ m by omega)
  exact of_decide_eq_true (List.all_eq_true.mp three_chk a (List.mem_range.mpr (by have : (2 : Int) ^ 7 - 1 = 127 := by decide
                                                                                   omega)))
theorem tab_same {n : Nat} {ties : List (Int × Int)} {t t' : List Int} (hn : n ≤ 8) (h : TabG n (FC n ties) t (-1)) (h' : TabG n (FC n ties) t' (-1)) : nameOf t 0 = nameOf t' 0 := by
  have a := row_best hn h
  have b := row_best hn h'
  obtain ⟨r, h1, h2, h3⟩ := a.some n [] Pre.nil (by simp)
  obtain ⟨r', h1', h2', h3'⟩ := b.some n [] Pre.nil (by simp)
  have c := a.le comb_max r' [] h1' h2'
  have d := b.le comb_max r [] h1 h2
  rw [h3] at d
  rw [h3'] at c
  exact Int.le_antisymm c d
theorem three_0 : nameOf threeT 0 = 2 := by decide +kernel
theorem one_least : LeastF 1 (rowf 1 []) [0] := least_dec (by decide +kernel)
theorem star_least : LeastF 4 (rowf 4 star) [0, 1, 2, 3] := least_dec (by decide +kernel)
theorem ring_least : LeastF 4 (rowf 4 ring) [0, 1, 2, 3] := least_dec (by decide +kernel)
theorem nil_least : LeastF 3 (rowf 3 []) [0, 1, 2] := least_dec (by decide +kernel)
theorem one_bags : bagsL 1 [] [0] = [[0]] := by decide +kernel
theorem star_bags : bagsL 4 star [0, 1, 2, 3] = [[0], [0, 1], [0, 2], [0, 3]] := by decide +kernel
theorem star_row : WR 4 star [0, 1, 2, 3] = 1 := by decide +kernel
theorem ring_row : WR 4 ring [0, 1, 2, 3] = 2 := by decide +kernel
theorem nil_row : WR 3 [] [0, 1, 2] = 0 := by decide +kernel
theorem star_cuts : cutsL 4 star [1, 2, 0, 3] 3 = [1, 2, 1] := by decide +kernel
theorem star_good : GoodT 4 star := by unfold GoodT; decide
theorem ring_good : GoodT 4 ring := by unfold GoodT; decide
theorem nil_good (n : Int) : GoodT n [] := ⟨fun p h => by simp at h, List.nodup_nil⟩
theorem plain (ns : List Int) (hl : ns.length ≤ 63) (hb : ∀ z ∈ ns, Builtin.Int.intBits z ≤ 1048576) : callK T 41 40 [(.all, .scr ns)] fun _ d _ => d = .bl true := by
  have hC := cal_mono T 40
  rw [← cal_eq]
  refine cal_of d40 rfl rfl ?_
  repeat trivial
  refine feed_ok (f := 25) rfl fun fd outs hf => ?_
  refine ⟨.all, asgO_all, ?_⟩
  repeat trivial
  refine draw_ok (f := 26) rfl hf (by decide) (by decide) fun fd1 t1 hf1 t10 t11 => ?_
  obtain ⟨n, hn⟩ := Int.eq_ofNat_of_zero_le (show 0 ≤ 1 + t1 by omega)
  refine ⟨_, rfl, ?_⟩
  refine ⟨_, rfl, ?_⟩
  rw [hn]
  refine wpSs_cut hC (fun ρ => ∃ fd v, Feed fd ∧ ρ = [some (.all, .scr ns), some (.all, fd), some (.all, .int v), none, none, none]) ?_ ?_
  · refine s_ite hC (e_nt ?_)
    repeat trivial
    refine web_ok (f := 33) (a := 26) (b := 29) (c := 30) rfl rfl rfl rfl hf1 (by omega) fun fd2 l hf2 hg hl40 hs => ?_
    refine ⟨_, rfl, ?_⟩
    repeat trivial
    refine right (k := 32) hf2 (by omega) (by omega) hg (by omega) fun fd3 w hf3 => ?_
    exact ⟨_, rfl, _, rfl, _, rfl, fun h => Bool.noConfusion h, fun _ => ⟨_, _, hf3, rfl⟩⟩
  rintro ρ ⟨fd2, v2, hf2, rfl⟩
  refine r_asg (e_bin ?_)
  repeat trivial
  refine draw_ok (f := 26) rfl hf2 (by decide) (by decide) fun fd3 t3 hf3 t30 t31 => ?_
  refine ⟨_, rfl, ?_⟩
  refine ⟨_, rfl, ?_⟩
  refine wpSs_cut hC (fun ρ => ∃ fd, ∃ m : Nat, 4 ≤ m ∧ m ≤ 8 ∧ Feed fd ∧ ρ = [some (.all, .scr ns), some (.all, fd), some (.all, .int m), none, none, none]) ?_ ?_
  · refine s_ite hC (e_cmp ?_)
    repeat trivial
    refine draw_ok (f := 26) rfl hf3 (by decide) (by decide) fun fd4 t4 hf4 t40 t41 => ?_
    refine ⟨_, rfl, ?_⟩
    repeat trivial
    refine ⟨fun _ => ?_, fun _ => ?_⟩
    · refine r_asg (e_bin ?_)
      repeat trivial
      refine draw_ok (f := 26) rfl hf4 (by decide) (by decide) fun fd5 t5 hf5 t50 t51 => ?_
      refine ⟨_, rfl, ?_⟩
      refine ⟨_, rfl, ?_⟩
      obtain ⟨m, hm⟩ := Int.eq_ofNat_of_zero_le (show 0 ≤ 7 + t5 by omega)
      exact ⟨fd5, m, by omega, by omega, hf5, by rw [← hm]; rfl⟩
    · obtain ⟨m, hm⟩ := Int.eq_ofNat_of_zero_le (show 0 ≤ 4 + t3 by omega)
      exact ⟨fd4, m, by omega, by omega, hf4, by rw [← hm]; rfl⟩
  rintro ρ ⟨fd4, m, m4, m8, hf4, rfl⟩
  refine wpSs_cut hC (fun ρ => ∃ fd v, Feed fd ∧ ρ = [some (.all, .scr ns), some (.all, fd), some (.all, .int v), none, none, none]) ?_ ?_
  · refine s_ite hC (e_nt ?_)
    repeat trivial
    refine web_ok (f := 33) (a := 26) (b := 29) (c := 30) rfl rfl rfl rfl hf4 (by omega) fun fd5 l hf5 hg hl40 hs => ?_
    refine ⟨_, rfl, ?_⟩
    repeat trivial
    refine right (k := 32) hf5 (by omega) (by omega) hg (by omega) fun fd6 w hf6 => ?_
    exact ⟨_, rfl, _, rfl, _, rfl, fun h => Bool.noConfusion h, fun _ => ⟨_, _, hf6, rfl⟩⟩
  rintro ρ ⟨fd5, v5, hf5, rfl⟩
  refine wpSs_cut hC (fun ρ => ∃ fd v2 v3, Feed fd ∧ ρ = [some (.all, .scr ns), some (.all, fd), v2, v3, none, none]) ?_ ?_
  · refine ⟨rfl, ?_⟩
    refine ⟨2, rfl, by decide, by decide, ⟨Ow.noConfusion, Ow.noConfusion⟩, ?_⟩
    refine fr_inv hC (fun i ρ => ∃ fd v2 v3, Feed fd ∧ ρ = [some (.all, .scr ns), some (.all, fd), some (.all, .int v2), v3, none, none]) ⟨fd5, _, none, hf5, rfl⟩ ?_ ?_
    · rintro i d ρ hd ⟨fd6, v2, v3, hf6, rfl⟩
      refine ⟨_, rfl, ?_⟩
      repeat trivial
      refine draw_ok (f := 26) rfl hf6 (by decide) (by decide) fun fd7 t7 hf7 t70 t71 => ?_
      obtain ⟨n7, rfl⟩ := Int.eq_ofNat_of_zero_le t70
      refine ⟨_, rfl, ?_⟩
      refine ⟨_, rfl, ?_⟩
      refine st_ite hC (e_nt ?_)
      repeat trivial
      refine web_ok (f := 33) (a := 26) (b := 29) (c := 30) rfl rfl rfl rfl hf7 (by omega) fun fd8 l hf8 hg hl40 hs => ?_
      refine ⟨_, rfl, ?_⟩
      repeat trivial
      refine order_ok (f := 30) (g := 26) rfl rfl hf8 (by omega) (by omega) fun fd9 o hf9 hp => ?_
      obtain ⟨p1, p2⟩ := Pre.of_perm hp
      refine ⟨_, rfl, ?_⟩
      repeat trivial
      refine cutsRight (k := 34) (by omega) hg (by omega) p1 p2 ?_
      exact ⟨_, rfl, _, rfl, _, rfl, fun h => Bool.noConfusion h, fun _ => ⟨_, _, _, hf9, rfl⟩⟩
    · rintro ρ ⟨fd6, v2, v3, hf6, rfl⟩
      exact ⟨_, _, _, hf6, rfl⟩
  rintro ρ ⟨fd6, v2, v3, hf6, rfl⟩
  refine wpSs_cut hC (fun ρ => ρ = [some (.all, .scr ns), some (.all, fd6), v2, v3, some (.all, tD star), none]) ?_ ?_
  · repeat trivial
  rintro ρ rfl
  have d1 := deq_same (pl_two (pl_le (pl_lD [0]) (by decide : 3 ≤ 4)) (pl_bD [[0]]))
  have d1p := (pl_two (pl_le (pl_lD [0]) (by decide : 3 ≤ 4)) (pl_bD [[0]])).plain (by decide)
  have d2 := deq_same (pl_two (pl_le (pl_lD [0, 1, 2, 3]) (by decide : 3 ≤ 4)) (pl_bD [[0], [0, 1], [0, 2], [0, 3]]))
  have d2p := (pl_two (pl_le (pl_lD [0, 1, 2, 3]) (by decide : 3 ≤ 4)) (pl_bD [[0], [0, 1], [0, 2], [0, 3]])).plain (by decide)
  refine wpSs_cut hC (fun ρ => ρ = [some (.all, .scr ns), some (.all, fd6), v2, v3, some (.all, tD star), none]) ?_ ?_
  · refine s_ite hC (e_or hC (e_cmp ?_))
    repeat trivial
    refine rt' (n := 1) (ties := []) (by decide) fun outs o hL => ?_
    obtain rfl := least_one hL one_least
    rw [one_bags]
    repeat trivial
    refine ⟨fun h => (nd d1 h).elim, fun _ => ?_⟩
    refine e_or hC (e_cmp ?_)
    repeat trivial
    refine rw' (n := 4) (ties := star) (by decide) fun outs t hT => ?_
    rw [fc_val (by decide) hT star_least, star_row]
    repeat trivial
    refine ⟨fun h => (nd (deq_same (pl_int 1)) h).elim, fun _ => ?_⟩
    refine e_cmp ?_
    repeat trivial
    refine rt' (n := 4) (ties := star) (by decide) fun outs o hL => ?_
    obtain rfl := least_one hL star_least
    rw [star_bags]
    repeat trivial
    exact ⟨fun h => (nd d2 h).elim, fun _ => rfl⟩
  rintro ρ rfl
  refine wpSs_cut hC (fun ρ => ρ = [some (.all, .scr ns), some (.all, fd6), v2, v3, some (.all, tD star), none]) ?_ ?_
  · refine s_ite hC (e_or hC (e_cmp ?_))
    repeat trivial
    refine cs_ok (k := 35) (n := 0) (ties := []) (o := []) (a := 12) (c := 10) (d := 9) (e := 13) (g := 17) (h := 8) rfl rfl rfl rfl rfl rfl rfl (by decide) Pre.nil fun outs => ?_
    repeat trivial
    refine ⟨fun h => (nd (deq_same (pl_lD [])) h).elim, fun _ => ?_⟩
    refine e_or hC (e_cmp ?_)
    repeat trivial
    refine cs_ok (k := 35) (n := 1) (ties := []) (o := [0]) (a := 12) (c := 10) (d := 9) (e := 13) (g := 17) (h := 8) rfl rfl rfl rfl rfl rfl rfl (by decide) ⟨by decide, by decide⟩ fun outs => ?_
    repeat trivial
    refine ⟨fun h => (nd (deq_same (pl_lD [])) h).elim, fun _ => ?_⟩
    refine e_cmp ?_
    repeat trivial
    refine cs_ok (k := 35) (n := 4) (ties := star) (o := [1, 2, 0, 3]) (a := 12) (c := 10) (d := 9) (e := 13) (g := 17) (h := 8) rfl rfl rfl rfl rfl rfl rfl (by decide) ⟨by decide, by decide⟩ fun outs => ?_
    rw [show cutsL 4 star [1, 2, 0, 3] (([1, 2, 0, 3] : List Int).length - 1) = [1, 2, 1] from star_cuts]
    repeat trivial
    exact ⟨fun h => (nd (deq_same (pl_lD [1, 2, 1])) h).elim, fun _ => rfl⟩
  rintro ρ rfl
  refine wpSs_cut hC (fun ρ => ρ = [some (.all, .scr ns), some (.all, fd6), v2, v3, some (.all, tD star), some (.all, tD three)]) ?_ ?_
  · repeat trivial
  rintro ρ rfl
  refine r_ret (e_and hC (e_cmp ?_))
  repeat trivial
  refine rw' (n := 7) (ties := three) (by decide) fun outs t hT => ?_
  rw [tab_same (by decide) hT three_tab, three_0]
  repeat trivial
  refine ⟨fun _ => ?_, fun h => absurd (h.symm.trans (deq_same (pl_int 2))) (by decide)⟩
  refine e_and hC (e_cmp ?_)
  repeat trivial
  refine rw' (n := 4) (ties := ring) (by decide) fun outs t hT => ?_
  rw [fc_val (by decide) hT ring_least, ring_row]
  repeat trivial
  refine ⟨fun _ => ?_, fun h => absurd (h.symm.trans (deq_same (pl_int 2))) (by decide)⟩
  refine e_cmp ?_
  repeat trivial
  refine rw' (n := 3) (ties := []) (by decide) fun outs t hT => ?_
  rw [fc_val (by decide) hT nil_least, nil_row]
  repeat trivial
end K49
namespace K49
open PySem PySem.Spec PyProof.Rows L2 VH
theorem s0 : FnScope d0.N [(Str.ofString "numbers")] (defScope (top 4)) := C8.fnScope_by (by decide +kernel)
theorem s1 : FnScope d1.N [(Str.ofString "n"), (Str.ofString "bag")] (defScope (top 7)) := C8.fnScope_by (by decide +kernel)
theorem s2 : FnScope d2.N [(Str.ofString "n"), (Str.ofString "bags"), (Str.ofString "uppers")] (defScope (top 8)) := C8.fnScope_by (by decide +kernel)
theorem s3 : FnScope d3.N [(Str.ofString "bags"), (Str.ofString "uppers"), (Str.ofString "place")] (defScope (top 9)) := C8.fnScope_by (by decide +kernel)
theorem s4 : FnScope d4.N [(Str.ofString "n"), (Str.ofString "ties"), (Str.ofString "bags"), (Str.ofString "uppers")] (defScope (top 10)) := C8.fnScope_by (by decide +kernel)
theorem s5 : FnScope d5.N [(Str.ofString "n"), (Str.ofString "ties"), (Str.ofString "bags"), (Str.ofString "uppers")] (defScope (top 11)) := C8.fnScope_by (by decide +kernel)
theorem s6 : FnScope d6.N [(Str.ofString "bags")] (defScope (top 12)) := C8.fnScope_by (by decide +kernel)
theorem s7 : FnScope d7.N [(Str.ofString "n"), (Str.ofString "ties"), (Str.ofString "order")] (defScope (top 13)) := C8.fnScope_by (by decide +kernel)
theorem s8 : FnScope d8.N [(Str.ofString "i"), (Str.ofString "j")] (defScope (top 15)) := C8.fnScope_by (by decide +kernel)
theorem s9 : FnScope d9.N [(Str.ofString "ties"), (Str.ofString "i"), (Str.ofString "j")] (defScope (top 16)) := C8.fnScope_by (by decide +kernel)
theorem s10 : FnScope d10.N [(Str.ofString "n"), (Str.ofString "ties"), (Str.ofString "i")] (defScope (top 17)) := C8.fnScope_by (by decide +kernel)
theorem s11 : FnScope d11.N [(Str.ofString "n"), (Str.ofString "ties"), (Str.ofString "order")] (defScope (top 19)) := C8.fnScope_by (by decide +kernel)
theorem s12 : FnScope d12.N [(Str.ofString "number"), (Str.ofString "place")] (defScope (top 20)) := C8.fnScope_by (by decide +kernel)
theorem s13 : FnScope d13.N [(Str.ofString "n"), (Str.ofString "ties")] (defScope (top 21)) := C8.fnScope_by (by decide +kernel)
theorem s14 : FnScope d14.N [(Str.ofString "near"), (Str.ofString "gone"), (Str.ofString "place")] (defScope (top 22)) := C8.fnScope_by (by decide +kernel)
theorem s15 : FnScope d15.N [(Str.ofString "n"), (Str.ofString "near")] (defScope (top 23)) := C8.fnScope_by (by decide +kernel)
theorem s16 : FnScope d16.N [(Str.ofString "n"), (Str.ofString "ties")] (defScope (top 24)) := C8.fnScope_by (by decide +kernel)
theorem s17 : FnScope d17.N [(Str.ofString "near"), (Str.ofString "ahead")] (defScope (top 26)) := C8.fnScope_by (by decide +kernel)
theorem s18 : FnScope d18.N [(Str.ofString "n"), (Str.ofString "ties"), (Str.ofString "order")] (defScope (top 27)) := C8.fnScope_by (by decide +kernel)
theorem s19 : FnScope d19.N [(Str.ofString "n"), (Str.ofString "near")] (defScope (top 28)) := C8.fnScope_by (by decide +kernel)
theorem s20 : FnScope d20.N [(Str.ofString "n"), (Str.ofString "ties")] (defScope (top 29)) := C8.fnScope_by (by decide +kernel)
theorem s21 : FnScope d21.N [(Str.ofString "n"), (Str.ofString "ties")] (defScope (top 30)) := C8.fnScope_by (by decide +kernel)
theorem s22 : FnScope d22.N [(Str.ofString "near"), (Str.ofString "order"), (Str.ofString "at")] (defScope (top 31)) := C8.fnScope_by (by decide +kernel)
theorem s23 : FnScope d23.N [(Str.ofString "n"), (Str.ofString "ties")] (defScope (top 32)) := C8.fnScope_by (by decide +kernel)
theorem s24 : FnScope d24.N [(Str.ofString "n"), (Str.ofString "ties")] (defScope (top 34)) := C8.fnScope_by (by decide +kernel)
theorem s25 : FnScope d25.N [(Str.ofString "script")] (defScope (top 36)) := C8.fnScope_by (by decide +kernel)
theorem s26 : FnScope d26.N [(Str.ofString "feed"), (Str.ofString "many")] (defScope (top 37)) := C8.fnScope_by (by decide +kernel)
theorem s27 : FnScope d27.N [(Str.ofString "x")] (defScope (top 38)) := C8.fnScope_by (by decide +kernel)
theorem s28 : FnScope d28.N [(Str.ofString "x"), (Str.ofString "n")] (defScope (top 39)) := C8.fnScope_by (by decide +kernel)
theorem s29 : FnScope d29.N [(Str.ofString "n")] (defScope (top 40)) := C8.fnScope_by (by decide +kernel)
theorem s30 : FnScope d30.N [(Str.ofString "feed"), (Str.ofString "n")] (defScope (top 41)) := C8.fnScope_by (by decide +kernel)
theorem s31 : FnScope d31.N [(Str.ofString "ties"), (Str.ofString "i"), (Str.ofString "j")] (defScope (top 42)) := C8.fnScope_by (by decide +kernel)
theorem s32 : FnScope d32.N [(Str.ofString "n"), (Str.ofString "ties")] (defScope (top 43)) := C8.fnScope_by (by decide +kernel)
theorem s33 : FnScope d33.N [(Str.ofString "feed"), (Str.ofString "n")] (defScope (top 44)) := C8.fnScope_by (by decide +kernel)
theorem s34 : FnScope d34.N [(Str.ofString "near"), (Str.ofString "order")] (defScope (top 45)) := C8.fnScope_by (by decide +kernel)
theorem s35 : FnScope d35.N [(Str.ofString "n"), (Str.ofString "ties"), (Str.ofString "order")] (defScope (top 46)) := C8.fnScope_by (by decide +kernel)
theorem s36 : FnScope d36.N [(Str.ofString "n"), (Str.ofString "near")] (defScope (top 47)) := C8.fnScope_by (by decide +kernel)
theorem s37 : FnScope d37.N [(Str.ofString "n")] (defScope (top 48)) := C8.fnScope_by (by decide +kernel)
theorem s38 : FnScope d38.N [(Str.ofString "near"), (Str.ofString "order")] (defScope (top 49)) := C8.fnScope_by (by decide +kernel)
theorem s39 : FnScope d39.N [(Str.ofString "feed"), (Str.ofString "n"), (Str.ofString "ties")] (defScope (top 50)) := C8.fnScope_by (by decide +kernel)
theorem s40 : FnScope d40.N [(Str.ofString "script")] (defScope (top 51)) := C8.fnScope_by (by decide +kernel)
theorem at_mk {K : PySem.W.Frag} {h : Heap} {mg : Str → Option Value} {fa : Addr} (X : K.In h) (G : h.Ns mainGlobals mg) (hfa : mg (Str.ofString "law") = some (.ref fa))
    {f0 f1 f2 f3 f4 f5 f6 f7 f8 f9 f10 f11 f12 f13 f14 f15 f16 f17 f18 f19 f20 f21 f22 f23 f24 f25 f26 f27 f28 f29 f30 f31 f32 f33 f34 f35 f36 f37 f38 f39 f40 : Addr} {od0 an0 od1 an1 od2 an2 od3 an3 od4 an4 od5 an5 od6 an6 od7 an7 od8 an8 od9 an9 od10 an10 od11 an11 od12 an12 od13 an13 od14 an14 od15 an15 od16 an16 od17 an17 od18 an18 od19 an19 od20 an20 od21 an21 od22 an22 od23 an23 od24 an24 od25 an25 od26 an26 od27 an27 od28 an28 od29 an29 od30 an30 od31 an31 od32 an32 od33 an33 od34 an34 od35 an35 od36 an36 od37 an37 od38 an38 od39 an39 od40 an40 : Option Addr} {sl0 sl1 sl2 sl3 sl4 sl5 sl6 sl7 sl8 sl9 sl10 sl11 sl12 sl13 sl14 sl15 sl16 sl17 sl18 sl19 sl20 sl21 sl22 sl23 sl24 sl25 sl26 sl27 sl28 sl29 sl30 sl31 sl32 sl33 sl34 sl35 sl36 sl37 sl38 sl39 sl40 : Array (Option Value)} {oc0 kV0 dc0 pm0 cd0 ct0 oc1 kV1 dc1 pm1 cd1 ct1 oc2 kV2 dc2 pm2 cd2 ct2 oc3 kV3 dc3 pm3 cd3 ct3 oc4 kV4 dc4 pm4 cd4 ct4 oc5 kV5 dc5 pm5 cd5 ct5 oc6 kV6 dc6 pm6 cd6 ct6 oc7 kV7 dc7 pm7 cd7 ct7 oc8 kV8 dc8 pm8 cd8 ct8 oc9 kV9 dc9 pm9 cd9 ct9 oc10 kV10 dc10 pm10 cd10 ct10 oc11 kV11 dc11 pm11 cd11 ct11 oc12 kV12 dc12 pm12 cd12 ct12 oc13 kV13 dc13 pm13 cd13 ct13 oc14 kV14 dc14 pm14 cd14 ct14 oc15 kV15 dc15 pm15 cd15 ct15 oc16 kV16 dc16 pm16 cd16 ct16 oc17 kV17 dc17 pm17 cd17 ct17 oc18 kV18 dc18 pm18 cd18 ct18 oc19 kV19 dc19 pm19 cd19 ct19 oc20 kV20 dc20 pm20 cd20 ct20 oc21 kV21 dc21 pm21 cd21 ct21 oc22 kV22 dc22 pm22 cd22 ct22 oc23 kV23 dc23 pm23 cd23 ct23 oc24 kV24 dc24 pm24 cd24 ct24 oc25 kV25 dc25 pm25 cd25 ct25 oc26 kV26 dc26 pm26 cd26 ct26 oc27 kV27 dc27 pm27 cd27 ct27 oc28 kV28 dc28 pm28 cd28 ct28 oc29 kV29 dc29 pm29 cd29 ct29 oc30 kV30 dc30 pm30 cd30 ct30 oc31 kV31 dc31 pm31 cd31 ct31 oc32 kV32 dc32 pm32 cd32 ct32 oc33 kV33 dc33 pm33 cd33 ct33 oc34 kV34 dc34 pm34 cd34 ct34 oc35 kV35 dc35 pm35 cd35 ct35 oc36 kV36 dc36 pm36 cd36 ct36 oc37 kV37 dc37 pm37 cd37 ct37 oc38 kV38 dc38 pm38 cd38 ct38 oc39 kV39 dc39 pm39 cd39 ct39 oc40 kV40 dc40 pm40 cd40 ct40 : Value}
    (a0 : PySem.W.nsIn K mainGlobals (d0.nm) = some (some (.ref f0))) (l0 : K.lookup f0 = some ⟨oc0, od0, .func (PySem.W.fnOf d0.nm d0.nm (defArgs (top 4)) (defBody (top 4)) (defScope (top 4)) .none kV0 dc0 pm0 an0 cd0 ct0), sl0⟩) (c0 : PySem.W.codeIn K cd0 d0.nm = true) (k0 : PySem.W.keepIn K (.ref f0) = true)
    (a1 : PySem.W.nsIn K mainGlobals (d1.nm) = some (some (.ref f1))) (l1 : K.lookup f1 = some ⟨oc1, od1, .func (PySem.W.fnOf d1.nm d1.nm (defArgs (top 7)) (defBody (top 7)) (defScope (top 7)) .none kV1 dc1 pm1 an1 cd1 ct1), sl1⟩) (c1 : PySem.W.codeIn K cd1 d1.nm = true) (k1 : PySem.W.keepIn K (.ref f1) = true)
    (a2 : PySem.W.nsIn K mainGlobals (d2.nm) = some (some (.ref f2))) (l2 : K.lookup f2 = some ⟨oc2, od2, .func (PySem.W.fnOf d2.nm d2.nm (defArgs (top 8)) (defBody (top 8)) (defScope (top 8)) .none kV2 dc2 pm2 an2 cd2 ct2), sl2⟩) (c2 : PySem.W.codeIn K cd2 d2.nm = true) (k2 : PySem.W.keepIn K (.ref f2) = true)
    (a3 : PySem.W.nsIn K mainGlobals (d3.nm) = some (some (.ref f3))) (l3 : K.lookup f3 = some ⟨oc3, od3, .func (PySem.W.fnOf d3.nm d3.nm (defArgs (top 9)) (defBody (top 9)) (defScope (top 9)) .none kV3 dc3 pm3 an3 cd3 ct3), sl3⟩) (c3 : PySem.W.codeIn K cd3 d3.nm = true) (k3 : PySem.W.keepIn K (.ref f3) = true)
    (a4 : PySem.W.nsIn K mainGlobals (d4.nm) = some (some (.ref f4))) (l4 : K.lookup f4 = some ⟨oc4, od4, .func (PySem.W.fnOf d4.nm d4.nm (defArgs (top 10)) (defBody (top 10)) (defScope (top 10)) .none kV4 dc4 pm4 an4 cd4 ct4), sl4⟩) (c4 : PySem.W.codeIn K cd4 d4.nm = true) (k4 : PySem.W.keepIn K (.ref f4) = true)
    (a5 : PySem.W.nsIn K mainGlobals (d5.nm) = some (some (.ref f5))) (l5 : K.lookup f5 = some ⟨oc5, od5, .func (PySem.W.fnOf d5.nm d5.nm (defArgs (top 11)) (defBody (top 11)) (defScope (top 11)) .none kV5 dc5 pm5 an5 cd5 ct5), sl5⟩) (c5 : PySem.W.codeIn K cd5 d5.nm = true) (k5 : PySem.W.keepIn K (.ref f5) = true)
    (a6 : PySem.W.nsIn K mainGlobals (d6.nm) = some (some (.ref f6))) (l6 : K.lookup f6 = some ⟨oc6, od6, .func (PySem.W.fnOf d6.nm d6.nm (defArgs (top 12)) (defBody (top 12)) (defScope (top 12)) .none kV6 dc6 pm6 an6 cd6 ct6), sl6⟩) (c6 : PySem.W.codeIn K cd6 d6.nm = true) (k6 : PySem.W.keepIn K (.ref f6) = true)
    (a7 : PySem.W.nsIn K mainGlobals (d7.nm) = some (some (.ref f7))) (l7 : K.lookup f7 = some ⟨oc7, od7, .func (PySem.W.fnOf d7.nm d7.nm (defArgs (top 13)) (defBody (top 13)) (defScope (top 13)) .none kV7 dc7 pm7 an7 cd7 ct7), sl7⟩) (c7 : PySem.W.codeIn K cd7 d7.nm = true) (k7 : PySem.W.keepIn K (.ref f7) = true)
    (a8 : PySem.W.nsIn K mainGlobals (d8.nm) = some (some (.ref f8))) (l8 : K.lookup f8 = some ⟨oc8, od8, .func (PySem.W.fnOf d8.nm d8.nm (defArgs (top 15)) (defBody (top 15)) (defScope (top 15)) .none kV8 dc8 pm8 an8 cd8 ct8), sl8⟩) (c8 : PySem.W.codeIn K cd8 d8.nm = true) (k8 : PySem.W.keepIn K (.ref f8) = true)
    (a9 : PySem.W.nsIn K mainGlobals (d9.nm) = some (some (.ref f9))) (l9 : K.lookup f9 = some ⟨oc9, od9, .func (PySem.W.fnOf d9.nm d9.nm (defArgs (top 16)) (defBody (top 16)) (defScope (top 16)) .none kV9 dc9 pm9 an9 cd9 ct9), sl9⟩) (c9 : PySem.W.codeIn K cd9 d9.nm = true) (k9 : PySem.W.keepIn K (.ref f9) = true)
    (a10 : PySem.W.nsIn K mainGlobals (d10.nm) = some (some (.ref f10))) (l10 : K.lookup f10 = some ⟨oc10, od10, .func (PySem.W.fnOf d10.nm d10.nm (defArgs (top 17)) (defBody (top 17)) (defScope (top 17)) .none kV10 dc10 pm10 an10 cd10 ct10), sl10⟩) (c10 : PySem.W.codeIn K cd10 d10.nm = true) (k10 : PySem.W.keepIn K (.ref f10) = true)
    (a11 : PySem.W.nsIn K mainGlobals (d11.nm) = some (some (.ref f11))) (l11 : K.lookup f11 = some ⟨oc11, od11, .func (PySem.W.fnOf d11.nm d11.nm (defArgs (top 19)) (defBody (top 19)) (defScope (top 19)) .none kV11 dc11 pm11 an11 cd11 ct11), sl11⟩) (c11 : PySem.W.codeIn K cd11 d11.nm = true) (k11 : PySem.W.keepIn K (.ref f11) = true)
    (a12 : PySem.W.nsIn K mainGlobals (d12.nm) = some (some (.ref f12))) (l12 : K.lookup f12 = some ⟨oc12, od12, .func (PySem.W.fnOf d12.nm d12.nm (defArgs (top 20)) (defBody (top 20)) (defScope (top 20)) .none kV12 dc12 pm12 an12 cd12 ct12), sl12⟩) (c12 : PySem.W.codeIn K cd12 d12.nm = true) (k12 : PySem.W.keepIn K (.ref f12) = true)
    (a13 : PySem.W.nsIn K mainGlobals (d13.nm) = some (some (.ref f13))) (l13 : K.lookup f13 = some ⟨oc13, od13, .func (PySem.W.fnOf d13.nm d13.nm (defArgs (top 21)) (defBody (top 21)) (defScope (top 21)) .none kV13 dc13 pm13 an13 cd13 ct13), sl13⟩) (c13 : PySem.W.codeIn K cd13 d13.nm = true) (k13 : PySem.W.keepIn K (.ref f13) = true)
    (a14 : PySem.W.nsIn K mainGlobals (d14.nm) = some (some (.ref f14))) (l14 : K.lookup f14 = some ⟨oc14, od14, .func (PySem.W.fnOf d14.nm d14.nm (defArgs (top 22)) (defBody (top 22)) (defScope (top 22)) .none kV14 dc14 pm14 an14 cd14 ct14), sl14⟩) (c14 : PySem.W.codeIn K cd14 d14.nm = true) (k14 : PySem.W.keepIn K (.ref f14) = true)
    (a15 : PySem.W.nsIn K mainGlobals (d15.nm) = some (some (.ref f15))) (l15 : K.lookup f15 = some ⟨oc15, od15, .func (PySem.W.fnOf d15.nm d15.nm (defArgs (top 23)) (defBody (top 23)) (defScope (top 23)) .none kV15 dc15 pm15 an15 cd15 ct15), sl15⟩) (c15 : PySem.W.codeIn K cd15 d15.nm = true) (k15 : PySem.W.keepIn K (.ref f15) = true)
    (a16 : PySem.W.nsIn K mainGlobals (d16.nm) = some (some (.ref f16))) (l16 : K.lookup f16 = some ⟨oc16, od16, .func (PySem.W.fnOf d16.nm d16.nm (defArgs (top 24)) (defBody (top 24)) (defScope (top 24)) .none kV16 dc16 pm16 an16 cd16 ct16), sl16⟩) (c16 : PySem.W.codeIn K cd16 d16.nm = true) (k16 : PySem.W.keepIn K (.ref f16) = true)
    (a17 : PySem.W.nsIn K mainGlobals (d17.nm) = some (some (.ref f17))) (l17 : K.lookup f17 = some ⟨oc17, od17, .func (PySem.W.fnOf d17.nm d17.nm (defArgs (top 26)) (defBody (top 26)) (defScope (top 26)) .none kV17 dc17 pm17 an17 cd17 ct17), sl17⟩) (c17 : PySem.W.codeIn K cd17 d17.nm = true) (k17 : PySem.W.keepIn K (.ref f17) = true)
    (a18 : PySem.W.nsIn K mainGlobals (d18.nm) = some (some (.ref f18))) (l18 : K.lookup f18 = some ⟨oc18, od18, .func (PySem.W.fnOf d18.nm d18.nm (defArgs (top 27)) (defBody (top 27)) (defScope (top 27)) .none kV18 dc18 pm18 an18 cd18 ct18), sl18⟩) (c18 : PySem.W.codeIn K cd18 d18.nm = true) (k18 : PySem.W.keepIn K (.ref f18) = true)
    (a19 : PySem.W.nsIn K mainGlobals (d19.nm) = some (some (.ref f19))) (l19 : K.lookup f19 = some ⟨oc19, od19, .func (PySem.W.fnOf d19.nm d19.nm (defArgs (top 28)) (defBody (top 28)) (defScope (top 28)) .none kV19 dc19 pm19 an19 cd19 ct19), sl19⟩) (c19 : PySem.W.codeIn K cd19 d19.nm = true) (k19 : PySem.W.keepIn K (.ref f19) = true)
    (a20 : PySem.W.nsIn K mainGlobals (d20.nm) = some (some (.ref f20))) (l20 : K.lookup f20 = some ⟨oc20, od20, .func (PySem.W.fnOf d20.nm d20.nm (defArgs (top 29)) (defBody (top 29)) (defScope (top 29)) .none kV20 dc20 pm20 an20 cd20 ct20), sl20⟩) (c20 : PySem.W.codeIn K cd20 d20.nm = true) (k20 : PySem.W.keepIn K (.ref f20) = true)
    (a21 : PySem.W.nsIn K mainGlobals (d21.nm) = some (some (.ref f21))) (l21 : K.lookup f21 = some ⟨oc21, od21, .func (PySem.W.fnOf d21.nm d21.nm (defArgs (top 30)) (defBody (top 30)) (defScope (top 30)) .none kV21 dc21 pm21 an21 cd21 ct21), sl21⟩) (c21 : PySem.W.codeIn K cd21 d21.nm = true) (k21 : PySem.W.keepIn K (.ref f21) = true)
    (a22 : PySem.W.nsIn K mainGlobals (d22.nm) = some (some (.ref f22))) (l22 : K.lookup f22 = some ⟨oc22, od22, .func (PySem.W.fnOf d22.nm d22.nm (defArgs (top 31)) (defBody (top 31)) (defScope (top 31)) .none kV22 dc22 pm22 an22 cd22 ct22), sl22⟩) (c22 : PySem.W.codeIn K cd22 d22.nm = true) (k22 : PySem.W.keepIn K (.ref f22) = true)
    (a23 : PySem.W.nsIn K mainGlobals (d23.nm) = some (some (.ref f23))) (l23 : K.lookup f23 = some ⟨oc23, od23, .func (PySem.W.fnOf d23.nm d23.nm (defArgs (top 32)) (defBody (top 32)) (defScope (top 32)) .none kV23 dc23 pm23 an23 cd23 ct23), sl23⟩) (c23 : PySem.W.codeIn K cd23 d23.nm = true) (k23 : PySem.W.keepIn K (.ref f23) = true)
    (a24 : PySem.W.nsIn K mainGlobals (d24.nm) = some (some (.ref f24))) (l24 : K.lookup f24 = some ⟨oc24, od24, .func (PySem.W.fnOf d24.nm d24.nm (defArgs (top 34)) (defBody (top 34)) (defScope (top 34)) .none kV24 dc24 pm24 an24 cd24 ct24), sl24⟩) (c24 : PySem.W.codeIn K cd24 d24.nm = true) (k24 : PySem.W.keepIn K (.ref f24) = true)
    (a25 : PySem.W.nsIn K mainGlobals (d25.nm) = some (some (.ref f25))) (l25 : K.lookup f25 = some ⟨oc25, od25, .func (PySem.W.fnOf d25.nm d25.nm (defArgs (top 36)) (defBody (top 36)) (defScope (top 36)) .none kV25 dc25 pm25 an25 cd25 ct25), sl25⟩) (c25 : PySem.W.codeIn K cd25 d25.nm = true) (k25 : PySem.W.keepIn K (.ref f25) = true)
    (a26 : PySem.W.nsIn K mainGlobals (d26.nm) = some (some (.ref f26))) (l26 : K.lookup f26 = some ⟨oc26, od26, .func (PySem.W.fnOf d26.nm d26.nm (defArgs (top 37)) (defBody (top 37)) (defScope (top 37)) .none kV26 dc26 pm26 an26 cd26 ct26), sl26⟩) (c26 : PySem.W.codeIn K cd26 d26.nm = true) (k26 : PySem.W.keepIn K (.ref f26) = true)
    (a27 : PySem.W.nsIn K mainGlobals (d27.nm) = some (some (.ref f27))) (l27 : K.lookup f27 = some ⟨oc27, od27, .func (PySem.W.fnOf d27.nm d27.nm (defArgs (top 38)) (defBody (top 38)) (defScope (top 38)) .none kV27 dc27 pm27 an27 cd27 ct27), sl27⟩) (c27 : PySem.W.codeIn K cd27 d27.nm = true) (k27 : PySem.W.keepIn K (.ref f27) = true)
    (a28 : PySem.W.nsIn K mainGlobals (d28.nm) = some (some (.ref f28))) (l28 : K.lookup f28 = some ⟨oc28, od28, .func (PySem.W.fnOf d28.nm d28.nm (defArgs (top 39)) (defBody (top 39)) (defScope (top 39)) .none kV28 dc28 pm28 an28 cd28 ct28), sl28⟩) (c28 : PySem.W.codeIn K cd28 d28.nm = true) (k28 : PySem.W.keepIn K (.ref f28) = true)
    (a29 : PySem.W.nsIn K mainGlobals (d29.nm) = some (some (.ref f29))) (l29 : K.lookup f29 = some ⟨oc29, od29, .func (PySem.W.fnOf d29.nm d29.nm (defArgs (top 40)) (defBody (top 40)) (defScope (top 40)) .none kV29 dc29 pm29 an29 cd29 ct29), sl29⟩) (c29 : PySem.W.codeIn K cd29 d29.nm = true) (k29 : PySem.W.keepIn K (.ref f29) = true)
    (a30 : PySem.W.nsIn K mainGlobals (d30.nm) = some (some (.ref f30))) (l30 : K.lookup f30 = some ⟨oc30, od30, .func (PySem.W.fnOf d30.nm d30.nm (defArgs (top 41)) (defBody (top 41)) (defScope (top 41)) .none kV30 dc30 pm30 an30 cd30 ct30), sl30⟩) (c30 : PySem.W.codeIn K cd30 d30.nm = true) (k30 : PySem.W.keepIn K (.ref f30) = true)
    (a31 : PySem.W.nsIn K mainGlobals (d31.nm) = some (some (.ref f31))) (l31 : K.lookup f31 = some ⟨oc31, od31, .func (PySem.W.fnOf d31.nm d31.nm (defArgs (top 42)) (defBody (top 42)) (defScope (top 42)) .none kV31 dc31 pm31 an31 cd31 ct31), sl31⟩) (c31 : PySem.W.codeIn K cd31 d31.nm = true) (k31 : PySem.W.keepIn K (.ref f31) = true)
    (a32 : PySem.W.nsIn K mainGlobals (d32.nm) = some (some (.ref f32))) (l32 : K.lookup f32 = some ⟨oc32, od32, .func (PySem.W.fnOf d32.nm d32.nm (defArgs (top 43)) (defBody (top 43)) (defScope (top 43)) .none kV32 dc32 pm32 an32 cd32 ct32), sl32⟩) (c32 : PySem.W.codeIn K cd32 d32.nm = true) (k32 : PySem.W.keepIn K (.ref f32) = true)
    (a33 : PySem.W.nsIn K mainGlobals (d33.nm) = some (some (.ref f33))) (l33 : K.lookup f33 = some ⟨oc33, od33, .func (PySem.W.fnOf d33.nm d33.nm (defArgs (top 44)) (defBody (top 44)) (defScope (top 44)) .none kV33 dc33 pm33 an33 cd33 ct33), sl33⟩) (c33 : PySem.W.codeIn K cd33 d33.nm = true) (k33 : PySem.W.keepIn K (.ref f33) = true)
    (a34 : PySem.W.nsIn K mainGlobals (d34.nm) = some (some (.ref f34))) (l34 : K.lookup f34 = some ⟨oc34, od34, .func (PySem.W.fnOf d34.nm d34.nm (defArgs (top 45)) (defBody (top 45)) (defScope (top 45)) .none kV34 dc34 pm34 an34 cd34 ct34), sl34⟩) (c34 : PySem.W.codeIn K cd34 d34.nm = true) (k34 : PySem.W.keepIn K (.ref f34) = true)
    (a35 : PySem.W.nsIn K mainGlobals (d35.nm) = some (some (.ref f35))) (l35 : K.lookup f35 = some ⟨oc35, od35, .func (PySem.W.fnOf d35.nm d35.nm (defArgs (top 46)) (defBody (top 46)) (defScope (top 46)) .none kV35 dc35 pm35 an35 cd35 ct35), sl35⟩) (c35 : PySem.W.codeIn K cd35 d35.nm = true) (k35 : PySem.W.keepIn K (.ref f35) = true)
    (a36 : PySem.W.nsIn K mainGlobals (d36.nm) = some (some (.ref f36))) (l36 : K.lookup f36 = some ⟨oc36, od36, .func (PySem.W.fnOf d36.nm d36.nm (defArgs (top 47)) (defBody (top 47)) (defScope (top 47)) .none kV36 dc36 pm36 an36 cd36 ct36), sl36⟩) (c36 : PySem.W.codeIn K cd36 d36.nm = true) (k36 : PySem.W.keepIn K (.ref f36) = true)
    (a37 : PySem.W.nsIn K mainGlobals (d37.nm) = some (some (.ref f37))) (l37 : K.lookup f37 = some ⟨oc37, od37, .func (PySem.W.fnOf d37.nm d37.nm (defArgs (top 48)) (defBody (top 48)) (defScope (top 48)) .none kV37 dc37 pm37 an37 cd37 ct37), sl37⟩) (c37 : PySem.W.codeIn K cd37 d37.nm = true) (k37 : PySem.W.keepIn K (.ref f37) = true)
    (a38 : PySem.W.nsIn K mainGlobals (d38.nm) = some (some (.ref f38))) (l38 : K.lookup f38 = some ⟨oc38, od38, .func (PySem.W.fnOf d38.nm d38.nm (defArgs (top 49)) (defBody (top 49)) (defScope (top 49)) .none kV38 dc38 pm38 an38 cd38 ct38), sl38⟩) (c38 : PySem.W.codeIn K cd38 d38.nm = true) (k38 : PySem.W.keepIn K (.ref f38) = true)
    (a39 : PySem.W.nsIn K mainGlobals (d39.nm) = some (some (.ref f39))) (l39 : K.lookup f39 = some ⟨oc39, od39, .func (PySem.W.fnOf d39.nm d39.nm (defArgs (top 50)) (defBody (top 50)) (defScope (top 50)) .none kV39 dc39 pm39 an39 cd39 ct39), sl39⟩) (c39 : PySem.W.codeIn K cd39 d39.nm = true) (k39 : PySem.W.keepIn K (.ref f39) = true)
    (a40 : PySem.W.nsIn K mainGlobals (d40.nm) = some (some (.ref f40))) (l40 : K.lookup f40 = some ⟨oc40, od40, .func (PySem.W.fnOf d40.nm d40.nm (defArgs (top 51)) (defBody (top 51)) (defScope (top 51)) .none kV40 dc40 pm40 an40 cd40 ct40), sl40⟩) (c40 : PySem.W.codeIn K cd40 d40.nm = true) (k40 : PySem.W.keepIn K (.ref f40) = true)
    (b0 : PySem.W.nsIn K mainGlobals (Str.ofString "ValueError") = some none)
    (b1 : PySem.W.nsIn K mainGlobals (Str.ofString "abs") = some none)
    (b2 : PySem.W.nsIn K mainGlobals (Str.ofString "all") = some none)
    (b3 : PySem.W.nsIn K mainGlobals (Str.ofString "any") = some none)
    (b4 : PySem.W.nsIn K mainGlobals (Str.ofString "bool") = some none)
    (b5 : PySem.W.nsIn K mainGlobals (Str.ofString "enumerate") = some none)
    (b6 : PySem.W.nsIn K mainGlobals (Str.ofString "int") = some none)
    (b7 : PySem.W.nsIn K mainGlobals (Str.ofString "isinstance") = some none)
    (b8 : PySem.W.nsIn K mainGlobals (Str.ofString "len") = some none)
    (b9 : PySem.W.nsIn K mainGlobals (Str.ofString "list") = some none)
    (b10 : PySem.W.nsIn K mainGlobals (Str.ofString "max") = some none)
    (b11 : PySem.W.nsIn K mainGlobals (Str.ofString "min") = some none)
    (b12 : PySem.W.nsIn K mainGlobals (Str.ofString "range") = some none)
    (b13 : PySem.W.nsIn K mainGlobals (Str.ofString "sorted") = some none)
    (b14 : PySem.W.nsIn K mainGlobals (Str.ofString "tuple") = some none)
    {tk0 : Tok} (g0 : PySem.W.nsIn K mainGlobals (Str.ofString "MOST_BAGS") = some (some (.int 20 tk0)))
    : LawAt K mg bl gl T 40 fa := by
  have e := hfa.symm.trans (PySem.W.mg_of X G a40)
  cases e
  have F0 := fun_mk (st := top 4) l0 c0 k0
  have F1 := fun_mk (st := top 7) l1 c1 k1
  have F2 := fun_mk (st := top 8) l2 c2 k2
  have F3 := fun_mk (st := top 9) l3 c3 k3
  have F4 := fun_mk (st := top 10) l4 c4 k4
  have F5 := fun_mk (st := top 11) l5 c5 k5
  have F6 := fun_mk (st := top 12) l6 c6 k6
  have F7 := fun_mk (st := top 13) l7 c7 k7
  have F8 := fun_mk (st := top 15) l8 c8 k8
  have F9 := fun_mk (st := top 16) l9 c9 k9
  have F10 := fun_mk (st := top 17) l10 c10 k10
  have F11 := fun_mk (st := top 19) l11 c11 k11
  have F12 := fun_mk (st := top 20) l12 c12 k12
  have F13 := fun_mk (st := top 21) l13 c13 k13
  have F14 := fun_mk (st := top 22) l14 c14 k14
  have F15 := fun_mk (st := top 23) l15 c15 k15
  have F16 := fun_mk (st := top 24) l16 c16 k16
  have F17 := fun_mk (st := top 26) l17 c17 k17
  have F18 := fun_mk (st := top 27) l18 c18 k18
  have F19 := fun_mk (st := top 28) l19 c19 k19
  have F20 := fun_mk (st := top 29) l20 c20 k20
  have F21 := fun_mk (st := top 30) l21 c21 k21
  have F22 := fun_mk (st := top 31) l22 c22 k22
  have F23 := fun_mk (st := top 32) l23 c23 k23
  have F24 := fun_mk (st := top 34) l24 c24 k24
  have F25 := fun_mk (st := top 36) l25 c25 k25
  have F26 := fun_mk (st := top 37) l26 c26 k26
  have F27 := fun_mk (st := top 38) l27 c27 k27
  have F28 := fun_mk (st := top 39) l28 c28 k28
  have F29 := fun_mk (st := top 40) l29 c29 k29
  have F30 := fun_mk (st := top 41) l30 c30 k30
  have F31 := fun_mk (st := top 42) l31 c31 k31
  have F32 := fun_mk (st := top 43) l32 c32 k32
  have F33 := fun_mk (st := top 44) l33 c33 k33
  have F34 := fun_mk (st := top 45) l34 c34 k34
  have F35 := fun_mk (st := top 46) l35 c35 k35
  have F36 := fun_mk (st := top 47) l36 c36 k36
  have F37 := fun_mk (st := top 48) l37 c37 k37
  have F38 := fun_mk (st := top 49) l38 c38 k38
  have F39 := fun_mk (st := top 50) l39 c39 k39
  have F40 := fun_mk (st := top 51) l40 c40 k40
  refine ⟨⟨fun x hx => ?_, fun x d e => ?_, fun f d e => ?_, fun x id e => ?_⟩, d40, top 51, _, rfl, F40, fun s u => .of_eq rfl, s40, rfl, chk40⟩
  · simp only [bl, List.mem_cons, List.not_mem_nil, or_false] at hx
    rcases hx with rfl | rfl | rfl | rfl | rfl | rfl | rfl | rfl | rfl | rfl | rfl | rfl | rfl | rfl | rfl
    · exact PySem.W.mg_none_of X G b0
    · exact PySem.W.mg_none_of X G b1
    · exact PySem.W.mg_none_of X G b2
    · exact PySem.W.mg_none_of X G b3
    · exact PySem.W.mg_none_of X G b4
    · exact PySem.W.mg_none_of X G b5
    · exact PySem.W.mg_none_of X G b6
    · exact PySem.W.mg_none_of X G b7
    · exact PySem.W.mg_none_of X G b8
    · exact PySem.W.mg_none_of X G b9
    · exact PySem.W.mg_none_of X G b10
    · exact PySem.W.mg_none_of X G b11
    · exact PySem.W.mg_none_of X G b12
    · exact PySem.W.mg_none_of X G b13
    · exact PySem.W.mg_none_of X G b14
  · have h := gl_of e
    rcases h with ⟨rfl, rfl⟩
    · exact ⟨by decide +kernel, .int 20, .int 20 tk0, PySem.W.mg_of X G g0, ⟨tk0, rfl⟩, fun H => .int⟩
  · match f, e with
    | 0, e => cases (show some d0 = some d from e); exact ⟨⟨top 4, _, _, [(Str.ofString "numbers")], F0, PySem.W.mg_of X G a0, F0.binds (ps := [(Str.ofString "numbers")]) fun _ _ _ _ _ _ us hl => match us, hl with | [_], _ => rfl, s0, rfl, chk0⟩, by decide, by decide, by decide +kernel, by decide +kernel⟩
    | 1, e => cases (show some d1 = some d from e); exact ⟨⟨top 7, _, _, [(Str.ofString "n"), (Str.ofString "bag")], F1, PySem.W.mg_of X G a1, F1.binds (ps := [(Str.ofString "n"), (Str.ofString "bag")]) fun _ _ _ _ _ _ us hl => match us, hl with | [_, _], _ => rfl, s1, rfl, chk1⟩, by decide, by decide, by decide +kernel, by decide +kernel⟩
    | 2, e => cases (show some d2 = some d from e); exact ⟨⟨top 8, _, _, [(Str.ofString "n"), (Str.ofString "bags"), (Str.ofString "uppers")], F2, PySem.W.mg_of X G a2, F2.binds (ps := [(Str.ofString "n"), (Str.ofString "bags"), (Str.ofString "uppers")]) fun _ _ _ _ _ _ us hl => match us, hl with | [_, _, _], _ => rfl, s2, rfl, chk2⟩, by decide, by decide, by decide +kernel, by decide +kernel⟩
    | 3, e => cases (show some d3 = some d from e); exact ⟨⟨top 9, _, _, [(Str.ofString "bags"), (Str.ofString "uppers"), (Str.ofString "place")], F3, PySem.W.mg_of X G a3, F3.binds (ps := [(Str.ofString "bags"), (Str.ofString "uppers"), (Str.ofString "place")]) fun _ _ _ _ _ _ us hl => match us, hl with | [_, _, _], _ => rfl, s3, rfl, chk3⟩, by decide, by decide, by decide +kernel, by decide +kernel⟩
    | 4, e => cases (show some d4 = some d from e); exact ⟨⟨top 10, _, _, [(Str.ofString "n"), (Str.ofString "ties"), (Str.ofString "bags"), (Str.ofString "uppers")], F4, PySem.W.mg_of X G a4, F4.binds (ps := [(Str.ofString "n"), (Str.ofString "ties"), (Str.ofString "bags"), (Str.ofString "uppers")]) fun _ _ _ _ _ _ us hl => match us, hl with | [_, _, _, _], _ => rfl, s4, rfl, chk4⟩, by decide, by decide, by decide +kernel, by decide +kernel⟩
    | 5, e => cases (show some d5 = some d from e); exact ⟨⟨top 11, _, _, [(Str.ofString "n"), (Str.ofString "ties"), (Str.ofString "bags"), (Str.ofString "uppers")], F5, PySem.W.mg_of X G a5, F5.binds (ps := [(Str.ofString "n"), (Str.ofString "ties"), (Str.ofString "bags"), (Str.ofString "uppers")]) fun _ _ _ _ _ _ us hl => match us, hl with | [_, _, _, _], _ => rfl, s5, rfl, chk5⟩, by decide, by decide, by decide +kernel, by decide +kernel⟩
    | 6, e => cases (show some d6 = some d from e); exact ⟨⟨top 12, _, _, [(Str.ofString "bags")], F6, PySem.W.mg_of X G a6, F6.binds (ps := [(Str.ofString "bags")]) fun _ _ _ _ _ _ us hl => match us, hl with | [_], _ => rfl, s6, rfl, chk6⟩, by decide, by decide, by decide +kernel, by decide +kernel⟩
    | 7, e => cases (show some d7 = some d from e); exact ⟨⟨top 13, _, _, [(Str.ofString "n"), (Str.ofString "ties"), (Str.ofString "order")], F7, PySem.W.mg_of X G a7, F7.binds (ps := [(Str.ofString "n"), (Str.ofString "ties"), (Str.ofString "order")]) fun _ _ _ _ _ _ us hl => match us, hl with | [_, _, _], _ => rfl, s7, rfl, chk7⟩, by decide, by decide, by decide +kernel, by decide +kernel⟩
    | 8, e => cases (show some d8 = some d from e); exact ⟨⟨top 15, _, _, [(Str.ofString "i"), (Str.ofString "j")], F8, PySem.W.mg_of X G a8, F8.binds (ps := [(Str.ofString "i"), (Str.ofString "j")]) fun _ _ _ _ _ _ us hl => match us, hl with | [_, _], _ => rfl, s8, rfl, chk8⟩, by decide, by decide, by decide +kernel, by decide +kernel⟩
    | 9, e => cases (show some d9 = some d from e); exact ⟨⟨top 16, _, _, [(Str.ofString "ties"), (Str.ofString "i"), (Str.ofString "j")], F9, PySem.W.mg_of X G a9, F9.binds (ps := [(Str.ofString "ties"), (Str.ofString "i"), (Str.ofString "j")]) fun _ _ _ _ _ _ us hl => match us, hl with | [_, _, _], _ => rfl, s9, rfl, chk9⟩, by decide, by decide, by decide +kernel, by decide +kernel⟩
    | 10, e => cases (show some d10 = some d from e); exact ⟨⟨top 17, _, _, [(Str.ofString "n"), (Str.ofString "ties"), (Str.ofString "i")], F10, PySem.W.mg_of X G a10, F10.binds (ps := [(Str.ofString "n"), (Str.ofString "ties"), (Str.ofString "i")]) fun _ _ _ _ _ _ us hl => match us, hl with | [_, _, _], _ => rfl, s10, rfl, chk10⟩, by decide, by decide, by decide +kernel, by decide +kernel⟩
    | 11, e => cases (show some d11 = some d from e); exact ⟨⟨top 19, _, _, [(Str.ofString "n"), (Str.ofString "ties"), (Str.ofString "order")], F11, PySem.W.mg_of X G a11, F11.binds (ps := [(Str.ofString "n"), (Str.ofString "ties"), (Str.ofString "order")]) fun _ _ _ _ _ _ us hl => match us, hl with | [_, _, _], _ => rfl, s11, rfl, chk11⟩, by decide, by decide, by decide +kernel, by decide +kernel⟩
    | 12, e => cases (show some d12 = some d from e); exact ⟨⟨top 20, _, _, [(Str.ofString "number"), (Str.ofString "place")], F12, PySem.W.mg_of X G a12, F12.binds (ps := [(Str.ofString "number"), (Str.ofString "place")]) fun _ _ _ _ _ _ us hl => match us, hl with | [_, _], _ => rfl, s12, rfl, chk12⟩, by decide, by decide, by decide +kernel, by decide +kernel⟩
    | 13, e => cases (show some d13 = some d from e); exact ⟨⟨top 21, _, _, [(Str.ofString "n"), (Str.ofString "ties")], F13, PySem.W.mg_of X G a13, F13.binds (ps := [(Str.ofString "n"), (Str.ofString "ties")]) fun _ _ _ _ _ _ us hl => match us, hl with | [_, _], _ => rfl, s13, rfl, chk13⟩, by decide, by decide, by decide +kernel, by decide +kernel⟩
    | 14, e => cases (show some d14 = some d from e); exact ⟨⟨top 22, _, _, [(Str.ofString "near"), (Str.ofString "gone"), (Str.ofString "place")], F14, PySem.W.mg_of X G a14, F14.binds (ps := [(Str.ofString "near"), (Str.ofString "gone"), (Str.ofString "place")]) fun _ _ _ _ _ _ us hl => match us, hl with | [_, _, _], _ => rfl, s14, rfl, chk14⟩, by decide, by decide, by decide +kernel, by decide +kernel⟩
    | 15, e => cases (show some d15 = some d from e); exact ⟨⟨top 23, _, _, [(Str.ofString "n"), (Str.ofString "near")], F15, PySem.W.mg_of X G a15, F15.binds (ps := [(Str.ofString "n"), (Str.ofString "near")]) fun _ _ _ _ _ _ us hl => match us, hl with | [_, _], _ => rfl, s15, rfl, chk15⟩, by decide, by decide, by decide +kernel, by decide +kernel⟩
    | 16, e => cases (show some d16 = some d from e); exact ⟨⟨top 24, _, _, [(Str.ofString "n"), (Str.ofString "ties")], F16, PySem.W.mg_of X G a16, F16.binds (ps := [(Str.ofString "n"), (Str.ofString "ties")]) fun _ _ _ _ _ _ us hl => match us, hl with | [_, _], _ => rfl, s16, rfl, chk16⟩, by decide, by decide, by decide +kernel, by decide +kernel⟩
    | 17, e => cases (show some d17 = some d from e); exact ⟨⟨top 26, _, _, [(Str.ofString "near"), (Str.ofString "ahead")], F17, PySem.W.mg_of X G a17, F17.binds (ps := [(Str.ofString "near"), (Str.ofString "ahead")]) fun _ _ _ _ _ _ us hl => match us, hl with | [_, _], _ => rfl, s17, rfl, chk17⟩, by decide, by decide, by decide +kernel, by decide +kernel⟩
    | 18, e => cases (show some d18 = some d from e); exact ⟨⟨top 27, _, _, [(Str.ofString "n"), (Str.ofString "ties"), (Str.ofString "order")], F18, PySem.W.mg_of X G a18, F18.binds (ps := [(Str.ofString "n"), (Str.ofString "ties"), (Str.ofString "order")]) fun _ _ _ _ _ _ us hl => match us, hl with | [_, _, _], _ => rfl, s18, rfl, chk18⟩, by decide, by decide, by decide +kernel, by decide +kernel⟩
    | 19, e => cases (show some d19 = some d from e); exact ⟨⟨top 28, _, _, [(Str.ofString "n"), (Str.ofString "near")], F19, PySem.W.mg_of X G a19, F19.binds (ps := [(Str.ofString "n"), (Str.ofString "near")]) fun _ _ _ _ _ _ us hl => match us, hl with | [_, _], _ => rfl, s19, rfl, chk19⟩, by decide, by decide, by decide +kernel, by decide +kernel⟩
    | 20, e => cases (show some d20 = some d from e); exact ⟨⟨top 29, _, _, [(Str.ofString "n"), (Str.ofString "ties")], F20, PySem.W.mg_of X G a20, F20.binds (ps := [(Str.ofString "n"), (Str.ofString "ties")]) fun _ _ _ _ _ _ us hl => match us, hl with | [_, _], _ => rfl, s20, rfl, chk20⟩, by decide, by decide, by decide +kernel, by decide +kernel⟩
    | 21, e => cases (show some d21 = some d from e); exact ⟨⟨top 30, _, _, [(Str.ofString "n"), (Str.ofString "ties")], F21, PySem.W.mg_of X G a21, F21.binds (ps := [(Str.ofString "n"), (Str.ofString "ties")]) fun _ _ _ _ _ _ us hl => match us, hl with | [_, _], _ => rfl, s21, rfl, chk21⟩, by decide, by decide, by decide +kernel, by decide +kernel⟩
    | 22, e => cases (show some d22 = some d from e); exact ⟨⟨top 31, _, _, [(Str.ofString "near"), (Str.ofString "order"), (Str.ofString "at")], F22, PySem.W.mg_of X G a22, F22.binds (ps := [(Str.ofString "near"), (Str.ofString "order"), (Str.ofString "at")]) fun _ _ _ _ _ _ us hl => match us, hl with | [_, _, _], _ => rfl, s22, rfl, chk22⟩, by decide, by decide, by decide +kernel, by decide +kernel⟩
    | 23, e => cases (show some d23 = some d from e); exact ⟨⟨top 32, _, _, [(Str.ofString "n"), (Str.ofString "ties")], F23, PySem.W.mg_of X G a23, F23.binds (ps := [(Str.ofString "n"), (Str.ofString "ties")]) fun _ _ _ _ _ _ us hl => match us, hl with | [_, _], _ => rfl, s23, rfl, chk23⟩, by decide, by decide, by decide +kernel, by decide +kernel⟩
    | 24, e => cases (show some d24 = some d from e); exact ⟨⟨top 34, _, _, [(Str.ofString "n"), (Str.ofString "ties")], F24, PySem.W.mg_of X G a24, F24.binds (ps := [(Str.ofString "n"), (Str.ofString "ties")]) fun _ _ _ _ _ _ us hl => match us, hl with | [_, _], _ => rfl, s24, rfl, chk24⟩, by decide, by decide, by decide +kernel, by decide +kernel⟩
    | 25, e => cases (show some d25 = some d from e); exact ⟨⟨top 36, _, _, [(Str.ofString "script")], F25, PySem.W.mg_of X G a25, F25.binds (ps := [(Str.ofString "script")]) fun _ _ _ _ _ _ us hl => match us, hl with | [_], _ => rfl, s25, rfl, chk25⟩, by decide, by decide, by decide +kernel, by decide +kernel⟩
    | 26, e => cases (show some d26 = some d from e); exact ⟨⟨top 37, _, _, [(Str.ofString "feed"), (Str.ofString "many")], F26, PySem.W.mg_of X G a26, F26.binds (ps := [(Str.ofString "feed"), (Str.ofString "many")]) fun _ _ _ _ _ _ us hl => match us, hl with | [_, _], _ => rfl, s26, rfl, chk26⟩, by decide, by decide, by decide +kernel, by decide +kernel⟩
    | 27, e => cases (show some d27 = some d from e); exact ⟨⟨top 38, _, _, [(Str.ofString "x")], F27, PySem.W.mg_of X G a27, F27.binds (ps := [(Str.ofString "x")]) fun _ _ _ _ _ _ us hl => match us, hl with | [_], _ => rfl, s27, rfl, chk27⟩, by decide, by decide, by decide +kernel, by decide +kernel⟩
    | 28, e => cases (show some d28 = some d from e); exact ⟨⟨top 39, _, _, [(Str.ofString "x"), (Str.ofString "n")], F28, PySem.W.mg_of X G a28, F28.binds (ps := [(Str.ofString "x"), (Str.ofString "n")]) fun _ _ _ _ _ _ us hl => match us, hl with | [_, _], _ => rfl, s28, rfl, chk28⟩, by decide, by decide, by decide +kernel, by decide +kernel⟩
    | 29, e => cases (show some d29 = some d from e); exact ⟨⟨top 40, _, _, [(Str.ofString "n")], F29, PySem.W.mg_of X G a29, F29.binds (ps := [(Str.ofString "n")]) fun _ _ _ _ _ _ us hl => match us, hl with | [_], _ => rfl, s29, rfl, chk29⟩, by decide, by decide, by decide +kernel, by decide +kernel⟩
    | 30, e => cases (show some d30 = some d from e); exact ⟨⟨top 41, _, _, [(Str.ofString "feed"), (Str.ofString "n")], F30, PySem.W.mg_of X G a30, F30.binds (ps := [(Str.ofString "feed"), (Str.ofString "n")]) fun _ _ _ _ _ _ us hl => match us, hl with | [_, _], _ => rfl, s30, rfl, chk30⟩, by decide, by decide, by decide +kernel, by decide +kernel⟩
    | 31, e => cases (show some d31 = some d from e); exact ⟨⟨top 42, _, _, [(Str.ofString "ties"), (Str.ofString "i"), (Str.ofString "j")], F31, PySem.W.mg_of X G a31, F31.binds (ps := [(Str.ofString "ties"), (Str.ofString "i"), (Str.ofString "j")]) fun _ _ _ _ _ _ us hl => match us, hl with | [_, _, _], _ => rfl, s31, rfl, chk31⟩, by decide, by decide, by decide +kernel, by decide +kernel⟩
    | 32, e => cases (show some d32 = some d from e); exact ⟨⟨top 43, _, _, [(Str.ofString "n"), (Str.ofString "ties")], F32, PySem.W.mg_of X G a32, F32.binds (ps := [(Str.ofString "n"), (Str.ofString "ties")]) fun _ _ _ _ _ _ us hl => match us, hl with | [_, _], _ => rfl, s32, rfl, chk32⟩, by decide, by decide, by decide +kernel, by decide +kernel⟩
    | 33, e => cases (show some d33 = some d from e); exact ⟨⟨top 44, _, _, [(Str.ofString "feed"), (Str.ofString "n")], F33, PySem.W.mg_of X G a33, F33.binds (ps := [(Str.ofString "feed"), (Str.ofString "n")]) fun _ _ _ _ _ _ us hl => match us, hl with | [_, _], _ => rfl, s33, rfl, chk33⟩, by decide, by decide, by decide +kernel, by decide +kernel⟩
    | 34, e => cases (show some d34 = some d from e); exact ⟨⟨top 45, _, _, [(Str.ofString "near"), (Str.ofString "order")], F34, PySem.W.mg_of X G a34, F34.binds (ps := [(Str.ofString "near"), (Str.ofString "order")]) fun _ _ _ _ _ _ us hl => match us, hl with | [_, _], _ => rfl, s34, rfl, chk34⟩, by decide, by decide, by decide +kernel, by decide +kernel⟩
    | 35, e => cases (show some d35 = some d from e); exact ⟨⟨top 46, _, _, [(Str.ofString "n"), (Str.ofString "ties"), (Str.ofString "order")], F35, PySem.W.mg_of X G a35, F35.binds (ps := [(Str.ofString "n"), (Str.ofString "ties"), (Str.ofString "order")]) fun _ _ _ _ _ _ us hl => match us, hl with | [_, _, _], _ => rfl, s35, rfl, chk35⟩, by decide, by decide, by decide +kernel, by decide +kernel⟩
    | 36, e => cases (show some d36 = some d from e); exact ⟨⟨top 47, _, _, [(Str.ofString "n"), (Str.ofString "near")], F36, PySem.W.mg_of X G a36, F36.binds (ps := [(Str.ofString "n"), (Str.ofString "near")]) fun _ _ _ _ _ _ us hl => match us, hl with | [_, _], _ => rfl, s36, rfl, chk36⟩, by decide, by decide, by decide +kernel, by decide +kernel⟩
    | 37, e => cases (show some d37 = some d from e); exact ⟨⟨top 48, _, _, [(Str.ofString "n")], F37, PySem.W.mg_of X G a37, F37.binds (ps := [(Str.ofString "n")]) fun _ _ _ _ _ _ us hl => match us, hl with | [_], _ => rfl, s37, rfl, chk37⟩, by decide, by decide, by decide +kernel, by decide +kernel⟩
    | 38, e => cases (show some d38 = some d from e); exact ⟨⟨top 49, _, _, [(Str.ofString "near"), (Str.ofString "order")], F38, PySem.W.mg_of X G a38, F38.binds (ps := [(Str.ofString "near"), (Str.ofString "order")]) fun _ _ _ _ _ _ us hl => match us, hl with | [_, _], _ => rfl, s38, rfl, chk38⟩, by decide, by decide, by decide +kernel, by decide +kernel⟩
    | 39, e => cases (show some d39 = some d from e); exact ⟨⟨top 50, _, _, [(Str.ofString "feed"), (Str.ofString "n"), (Str.ofString "ties")], F39, PySem.W.mg_of X G a39, F39.binds (ps := [(Str.ofString "feed"), (Str.ofString "n"), (Str.ofString "ties")]) fun _ _ _ _ _ _ us hl => match us, hl with | [_, _, _], _ => rfl, s39, rfl, chk39⟩, by decide, by decide, by decide +kernel, by decide +kernel⟩
    | 40, e => cases (show some d40 = some d from e); exact ⟨⟨top 51, _, _, [(Str.ofString "script")], F40, PySem.W.mg_of X G a40, F40.binds (ps := [(Str.ofString "script")]) fun _ _ _ _ _ _ us hl => match us, hl with | [_], _ => rfl, s40, rfl, chk40⟩, by decide, by decide, by decide +kernel, by decide +kernel⟩
    | n + 41, e => cases (show none = some d from e)
  · cases e
end K49
open PySem PySem.W PyProof.Rows
set_option maxRecDepth 100000 in
set_option maxHeartbeats 0 in
theorem PySem.Challenge.cw_havenwebs_k49_whole_rows_of_bags_holds : PySem.Challenge.rw_havenwebs_k49_whole_rows_of_bags.Holds := by
  w_on; o_law; k_head; (case hw => w_witness2)
  k_fill
  refine VH.walk_vh (l := PySem.Challenge.rw_havenwebs_k49_whole_rows_of_bags) (n := 63) (k := 40) (f := 40) (T := K49.T) (bl := K49.bl) (gl := K49.gl) (mf := []) rfl (by decide) rfl ⟨rfl, by decide, by decide⟩ (fun w h Y => PySem.W.kIn_of Y) ?F (fun ns hl hb => K49.plain ns hl hb)
  case F =>
    intro w mg fa h KX G hmg
    refine' K49.at_mk KX G hmg ?a0 ?l0 ?c0 ?k0 ?a1 ?l1 ?c1 ?k1 ?a2 ?l2 ?c2 ?k2 ?a3 ?l3 ?c3 ?k3 ?a4 ?l4 ?c4 ?k4 ?a5 ?l5 ?c5 ?k5 ?a6 ?l6 ?c6 ?k6 ?a7 ?l7 ?c7 ?k7 ?a8 ?l8 ?c8 ?k8 ?a9 ?l9 ?c9 ?k9 ?a10 ?l10 ?c10 ?k10 ?a11 ?l11 ?c11 ?k11 ?a12 ?l12 ?c12 ?k12 ?a13 ?l13 ?c13 ?k13 ?a14 ?l14 ?c14 ?k14 ?a15 ?l15 ?c15 ?k15 ?a16 ?l16 ?c16 ?k16 ?a17 ?l17 ?c17 ?k17 ?a18 ?l18 ?c18 ?k18 ?a19 ?l19 ?c19 ?k19 ?a20 ?l20 ?c20 ?k20 ?a21 ?l21 ?c21 ?k21 ?a22 ?l22 ?c22 ?k22 ?a23 ?l23 ?c23 ?k23 ?a24 ?l24 ?c24 ?k24 ?a25 ?l25 ?c25 ?k25 ?a26 ?l26 ?c26 ?k26 ?a27 ?l27 ?c27 ?k27 ?a28 ?l28 ?c28 ?k28 ?a29 ?l29 ?c29 ?k29 ?a30 ?l30 ?c30 ?k30 ?a31 ?l31 ?c31 ?k31 ?a32 ?l32 ?c32 ?k32 ?a33 ?l33 ?c33 ?k33 ?a34 ?l34 ?c34 ?k34 ?a35 ?l35 ?c35 ?k35 ?a36 ?l36 ?c36 ?k36 ?a37 ?l37 ?c37 ?k37 ?a38 ?l38 ?c38 ?k38 ?a39 ?l39 ?c39 ?k39 ?a40 ?l40 ?c40 ?k40 ?b0 ?b1 ?b2 ?b3 ?b4 ?b5 ?b6 ?b7 ?b8 ?b9 ?b10 ?b11 ?b12 ?b13 ?b14 ?gcn0
    (case a0 => k_is)
    (case l0 => k_is)
    (case c0 => k_is)
    (case k0 => k_is)
    (case a1 => k_is)
    (case l1 => k_is)
    (case c1 => k_is)
    (case k1 => k_is)
    (case a2 => k_is)
    (case l2 => k_is)
    (case c2 => k_is)
    (case k2 => k_is)
    (case a3 => k_is)
    (case l3 => k_is)
    (case c3 => k_is)
    (case k3 => k_is)
    (case a4 => k_is)
    (case l4 => k_is)
    (case c4 => k_is)
    (case k4 => k_is)
    (case a5 => k_is)
    (case l5 => k_is)
    (case c5 => k_is)
    (case k5 => k_is)
    (case a6 => k_is)
    (case l6 => k_is)
    (case c6 => k_is)
    (case k6 => k_is)
    (case a7 => k_is)
    (case l7 => k_is)
    (case c7 => k_is)
    (case k7 => k_is)
    (case a8 => k_is)
    (case l8 => k_is)
    (case c8 => k_is)
    (case k8 => k_is)
    (case a9 => k_is)
    (case l9 => k_is)
    (case c9 => k_is)
    (case k9 => k_is)
    (case a10 => k_is)
    (case l10 => k_is)
    (case c10 => k_is)
    (case k10 => k_is)
    (case a11 => k_is)
    (case l11 => k_is)
    (case c11 => k_is)
    (case k11 => k_is)
    (case a12 => k_is)
    (case l12 => k_is)
    (case c12 => k_is)
    (case k12 => k_is)
    (case a13 => k_is)
    (case l13 => k_is)
    (case c13 => k_is)
    (case k13 => k_is)
    (case a14 => k_is)
    (case l14 => k_is)
    (case c14 => k_is)
    (case k14 => k_is)
    (case a15 => k_is)
    (case l15 => k_is)
    (case c15 => k_is)
    (case k15 => k_is)
    (case a16 => k_is)
    (case l16 => k_is)
    (case c16 => k_is)
    (case k16 => k_is)
    (case a17 => k_is)
    (case l17 => k_is)
    (case c17 => k_is)
    (case k17 => k_is)
    (case a18 => k_is)
    (case l18 => k_is)
    (case c18 => k_is)
    (case k18 => k_is)
    (case a19 => k_is)
    (case l19 => k_is)
    (case c19 => k_is)
    (case k19 => k_is)
    (case a20 => k_is)
    (case l20 => k_is)
    (case c20 => k_is)
    (case k20 => k_is)
    (case a21 => k_is)
    (case l21 => k_is)
    (case c21 => k_is)
    (case k21 => k_is)
    (case a22 => k_is)
    (case l22 => k_is)
    (case c22 => k_is)
    (case k22 => k_is)
    (case a23 => k_is)
    (case l23 => k_is)
    (case c23 => k_is)
    (case k23 => k_is)
    (case a24 => k_is)
    (case l24 => k_is)
    (case c24 => k_is)
    (case k24 => k_is)
    (case a25 => k_is)
    (case l25 => k_is)
    (case c25 => k_is)
    (case k25 => k_is)
    (case a26 => k_is)
    (case l26 => k_is)
    (case c26 => k_is)
    (case k26 => k_is)
    (case a27 => k_is)
    (case l27 => k_is)
    (case c27 => k_is)
    (case k27 => k_is)
    (case a28 => k_is)
    (case l28 => k_is)
    (case c28 => k_is)
    (case k28 => k_is)
    (case a29 => k_is)
    (case l29 => k_is)
    (case c29 => k_is)
    (case k29 => k_is)
    (case a30 => k_is)
    (case l30 => k_is)
    (case c30 => k_is)
    (case k30 => k_is)
    (case a31 => k_is)
    (case l31 => k_is)
    (case c31 => k_is)
    (case k31 => k_is)
    (case a32 => k_is)
    (case l32 => k_is)
    (case c32 => k_is)
    (case k32 => k_is)
    (case a33 => k_is)
    (case l33 => k_is)
    (case c33 => k_is)
    (case k33 => k_is)
    (case a34 => k_is)
    (case l34 => k_is)
    (case c34 => k_is)
    (case k34 => k_is)
    (case a35 => k_is)
    (case l35 => k_is)
    (case c35 => k_is)
    (case k35 => k_is)
    (case a36 => k_is)
    (case l36 => k_is)
    (case c36 => k_is)
    (case k36 => k_is)
    (case a37 => k_is)
    (case l37 => k_is)
    (case c37 => k_is)
    (case k37 => k_is)
    (case a38 => k_is)
    (case l38 => k_is)
    (case c38 => k_is)
    (case k38 => k_is)
    (case a39 => k_is)
    (case l39 => k_is)
    (case c39 => k_is)
    (case k39 => k_is)
    (case a40 => k_is)
    (case l40 => k_is)
    (case c40 => k_is)
    (case k40 => k_is)
    (case b0 => k_is)
    (case b1 => k_is)
    (case b2 => k_is)
    (case b3 => k_is)
    (case b4 => k_is)
    (case b5 => k_is)
    (case b6 => k_is)
    (case b7 => k_is)
    (case b8 => k_is)
    (case b9 => k_is)
    (case b10 => k_is)
    (case b11 => k_is)
    (case b12 => k_is)
    (case b13 => k_is)
    (case b14 => k_is)
    (case gcn0 => k_is)
