import PyProof.Rows.All
import Wide.All
import OpenK.AllK
import Wide.FinOn
import PyProof.EqAt
import PyProof.EqKinds
import PyProof.TupleCall
import HandS.Base
import HandS.Call
import HandS.List
import HandS.Comp
import HandS.Dict
import HandS.Iter
import HandS.Text
import HandS.More
import HandS.Exc
import HandS.Ends
import HandS.Words
import HandS.WordsList
import HandS.WordsExc
import HandS.Defaults
import HandS.TupAny
import HandS.Conv
import HandS.Style
import HandS.Zip
import HandS.TupMul
import HandS.TupSets
import HandS.SortInts
import HandS.Star
import HandS.CallSlots
import HandS.TupLe
import HandS.IsInst
import HandS.Deep
import KE.GoesZip
import KE.GoesMore
import KE.KDictZip
import KE.KStateDown
import Lean
import HandS.Head0
import HandS.Head1
import HandS.Head2
import HandS.HeadEnd
import HandS.HeadHook1
import HandS.HeadHook2
import PySem.Challenge.RW_tornreads_k75_readers_by_names_and_again
set_option Elab.async false
set_option linter.all false
set_option maxRecDepth 100000

set_option maxHeartbeats 0
/-! V1: data in the heap: shared data, owned data, the relation of an environment of data with the slots and the heap. -/
namespace TV
open PySem L2
abbrev D := PyData
abbrev Env := List (Option D)
/-- the shape of a slot's value: s shared data; l an owned list of such; r an owned dict with these keys, true: an owned list of shared data; z the script -/
inductive Sh where
  | s | l (e : Sh) | r (ks : List (Str × Bool)) | z
  deriving DecidableEq, Inhabited
def kD : Key → D
  | .inl i => .int i
  | .inr x => .str x
def kT (ks : List Key) : D := .tuple (ks.map kD)
mutual
/-- shared data -/
inductive Dv (K : PySem.W.Frag) (B : Hp) : V → D → Prop where
  | non : Dv K B .non .none
  | bl (b : Bool) : Dv K B (.bl b) (.bool b)
  | int (i : Int) : Dv K B (.int i) (.int i)
  | str (x : Str) : Dv K B (.str x) (.str x)
  | lst {a : Addr} {xs : List V} {ds : List D} : B a = some (.lst xs) → DvAll K B xs ds → Dv K B (.ref a) (.list ds)
  | tup {a : Addr} {xs : List V} {ds : List D} : SqT K B a xs → DvAll K B xs ds → Dv K B (.ref a) (.tuple ds)
  | dk {a : Addr} {kvs : List (Key × V)} {ds : List D} : B a = some (.dK kvs) → DvAll K B (kvs.map (·.2)) ds → Dv K B (.ref a) (.dict ((kvs.map fun q => kD q.1).zip ds))
  | dt {a : Addr} {kvs : List (List Key × V)} {ds : List D} : B a = some (.dT kvs) → DvAll K B (kvs.map (·.2)) ds → Dv K B (.ref a) (.dict ((kvs.map fun q => kT q.1).zip ds))
inductive DvAll (K : PySem.W.Frag) (B : Hp) : List V → List D → Prop where
  | nil : DvAll K B [] []
  | cons {v : V} {vs : List V} {d : D} {ds : List D} : Dv K B v d → DvAll K B vs ds → DvAll K B (v :: vs) (d :: ds)
end
theorem Le.tup {K : PySem.W.Frag} {B B' : Hp} {a : Addr} {xs : List V} (e : Same B B') (h : SqT K B a xs) : SqT K B' a xs := by
  rcases h with (h | ⟨o, h⟩) | h
  · exact .inl (.inl (e _ _ h))
  · exact .inl (.inr ⟨o, e _ _ h⟩)
  · exact .inr h
mutual
theorem Dv.mono {K : PySem.W.Frag} {B B' : Hp} (e : Same B B') : ∀ {v : V} {d : D}, Dv K B v d → Dv K B' v d
  | _, _, .non => .non
  | _, _, .bl b => .bl b
  | _, _, .int i => .int i
  | _, _, .str x => .str x
  | _, _, .lst h t => .lst (e _ _ h) (DvAll.mono e t)
  | _, _, .tup h t => .tup (Le.tup e h) (DvAll.mono e t)
  | _, _, .dk h t => .dk (e _ _ h) (DvAll.mono e t)
  | _, _, .dt h t => .dt (e _ _ h) (DvAll.mono e t)
theorem DvAll.mono {K : PySem.W.Frag} {B B' : Hp} (e : Same B B') : ∀ {vs : List V} {ds : List D}, DvAll K B vs ds → DvAll K B' vs ds
  | _, _, .nil => .nil
  | _, _, .cons h t => .cons (Dv.mono e h) (DvAll.mono e t)
end
section
variable {K : PySem.W.Frag} {B B' G G' H H' : Hp}
theorem DvAll.length : ∀ {vs : List V} {ds : List D}, DvAll K B vs ds → vs.length = ds.length
  | _, _, .nil => rfl
  | _, _, .cons _ t => congrArg (· + 1) (DvAll.length t)
theorem DvAll.get : ∀ {vs : List V} {ds : List D} {i : Nat} {d : D}, DvAll K B vs ds → ds[i]? = some d → ∃ v, vs[i]? = some v ∧ Dv K B v d
  | _, _, _, _, .nil, e => by simp at e
  | _, _, 0, _, .cons h _, e => by simp at e; subst e; exact ⟨_, rfl, h⟩
  | _, _, i + 1, d, .cons _ t, e => by
    obtain ⟨v, h1, h2⟩ := DvAll.get (i := i) (d := d) t (by simpa using e)
    exact ⟨v, by simpa using h1, h2⟩
theorem DvAll.get' : ∀ {vs : List V} {ds : List D} {i : Nat} {v : V}, DvAll K B vs ds → vs[i]? = some v → ∃ d, ds[i]? = some d ∧ Dv K B v d
  | _, _, _, _, .nil, e => by simp at e
  | _, _, 0, _, .cons h _, e => by simp at e; subst e; exact ⟨_, rfl, h⟩
  | _, _, i + 1, v, .cons _ t, e => by
    obtain ⟨d, h1, h2⟩ := DvAll.get' (i := i) (v := v) t (by simpa using e)
    exact ⟨d, by simpa using h1, h2⟩
theorem DvAll.append : ∀ {vs us : List V} {ds es : List D}, DvAll K B vs ds → DvAll K B us es → DvAll K B (vs ++ us) (ds ++ es)
  | _, _, _, _, .nil, s => s
  | _, _, _, _, .cons r t, s => .cons r (DvAll.append t s)
theorem DvAll.take : ∀ {vs : List V} {ds : List D} (n : Nat), DvAll K B vs ds → DvAll K B (vs.take n) (ds.take n)
  | _, _, 0, _ => .nil
  | _, _, _ + 1, .nil => .nil
  | _, _, n + 1, .cons r t => .cons r (DvAll.take n t)
theorem DvAll.drop : ∀ {vs : List V} {ds : List D} (n : Nat), DvAll K B vs ds → DvAll K B (vs.drop n) (ds.drop n)
  | _, _, 0, r => r
  | _, _, _ + 1, .nil => .nil
  | _, _, n + 1, .cons _ t => DvAll.drop n t
theorem DvAll.reverse {vs : List V} {ds : List D} (h : DvAll K B vs ds) : DvAll K B vs.reverse ds.reverse := by
  induction vs generalizing ds with
  | nil => cases h; exact .nil
  | cons v vs ih =>
    cases h with
    | cons h t =>
      simp only [List.reverse_cons]
      exact DvAll.append (ih t) (.cons h .nil)
theorem DvAll.set {v : V} {d : D} (r : Dv K B v d) : ∀ {vs : List V} {ds : List D} (i : Nat), DvAll K B vs ds → DvAll K B (vs.set i v) (ds.set i d)
  | _, _, _, .nil => .nil
  | _, _, 0, .cons _ t => .cons r t
  | _, _, i + 1, .cons q t => .cons q (DvAll.set r i t)
theorem DvAll.eraseIdx : ∀ {vs : List V} {ds : List D} (i : Nat), DvAll K B vs ds → DvAll K B (vs.eraseIdx i) (ds.eraseIdx i)
  | _, _, _, .nil => .nil
  | _, _, 0, .cons _ t => t
  | _, _, i + 1, .cons q t => .cons q (DvAll.eraseIdx i t)
theorem DvAll.dropLast {vs : List V} {ds : List D} (h : DvAll K B vs ds) : DvAll K B vs.dropLast ds.dropLast := by
  rw [List.dropLast_eq_take, List.dropLast_eq_take, h.length]
  exact h.take _
/-- a dict's rows -/
inductive OwD (K : PySem.W.Frag) (B : Hp) : List (Key × V) → List (D × D) → Prop where
  | nil : OwD K B [] []
  | cons {k : Key} {v : V} {d : D} {kvs : List (Key × V)} {ps : List (D × D)} : Dv K B v d → OwD K B kvs ps → OwD K B ((k, v) :: kvs) ((kD k, d) :: ps)
theorem OwD.mono (e : Same B B') {kvs : List (Key × V)} {ps : List (D × D)} (h : OwD K B kvs ps) : OwD K B' kvs ps := by
  induction h with
  | nil => exact .nil
  | cons h _ ih => exact .cons (h.mono e) ih
theorem OwD.length {kvs : List (Key × V)} {ps : List (D × D)} (h : OwD K B kvs ps) : kvs.length = ps.length := by
  induction h with
  | nil => rfl
  | cons h _ ih => simp [ih]
mutual
/-- owned data, with the addresses that are owned -/
inductive Ow (K : PySem.W.Frag) (B G H : Hp) : Sh → D → V → List Addr → Prop where
  | s {d : D} {v : V} : Dv K B v d → Ow K B G H .s d v []
  | z {ds : List D} {a : Addr} {vs : List V} : SqL K G a vs → DvAll K B vs ds → Ow K B G H .z (.list ds) (.ref a) []
  | l {e : Sh} {ds : List D} {a : Addr} {vs : List V} {as : List Addr} : H a = some (.lst vs) → Ows K B G H e ds vs as → Ow K B G H (.l e) (.list ds) (.ref a) (a :: as)
  | r {ks : List (Str × Bool)} {ds : List D} {a : Addr} {kvs : List (Key × V)} {as : List Addr} : H a = some (.dK kvs) → OwF K B G H ks ds kvs as → Ow K B G H (.r ks) (.tuple ds) (.ref a) (a :: as)
  | d {ps : List (D × D)} {a : Addr} {kvs : List (Key × V)} : H a = some (.dK kvs) → OwD K B kvs ps → Ow K B G H (.r []) (.dict ps) (.ref a) [a]
inductive Ows (K : PySem.W.Frag) (B G H : Hp) : Sh → List D → List V → List Addr → Prop where
  | nil {e : Sh} : Ows K B G H e [] [] []
  | cons {e : Sh} {d : D} {ds : List D} {v : V} {vs : List V} {as bs : List Addr} : Ow K B G H e d v as → Ows K B G H e ds vs bs → Ows K B G H e (d :: ds) (v :: vs) (as ++ bs)
inductive OwF (K : PySem.W.Frag) (B G H : Hp) : List (Str × Bool) → List D → List (Key × V) → List Addr → Prop where
  | nil : OwF K B G H [] [] [] []
  | cons {k : Str} {b : Bool} {ks : List (Str × Bool)} {d : D} {ds : List D} {v : V} {vs : List (Key × V)} {as bs : List Addr} : Ow K B G H (if b then .l .s else .s) d v as → OwF K B G H ks ds vs bs → OwF K B G H ((k, b) :: ks) (d :: ds) ((.inr k, v) :: vs) (as ++ bs)
end
theorem SqL.le {a : Addr} {xs : List V} (e : Same B B') (h : SqL K B a xs) : SqL K B' a xs := Same.seq e h
mutual
theorem Ow.mono (e : Same B B') (g : Same G G') : ∀ {s : Sh} {d : D} {v : V} {as : List Addr}, (∀ a ∈ as, ∀ o, H a = some o → H' a = some o) → Ow K B G H s d v as → Ow K B' G' H' s d v as
  | _, _, _, _, _, .s h => .s (h.mono e)
  | _, _, _, _, _, .z h t => .z (Same.seq g h) (t.mono e)
  | _, _, _, _, k, .l h t => .l (k _ List.mem_cons_self _ h) (Ows.mono e g (fun a ha => k a (List.mem_cons_of_mem _ ha)) t)
  | _, _, _, _, k, .r h t => .r (k _ List.mem_cons_self _ h) (OwF.mono e g (fun a ha => k a (List.mem_cons_of_mem _ ha)) t)
  | _, _, _, _, k, .d h t => .d (k _ List.mem_cons_self _ h) (t.mono e)
theorem Ows.mono (e : Same B B') (g : Same G G') : ∀ {s : Sh} {d : List D} {v : List V} {as : List Addr}, (∀ a ∈ as, ∀ o, H a = some o → H' a = some o) → Ows K B G H s d v as → Ows K B' G' H' s d v as
  | _, _, _, _, _, .nil => .nil
  | _, _, _, _, k, .cons h t => .cons (Ow.mono e g (fun a ha => k a (List.mem_append_left _ ha)) h) (Ows.mono e g (fun a ha => k a (List.mem_append_right _ ha)) t)
theorem OwF.mono (e : Same B B') (g : Same G G') : ∀ {s : List (Str × Bool)} {d : List D} {v : List (Key × V)} {as : List Addr}, (∀ a ∈ as, ∀ o, H a = some o → H' a = some o) → OwF K B G H s d v as → OwF K B' G' H' s d v as
  | _, _, _, _, _, .nil => .nil
  | _, _, _, _, k, .cons h t => .cons (Ow.mono e g (fun a ha => k a (List.mem_append_left _ ha)) h) (OwF.mono e g (fun a ha => k a (List.mem_append_right _ ha)) t)
end
/-- B with what H has at as -/
def ovr (B H : Hp) (as : List Addr) : Hp := fun a => if a ∈ as then H a else B a
theorem ovr_in {as : List Addr} {a : Addr} (h : a ∈ as) : ovr B H as a = H a := if_pos h
theorem ovr_out {as : List Addr} {a : Addr} (h : a ∉ as) : ovr B H as a = B a := if_neg h
theorem same_ovr {as : List Addr} (h : ∀ a ∈ as, B a = none) : Same B (ovr B H as) := fun a o e => by
  rw [ovr_out fun ha => by rw [h a ha] at e; cases e]; exact e
theorem ovr_le {as : List Addr} (h : Same B H) : Same (ovr B H as) H := fun a o e => by
  by_cases ha : a ∈ as
  · rw [ovr_in ha] at e; exact e
  · rw [ovr_out ha] at e; exact h a o e
theorem ovr_mono {as : List Addr} (h : Same B G) : Same (ovr B H as) (ovr G H as) := fun a o e => by
  by_cases ha : a ∈ as
  · rw [ovr_in ha] at e ⊢; exact e
  · rw [ovr_out ha] at e ⊢; exact h a o e
mutual
theorem Ow.inH : ∀ {s : Sh} {d : D} {v : V} {as : List Addr}, Ow K B G H s d v as → ∀ a ∈ as, ∃ o, H a = some o
  | _, _, _, _, .s _, a, ha => by cases ha
  | _, _, _, _, .z _ _, a, ha => by cases ha
  | _, _, _, _, .l h t, a, ha => by
    rcases List.mem_cons.mp ha with e | ha
    · exact ⟨_, by rw [e]; exact h⟩
    · exact Ows.inH t a ha
  | _, _, _, _, .r h t, a, ha => by
    rcases List.mem_cons.mp ha with e | ha
    · exact ⟨_, by rw [e]; exact h⟩
    · exact OwF.inH t a ha
  | _, _, _, _, .d h t, a, ha => by
    exact ⟨_, (congrArg H (List.mem_singleton.mp ha)).trans h⟩
theorem Ows.inH : ∀ {s : Sh} {d : List D} {v : List V} {as : List Addr}, Ows K B G H s d v as → ∀ a ∈ as, ∃ o, H a = some o
  | _, _, _, _, .nil, a, ha => by cases ha
  | _, _, _, _, .cons h t, a, ha => (List.mem_append.mp ha).elim (Ow.inH h a) (Ows.inH t a)
theorem OwF.inH : ∀ {s : List (Str × Bool)} {d : List D} {v : List (Key × V)} {as : List Addr}, OwF K B G H s d v as → ∀ a ∈ as, ∃ o, H a = some o
  | _, _, _, _, .nil, a, ha => by cases ha
  | _, _, _, _, .cons h t, a, ha => (List.mem_append.mp ha).elim (Ow.inH h a) (OwF.inH t a)
end
theorem Ows.all : ∀ {ds : List D} {vs : List V} {as : List Addr}, Ows K B G H .s ds vs as → DvAll K B vs ds ∧ as = []
  | _, _, _, .nil => ⟨.nil, rfl⟩
  | _, _, _, .cons h t => by
    cases h with
    | s h =>
      obtain ⟨h1, h2⟩ := Ows.all t
      subst h2
      exact ⟨.cons h h1, rfl⟩
theorem Ows.of : ∀ {ds : List D} {vs : List V}, DvAll K B vs ds → Ows K B G H .s ds vs []
  | _, _, .nil => .nil
  | _, _, .cons h t => Ows.cons (as := []) (bs := []) (.s h) (Ows.of t)
/-- an owned list of shared data is let go: it is shared from now on -/
theorem Ow.shareL {ds : List D} {v : V} {as : List Addr} (h : Ow K B G H (.l .s) (.list ds) v as) (n : ∀ a ∈ as, B a = none) : Dv K (ovr B H as) v (.list ds) := by
  cases h with
  | l h t =>
    obtain ⟨h1, rfl⟩ := t.all
    refine .lst ((ovr_in (by simp)).trans h) (h1.mono (same_ovr n))
/-- what can be shared -/
def Sh.ok : Sh → Bool
  | .s => true
  | .l .s => true
  | _ => false
theorem Ow.share {s : Sh} {d : D} {v : V} {as : List Addr} (hs : s.ok = true) (h : Ow K B G H s d v as) (n : ∀ a ∈ as, B a = none) : Dv K (ovr B H as) v d := by
  cases h with
  | s h => exact h.mono (same_ovr n)
  | l h t =>
    rename_i e _ _ _ _
    cases e with
    | s => exact Ow.shareL (.l h t) n
    | _ => cases hs
  | z => cases hs
  | r => cases hs
  | d => cases hs
/-- peeked: to be read, not kept -/
inductive Pk (K : PySem.W.Frag) (B H : Hp) : V → D → Prop where
  | s {v : V} {d : D} : Dv K B v d → Pk K B H v d
  | l {ds : List D} {a : Addr} {vs : List V} : H a = some (.lst vs) → DvAll K B vs ds → Pk K B H (.ref a) (.list ds)
  | z {ds : List D} {a : Addr} {vs : List V} : SqL K H a vs → DvAll K B vs ds → Pk K B H (.ref a) (.list ds)
/-- as a list, a tuple -/
theorem Pk.list {v : V} {ds : List D} (h : Pk K B H v (.list ds)) (e : Same B H) : ∃ a vs, v = .ref a ∧ SqL K H a vs ∧ DvAll K B vs ds := by
  cases h with
  | s h => cases h with
    | lst h t => exact ⟨_, _, rfl, .of (e _ _ h), t⟩
  | l h t => exact ⟨_, _, rfl, .of h, t⟩
  | z h t => exact ⟨_, _, rfl, h, t⟩
theorem Pk.tuple {v : V} {ds : List D} (h : Pk K B H v (.tuple ds)) (e : Same B H) : ∃ a vs, v = .ref a ∧ SqT K H a vs ∧ DvAll K B vs ds := by
  cases h with
  | s h => cases h with
    | tup h t => exact ⟨_, _, rfl, Le.tup e h, t⟩
/-- the relation of data and heap: B is shared, G is not to be changed -/
structure Rel (K : PySem.W.Frag) (κ : List Sh) (Z B G H : Hp) (ρ : Env) (σ : St) (fp : Nat → List Addr) : Prop where
  bg : Same B G
  gh : Same G H
  zg : Same Z G
  len : ρ.length = σ.length
  at_ : ∀ i d, ρ[i]? = some (some d) → ∃ v s, σ[i]? = some (some v) ∧ κ[i]? = some s ∧ Ow K B Z H s d v (fp i)
  nd : ∀ i, (fp i).Nodup
  dj : ∀ i j, i ≠ j → ∀ a ∈ fp i, a ∉ fp j
  out : ∀ i, ∀ a ∈ fp i, G a = none ∧ ∃ o, H a = some o
/-- a heap has grown: all that stood stands, the new shared things are new -/
structure Ext (B H B' H' : Hp) : Prop where
  b : Same B B'
  h : Same H H'
  bh : Same B' H'
  new : ∀ a o, B' a = some o → B a = some o ∨ H a = none
theorem Ext.refl (h : Same B H) : Ext B H B H := ⟨Same.refl _, Same.refl _, h, fun _ _ e => .inl e⟩
end
end TV

/-! V2: the evaluator over data: expressions, statements, defs. -/
namespace TV
open PySem L2
inductive R (α : Type) where
  | ok (a : α) (ρ : Env) | err (x : D) (ρ : Env) | no
def R.bind {α β : Type} (r : R α) (f : α → Env → R β) : R β := match r with
  | .ok a ρ => f a ρ
  | .err x ρ => .err x ρ
  | .no => .no
@[simp] theorem R.bind_ok {α β : Type} (a : α) (ρ : Env) (f : α → Env → R β) : (R.ok a ρ).bind f = f a ρ := rfl
@[simp] theorem R.bind_err {α β : Type} (x : D) (ρ : Env) (f : α → Env → R β) : (R.err x ρ : R α).bind f = .err x ρ := rfl
@[simp] theorem R.bind_no {α β : Type} (f : α → Env → R β) : (R.no : R α).bind f = .no := rfl
def R.of {α : Type} (o : Option α) (ρ : Env) : R α := match o with
  | some a => .ok a ρ
  | none => .no
@[simp] theorem R.of_some {α : Type} (a : α) (ρ : Env) : R.of (some a) ρ = .ok a ρ := rfl
@[simp] theorem R.of_none {α : Type} (ρ : Env) : R.of (none : Option α) ρ = .no := rfl
abbrev Fn := List D → R D
/-! ### operations -/
/-- the greatest length of what is made -/
abbrev LIM : Nat := 1000000
def mulOk (i j : Int) : Bool := decide (-(2 ^ 64) < i ∧ i < 2 ^ 64) || decide (-(2 ^ 64) < j ∧ j < 2 ^ 64)
inductive B1 where
  | neg | len | abs | int | tup | lst | sum | minL | maxL | rev | rv2 | repr | all_ | any_ | sortI | setT | nSetL | sRng | lRng | tRng
  | isInt | isBool | isTup | isStr | isList | str
  deriving DecidableEq
inductive B2 where
  | add | addL | mulL | sub | mul | fdiv | mod | pow | idx | slU | slL | slUL | slLL | min2 | max2 | eq | ne | lt | le | gt | ge | is_ | isnt | in_ | nin | ltT | zipL
  deriving DecidableEq
def intsD : List D → Option (List Int)
  | [] => some []
  | .int i :: ds => (intsD ds).map (i :: ·)
  | _ => none
def boolsD : List D → Option (List Bool)
  | [] => some []
  | .bool b :: ds => (boolsD ds).map (b :: ·)
  | _ => none
def intssD : List D → Option (List (List Int))
  | [] => some []
  | .tuple xs :: ds => match intsD xs with
    | some is => (intssD ds).map (is :: ·)
    | none => none
  | _ => none
def minI : Int → List Int → Int
  | m, [] => m
  | m, i :: is => minI (if i < m then i else m) is
def maxI : Int → List Int → Int
  | m, [] => m
  | m, i :: is => maxI (if m < i then i else m) is
/-- into a rising list, by a strict order -/
def insI (x : Int) : List Int → List Int
  | [] => [x]
  | y :: ys => if x ≤ y then x :: y :: ys else y :: insI x ys
def sortI : List Int → List Int
  | [] => []
  | x :: xs => insI x (sortI xs)
/-- tuples of one length, of ints from 0 below SB -/
def SB : Int := 1048576
def okT (d : Nat) (xs : List (List Int)) : Bool := decide (1 ≤ d) && xs.all fun x => decide (x.length = d) && x.all fun m => decide (0 ≤ m) && decide (m < SB)
def hdL : List (List Int) → Nat
  | x :: _ => x.length
  | [] => 1
/-- into a rising list without equals -/
def insT (x : List Int) : List (List Int) → List (List Int)
  | [] => [x]
  | y :: ys => if x = y then y :: ys else if TS.code SB x < TS.code SB y then x :: y :: ys else y :: insT x ys
def setT : List (List Int) → List (List Int)
  | [] => []
  | x :: xs => insT x (setT xs)
def tI (is : List Int) : D := .tuple (is.map .int)
def rngD (a b : Int) : List D := (List.range (b - a).toNat).map fun i => .int (a + (i : Nat))
/-- a range downwards by ones -/
def rng3D : D → D → D → Option (List D)
  | .int i, .int j, .int k => if decide (k = -1) && decide (i ≤ LIM) && decide (-LIM ≤ i) && decide (j ≤ LIM) && decide (-LIM ≤ j) then some ((List.range (i - j).toNat).map fun n => .int (i - (n : Nat))) else none
  | _, _, _ => none
def shaped (d : D) : Bool := SeqAt.shaped d
def eqD (a b : D) : Option Bool := if shaped a && shaped b then some (PyData.eqv a b) else none
def inD (a : D) (ds : List D) : Option Bool := if shaped a && shaped (.list ds) then some (ds.any fun z => PyData.eqv z a) else none
def b1 : B1 → D → Option D
  | .neg, .int i => some (.int (-i))
  | .len, .list ds => some (.int ds.length)
  | .len, .tuple ds => some (.int ds.length)
  | .len, .str x => if x.length ≤ LIM then some (.int x.length) else none
  | .abs, .int i => some (.int (if i < 0 then -i else i))
  | .int, .int i => some (.int i)
  | .int, .bool b => some (.int (if b then 1 else 0))
  | .tup, .list ds => some (.tuple ds)
  | .tup, .tuple ds => some (.tuple ds)
  | .lst, .list ds => some (.list ds)
  | .lst, .tuple ds => some (.list ds)
  | .rev, .list ds => some (.list ds.reverse)
  | .rv2, .list ds => some (.list ds.dropLast.reverse)
  | .sum, .list ds => match intsD ds with
    | some is => some (.int is.sum)
    | none => none
  | .minL, .list ds => match intsD ds with
    | some (i :: is) => some (.int (minI i is))
    | _ => none
  | .minL, .tuple ds => match intsD ds with
    | some (i :: is) => some (.int (minI i is))
    | _ => none
  | .maxL, .list ds => match intsD ds with
    | some (i :: is) => some (.int (maxI i is))
    | _ => none
  | .all_, .list ds => match boolsD ds with
    | some bs => some (.bool (bs.all id))
    | none => none
  | .any_, .list ds => match boolsD ds with
    | some bs => some (.bool (bs.any id))
    | none => none
  | .repr, d => if d.showable && decide (d.depth ≤ 64) && !d.hasDict && decide (d.shown.length ≤ LIM) then some (.str d.shown) else none
  | .sortI, .list ds => if ds.length < 64 then match intsD ds with
    | some is => some (.list ((sortI is).map .int))
    | none => none else none
  | .setT, .list ds => match intssD ds with
    | some xs => if ds.length < 64 && okT (hdL xs) xs then some (.list ((setT xs).map tI)) else none
    | none => none
  | .isInt, d => some (.bool (match d with | .int _ => true | .bool _ => true | _ => false))
  | .isBool, d => some (.bool (match d with | .bool _ => true | _ => false))
  | .isTup, d => some (.bool (match d with | .tuple _ => true | _ => false))
  | .isList, d => some (.bool (match d with | .list _ => true | _ => false))
  | .isStr, d => some (.bool (match d with | .str _ => true | _ => false))
  | .lRng, .int n => if n ≤ LIM && decide (-LIM ≤ n) then some (.list (rngD 0 n)) else none
  | .tRng, .int n => if n ≤ LIM && decide (-LIM ≤ n) then some (.tuple (rngD 0 n)) else none
  | _, _ => none
def atD (ds : List D) (i : Int) : Option D := atI ds i
def cutD (ds : List D) (lo hi : Option Int) : List D := (ds.drop (HT.sIx ds.length 0 lo)).take (HT.sIx ds.length ds.length hi - HT.sIx ds.length 0 lo)
def itemsD : D → Option (List D)
  | .list ds => some ds
  | .tuple ds => some ds
  | _ => none
def zipD (as bs : List D) : List D := (as.zip bs).map fun p => .tuple [p.1, p.2]
/-- from the first pair that differs on -/
def lexLtI : List Int → List Int → Bool
  | [], [] => false
  | [], _ :: _ => true
  | _ :: _, [] => false
  | x :: xs, y :: ys => if x = y then lexLtI xs ys else decide (x < y)
def lexLeT : List Int → List Int → Bool
  | [], _ => true
  | _ :: _, [] => false
  | x :: xs, y :: ys => if x = y then lexLeT xs ys else decide (x ≤ y)
def lexD (f : List Int → List Int → Bool) (a b : List D) : Option D := match intsD a, intsD b with
  | some xs, some ys => some (.bool (f xs ys))
  | _, _ => none
def zipLD (a b : D) : Option D := match itemsD a, itemsD b with
  | some xs, some ys => if min xs.length ys.length ≤ LIM then some (.list (zipD xs ys)) else none
  | _, _ => none
def b2 : B2 → D → D → Option D
  | .add, .int i, .int j => some (.int (i + j))
  | .add, .tuple a, .tuple b => if a.length + b.length ≤ LIM then some (.tuple (a ++ b)) else none
  | .add, .list a, .list b => if a.length + b.length ≤ LIM then some (.list (a ++ b)) else none
  | .add, .str a, .str b => if a.length + b.length ≤ LIM then some (.str (a ++ b)) else none
  | .addL, .list a, .list b => if a.length + b.length ≤ LIM then some (.list (a ++ b)) else none
  | .mulL, .list a, .int k => if decide (0 ≤ k) && decide (k ≤ LIM) && decide (a.length * k.toNat ≤ LIM) then some (.list (List.replicate k.toNat a).flatten) else none
  | .sub, .int i, .int j => some (.int (i - j))
  | .mul, .int i, .int j => if mulOk i j then some (.int (i * j)) else none
  | .mul, .tuple a, .int k => if !a.isEmpty && decide (-LIM ≤ k) && decide (a.length * k.toNat ≤ LIM) && decide (k ≤ LIM) then some (.tuple (List.replicate k.toNat a).flatten) else none
  | .fdiv, .int i, .int j => if decide (0 < j) && decide (j < 1073741824) then some (.int (i / j)) else none
  | .mod, .int i, .int j => if 0 < j then some (.int (i % j)) else none
  | .pow, .int i, .int j => if decide (0 ≤ j) && decide (j ≤ 100) && decide (i.natAbs < 1000) then some (.int (i ^ j.toNat)) else none
  | .idx, .list ds, .int i => atD ds i
  | .idx, .tuple ds, .int i => atD ds i
  | .slU, .tuple ds, .int i => some (.tuple (cutD ds none (some i)))
  | .slU, .list ds, .int i => some (.list (cutD ds none (some i)))
  | .slL, .tuple ds, .int i => some (.tuple (cutD ds (some i) none))
  | .slL, .list ds, .int i => some (.list (cutD ds (some i) none))
  | .slUL, .list ds, .int i => some (.list (cutD ds none (some i)))
  | .slLL, .list ds, .int i => some (.list (cutD ds (some i) none))
  | .min2, .int i, .int j => some (.int (if j < i then j else i))
  | .max2, .int i, .int j => some (.int (if j > i then j else i))
  | .eq, a, b => (eqD a b).map .bool
  | .ne, a, b => (eqD a b).map fun r => .bool (!r)
  | .lt, .int i, .int j => some (.bool (decide (i < j)))
  | .lt, .tuple a, .tuple b => lexD lexLtI a b
  | .le, .tuple a, .tuple b => lexD lexLeT a b
  | .le, .int i, .int j => some (.bool (decide (i ≤ j)))
  | .gt, .int i, .int j => some (.bool (decide (j < i)))
  | .ge, .int i, .int j => some (.bool (decide (j ≤ i)))
  | .in_, a, .list ds => (inD a ds).map .bool
  | .in_, a, .tuple ds => (inD a ds).map .bool
  | .nin, a, .list ds => (inD a ds).map fun r => .bool (!r)
  | .nin, a, .tuple ds => (inD a ds).map fun r => .bool (!r)
  | .zipL, a, b => zipLD a b
  | .is_, a, .none => some (.bool (match a with | .none => true | _ => false))
  | .isnt, a, .none => some (.bool (match a with | .none => false | _ => true))
  | _, _, _ => none
/-! ### syntax -/
inductive Pl where
  | v (i : Nat) | f (i j : Nat) (k : Str)
mutual
inductive Tg where
  | v (i : Nat) | t (ts : Tgs)
inductive Tgs where
  | nil | cons (t : Tg) (ts : Tgs)
end
mutual
inductive E where
  | v (i : Nat) | mv (i : Nat) | c (d : D) | gc (x : Str) (d : D) | fld (i j : Nat) (k : Str)
  | b1 (f : B1) (a : E) | b2 (f : B2) (a b : E) | ch (f g : B2) (a b c : E)
  | and_ (a b : E) | or_ (a b : E) | not_ (a : E) | ite (c a b : E)
  | tup (es : Es) | lst (es : Es) | rec_ (ks : List (Str × Bool)) (es : Es)
  | call (f : Nat) (es : As) | callK (f : Nat) (perm : List Nat) (es ks : Es) | lc (vs : List Nat) (w : W) (tg : Tg) (e : E) | lci (vs : List Nat) (w : W) (tg : Tg) (c e : E) | lcp (i : Nat) (vs : List Nat) (tg : Tg) (e : E) | dget (i : Nat) (a b : E) | dnew | addO (f : B2) (i : Nat) (b : E)
  | pop (p : Pl) | popAt (p : Pl) (e : E)
inductive Es where
  | nil | cons (e : E) (es : Es) | star (e : E) (es : Es)
inductive As where
  | nil | val (e : E) (es : As) | io (i : Nat) (es : As) | pk (i : Nat) (es : As)
inductive W where
  | seq (e : E) | rng1 (e : E) | rng2 (a b : E) | rng3 (a b c : E) | enum (e : E) | zip (a b : E)
end
mutual
inductive S where
  | asg (tg : Tg) (e : E) | par (is : List Nat) (es : Es) | ifs (c : E) (a b : Ss) | for_ (w : W) (tg : Tg) (b : Ss) | whl (n : Nat) (c : E) (b : Ss)
  | ret (e : E) | retN | ex (e : E) | app (p : Pl) (e : E) | ext (p : Pl) (e : E) | setF (i j : Nat) (k : Str) (e : E) | setI (p : Pl) (a e : E) | dset (i : Nat) (a e : E) | pass | brk | ct | stop
inductive Ss where
  | nil | cons (s : S) (ss : Ss)
end
/-! ### evaluation -/
def gv (ρ : Env) (i : Nat) : Option D := match ρ[i]? with
  | some (some d) => some d
  | _ => none
def getPl (ρ : Env) : Pl → Option D
  | .v i => gv ρ i
  | .f i j _ => match gv ρ i with
    | some (.tuple ds) => ds[j]?
    | _ => none
def setPl (ρ : Env) (p : Pl) (d : Option D) : Env := match p with
  | .v i => ρ.set i d
  | .f i j _ => match gv ρ i, d with
    | some (.tuple ds), some d => ρ.set i (some (.tuple (ds.set j d)))
    | _, _ => ρ.set i none
def bindL : List Nat → List D → Env → Option Env
  | [], [], ρ => some ρ
  | i :: is, d :: ds, ρ => bindL is ds (ρ.set i (some d))
  | _, _, _ => none
mutual
def bindT : Tg → D → Env → Option Env
  | .v i, d, ρ => some (ρ.set i (some d))
  | .t ts, .tuple ds, ρ => bindTs ts ds ρ
  | .t _, _, _ => none
def bindTs : Tgs → List D → Env → Option Env
  | .nil, [], ρ => some ρ
  | .cons t ts, d :: ds, ρ => match bindT t d ρ with
    | some ρ => bindTs ts ds ρ
    | none => none
  | _, _, _ => none
end
/-- an error within a comprehension is none of ours -/
def R.ne {α : Type} (r : R α) : R α := match r with
  | .ok a ρ => .ok a ρ
  | _ => .no
@[simp] theorem R.ne_ok {α : Type} (a : α) (ρ : Env) : (R.ok a ρ).ne = .ok a ρ := rfl
def wipeE (ρ : Env) : List Nat → Env
  | [] => ρ
  | v :: vs => (wipeE ρ vs).set v none
/-- the slots of vs as they were in ρ0 -/
def backE (ρ0 : Env) (ρ : Env) : List Nat → Env
  | [] => ρ
  | v :: vs => (backE ρ0 ρ vs).set v (ρ0[v]?.join)
def lcF (body : D → Env → R (Option D)) : List D → Env → R (List D)
  | [], ρ => .ok [] ρ
  | d :: ds, ρ => (body d ρ).bind fun o ρ => (lcF body ds ρ).bind fun r ρ => .ok (match o with
    | some x => x :: r
    | none => r) ρ
/-- arguments: values and places -/
inductive Ar where
  | val (d : D) | io (i : Nat) | pk (i : Nat)
def argD (ρ : Env) : List Ar → Option (List D)
  | [] => some []
  | .val d :: r => (argD ρ r).map (d :: ·)
  | .io i :: r => match gv ρ i with
    | some d => (argD ρ r).map (d :: ·)
    | none => none
  | .pk i :: r => match gv ρ i with
    | some d => (argD ρ r).map (d :: ·)
    | none => none
/-- the places as they are left -/
def outs (ρ : Env) : List Ar → Env → Env
  | [], _ => ρ
  | .val _ :: r, os => outs ρ r os
  | .pk _ :: r, os => outs ρ r os
  | .io i :: r, o :: os => outs (ρ.set i o) r os
  | .io i :: r, [] => outs (ρ.set i none) r []
def callR (f : Fn) (as : List Ar) (ρ : Env) : R D := match argD ρ as with
  | some ds => match f ds with
    | .ok d os => .ok d (outs ρ as os)
    | .err x os => .err x (outs ρ as os)
    | .no => .no
  | none => .no
def enumD (ds : List D) : List D := ds.zipIdx.map fun p => .tuple [.int (p.2 : Nat), p.1]
def popD (p : Pl) (ρ : Env) : R D := match getPl ρ p with
  | some (.list ds) => match ds.getLast? with
    | some d => .ok d (setPl ρ p (some (.list ds.dropLast)))
    | none => .no
  | _ => .no
def popAtD (p : Pl) (ev : Env → R D) (ρ : Env) : R D := match getPl ρ p with
  | some (.list _) => (ev ρ).bind fun k ρ => match getPl ρ p, k with
    | some (.list ds), .int i => match ixN ds.length i with
      | some j => if ds.length ≤ LIM then match ds[j]? with
        | some d => .ok d (setPl ρ p (some (.list (ds.eraseIdx j))))
        | none => .no else .no
      | none => .no
    | _, _ => .no
  | _ => .no
def isK (k : Int) (p : D × D) : Bool := match p.1 with
  | .int j => decide (j = k)
  | _ => false
def dfindD : List (D × D) → Int → Option D
  | [], _ => none
  | p :: ps, k => if isK k p then some p.2 else dfindD ps k
def dputD (ps : List (D × D)) (k : Int) (d : D) : List (D × D) := if ps.any (isK k) then ps.map fun p => if isK k p then (p.1, d) else p else ps ++ [(.int k, d)]
def dictD : D → Option (List (D × D))
  | .tuple [] => some []
  | .dict ps => some ps
  | _ => none
def gdict (ρ : Env) (i : Nat) : Option (List (D × D)) := (gv ρ i).bind dictD
def dgetD (i : Nat) (eva evb : Env → R D) (ρ : Env) : R D := match gdict ρ i with
  | some _ => (eva ρ).bind fun x ρ => (evb ρ).bind fun y ρ => match gdict ρ i, x with
    | some ps, .int k => .ok ((dfindD ps k).getD y) ρ
    | _, _ => .no
  | none => .no
/-- an owned list and something: the list as it is behind that -/
def addOD (f : D → D → Option D) (i : Nat) (evb : Env → R D) (ρ : Env) : R D := match gv ρ i with
  | some (.list _) => (evb ρ).bind fun y ρ => match gv ρ i with
    | some (.list ds) => R.of (f (.list ds) y) ρ
    | _ => .no
  | _ => .no
def andD (eva evb : Env → R D) (ρ : Env) : R D := (eva ρ).bind fun x ρ => match x with
  | .bool true => evb ρ
  | .bool false => .ok (.bool false) ρ
  | _ => .no
def orD (eva evb : Env → R D) (ρ : Env) : R D := (eva ρ).bind fun x ρ => match x with
  | .bool true => .ok (.bool true) ρ
  | .bool false => evb ρ
  | _ => .no
def notD (eva : Env → R D) (ρ : Env) : R D := (eva ρ).bind fun x ρ => match x with
  | .bool b => .ok (.bool (!b)) ρ
  | _ => .no
def iteD (evc eva evb : Env → R D) (ρ : Env) : R D := (evc ρ).bind fun x ρ => match x with
  | .bool true => eva ρ
  | .bool false => evb ρ
  | _ => .no
def mvD (i : Nat) (ρ : Env) : R D := match gv ρ i with
  | some d => .ok d (ρ.set i none)
  | none => .no
def tupD (ev : Env → R (List D)) (ρ : Env) : R D := (ev ρ).bind fun ds ρ => if ds.length ≤ LIM then .ok (.tuple ds) ρ else .no
def lstD (ev : Env → R (List D)) (ρ : Env) : R D := (ev ρ).bind fun ds ρ => if ds.length ≤ LIM then .ok (.list ds) ρ else .no
def chD (f g : D → D → Option D) (eva evb evc : Env → R D) (ρ : Env) : R D := (eva ρ).bind fun x ρ => (evb ρ).bind fun y ρ => match f x y with
  | some (.bool true) => (evc ρ).bind fun z ρ => R.of (g y z) ρ
  | some (.bool false) => .ok (.bool false) ρ
  | _ => .no
/-- the values in the order of the parameters -/
def permA (perm : List Nat) (ds : List D) : List Ar := perm.map fun j => .val (ds.getD j .none)
/-- a comprehension: a turn, the whole -/
def lcT (vs : List Nat) (tg : Tg) (body : Env → R (Option D)) (d : D) (ρ : Env) : R (Option D) := match bindT tg d ρ with
  | some ρ => (body ρ).bind fun o ρ => .ok o (wipeE ρ vs)
  | none => .no
def lcD (vs : List Nat) (tg : Tg) (w : Env → R (List D)) (body : Env → R (Option D)) (ρ : Env) : R D := (w ρ).bind fun ds ρ => if ds.length ≤ LIM then
    (lcF (lcT vs tg body) ds (wipeE ρ vs)).ne.bind fun r ρ' => .ok (.list r) (backE ρ ρ' vs)
  else .no
/-- the turns of a comprehension -/
def lcB (vs : List Nat) (tg : Tg) (body : Env → R (Option D)) (ds : List D) (ρ : Env) : R D := if ds.length ≤ LIM then
    (lcF (lcT vs tg body) ds (wipeE ρ vs)).ne.bind fun r ρ' => .ok (.list r) (backE ρ ρ' vs)
  else .no
/-- a list of a slot is walked, it stays: it is out of reach in the turns -/
def lcpD (i : Nat) (vs : List Nat) (tg : Tg) (body : Env → R (Option D)) (ρ : Env) : R D := match gv ρ i with
  | some (.list ds) => (lcB vs tg body ds (ρ.set i none)).bind fun r ρ' => .ok r (ρ'.set i (some (.list ds)))
  | _ => .no
def ifD (c e : Env → R D) (ρ : Env) : R (Option D) := (c ρ).bind fun t ρ => match t with
  | .bool true => (e ρ).bind fun x ρ => .ok (some x) ρ
  | .bool false => .ok none ρ
  | _ => .no
def allD (e : Env → R D) (ρ : Env) : R (Option D) := (e ρ).bind fun x ρ => .ok (some x) ρ
mutual
def evE (Γ : Nat → Fn) : E → Env → R D
  | .v i, ρ => R.of (gv ρ i) ρ
  | .mv i, ρ => mvD i ρ
  | .c d, ρ => .ok d ρ
  | .gc _ d, ρ => .ok d ρ
  | .fld i j k, ρ => R.of (getPl ρ (.f i j k)) ρ
  | .b1 f a, ρ => (evE Γ a ρ).bind fun d ρ => R.of (b1 f d) ρ
  | .b2 f a b, ρ => (evE Γ a ρ).bind fun x ρ => (evE Γ b ρ).bind fun y ρ => R.of (b2 f x y) ρ
  | .ch f g a b c, ρ => chD (b2 f) (b2 g) (evE Γ a) (evE Γ b) (evE Γ c) ρ
  | .and_ a b, ρ => andD (evE Γ a) (evE Γ b) ρ
  | .or_ a b, ρ => orD (evE Γ a) (evE Γ b) ρ
  | .not_ a, ρ => notD (evE Γ a) ρ
  | .ite c a b, ρ => iteD (evE Γ c) (evE Γ a) (evE Γ b) ρ
  | .tup es, ρ => tupD (evEs Γ es) ρ
  | .lst es, ρ => lstD (evEs Γ es) ρ
  | .rec_ _ es, ρ => (evEs Γ es ρ).bind fun ds ρ => .ok (.tuple ds) ρ
  | .call f es, ρ => (evAs Γ es ρ).bind fun as ρ => callR (Γ f) as ρ
  | .callK f perm es ks, ρ => (evEs Γ es ρ).bind fun ds ρ => (evEs Γ ks ρ).bind fun zs ρ => callR (Γ f) (permA perm (ds ++ zs)) ρ
  | .lc vs w tg e, ρ => lcD vs tg (evW Γ w) (allD (evE Γ e)) ρ
  | .lci vs w tg c e, ρ => lcD vs tg (evW Γ w) (ifD (evE Γ c) (evE Γ e)) ρ
  | .lcp i vs tg e, ρ => lcpD i vs tg (allD (evE Γ e)) ρ
  | .dget i a b, ρ => dgetD i (evE Γ a) (evE Γ b) ρ
  | .dnew, ρ => .ok (.dict []) ρ
  | .addO f i b, ρ => addOD (b2 f) i (evE Γ b) ρ
  | .pop p, ρ => popD p ρ
  | .popAt p e, ρ => popAtD p (evE Γ e) ρ
def evEs (Γ : Nat → Fn) : Es → Env → R (List D)
  | .nil, ρ => .ok [] ρ
  | .cons e es, ρ => (evE Γ e ρ).bind fun d ρ => (evEs Γ es ρ).bind fun ds ρ => .ok (d :: ds) ρ
  | .star e es, ρ => (evE Γ e ρ).bind fun d ρ => match itemsD d with
    | some xs => (evEs Γ es ρ).bind fun ds ρ => .ok (xs ++ ds) ρ
    | none => .no
def evAs (Γ : Nat → Fn) : As → Env → R (List Ar)
  | .nil, ρ => .ok [] ρ
  | .val e es, ρ => (evE Γ e ρ).bind fun d ρ => (evAs Γ es ρ).bind fun ds ρ => .ok (.val d :: ds) ρ
  | .io p es, ρ => match gv ρ p with
    | some _ => (evAs Γ es ρ).bind fun ds ρ => .ok (.io p :: ds) ρ
    | none => .no
  | .pk p es, ρ => match gv ρ p with
    | some _ => (evAs Γ es ρ).bind fun ds ρ => .ok (.pk p :: ds) ρ
    | none => .no
def evW (Γ : Nat → Fn) : W → Env → R (List D)
  | .seq e, ρ => (evE Γ e ρ).bind fun d ρ => R.of (itemsD d) ρ
  | .rng1 e, ρ => (evE Γ e ρ).bind fun d ρ => match d with
    | .int n => if n ≤ LIM && decide (-LIM ≤ n) then .ok (rngD 0 n) ρ else .no
    | _ => .no
  | .rng2 a b, ρ => (evE Γ a ρ).bind fun x ρ => (evE Γ b ρ).bind fun y ρ => match x, y with
    | .int i, .int j => if decide (i ≤ LIM) && decide (-LIM ≤ i) && decide (j ≤ LIM) && decide (-LIM ≤ j) then .ok (rngD i j) ρ else .no
    | _, _ => .no
  | .rng3 a b c, ρ => (evE Γ a ρ).bind fun x ρ => (evE Γ b ρ).bind fun y ρ => (evE Γ c ρ).bind fun z ρ => R.of (rng3D x y z) ρ
  | .enum e, ρ => (evE Γ e ρ).bind fun d ρ => R.of ((itemsD d).map enumD) ρ
  | .zip a b, ρ => (evE Γ a ρ).bind fun x ρ => (evE Γ b ρ).bind fun y ρ => match x, y with
    | .list as, .list bs => .ok (zipD as bs) ρ
    | .tuple as, .tuple bs => .ok (zipD as bs) ρ
    | _, _ => .no
end
inductive Fl where
  | nx (ρ : Env) | ret (d : D) (ρ : Env) | brk (ρ : Env) | ct (ρ : Env) | err (x : D) (ρ : Env) | no
def Fl.thn (f : Fl) (g : Env → Fl) : Fl := match f with
  | .nx ρ => g ρ
  | f => f
@[simp] theorem Fl.thn_nx (ρ : Env) (g : Env → Fl) : (Fl.nx ρ).thn g = g ρ := rfl
@[simp] theorem Fl.thn_ret (d : D) (ρ : Env) (g : Env → Fl) : (Fl.ret d ρ).thn g = .ret d ρ := rfl
@[simp] theorem Fl.thn_brk (ρ : Env) (g : Env → Fl) : (Fl.brk ρ).thn g = .brk ρ := rfl
@[simp] theorem Fl.thn_ct (ρ : Env) (g : Env → Fl) : (Fl.ct ρ).thn g = .ct ρ := rfl
@[simp] theorem Fl.thn_err (d : D) (ρ : Env) (g : Env → Fl) : (Fl.err d ρ).thn g = .err d ρ := rfl
@[simp] theorem Fl.thn_no (g : Env → Fl) : Fl.no.thn g = .no := rfl
def R.fl {α : Type} (r : R α) (g : α → Env → Fl) : Fl := match r with
  | .ok a ρ => g a ρ
  | .err x ρ => .err x ρ
  | .no => .no
@[simp] theorem R.fl_ok {α : Type} (a : α) (ρ : Env) (g : α → Env → Fl) : (R.ok a ρ).fl g = g a ρ := rfl
@[simp] theorem R.fl_err {α : Type} (x : D) (ρ : Env) (g : α → Env → Fl) : (R.err x ρ : R α).fl g = .err x ρ := rfl
@[simp] theorem R.fl_no {α : Type} (g : α → Env → Fl) : (R.no : R α).fl g = .no := rfl
def Fl.of (o : Option Env) : Fl := match o with
  | some ρ => .nx ρ
  | none => .no
@[simp] theorem Fl.of_some (ρ : Env) : Fl.of (some ρ) = .nx ρ := rfl
@[simp] theorem Fl.of_none : Fl.of none = .no := rfl
def forT (tg : Tg) (body : Env → Fl) (d : D) (ρ : Env) : Fl := match bindT tg d ρ with
  | some ρ => body ρ
  | none => .no
def forF (body : D → Env → Fl) : List D → Env → Fl
  | [], ρ => .nx ρ
  | d :: ds, ρ => match body d ρ with
    | .nx ρ => forF body ds ρ
    | .ct ρ => forF body ds ρ
    | .brk ρ => .nx ρ
    | r => r
def whlF (c : Env → R D) (body : Env → Fl) : Nat → Env → Fl
  | 0, _ => .no
  | n + 1, ρ => (c ρ).fl fun x ρ => match x with
    | .bool true => (match body ρ with
      | .nx ρ => whlF c body n ρ
      | .ct ρ => whlF c body n ρ
      | .brk ρ => .nx ρ
      | r => r)
    | .bool false => .nx ρ
    | _ => .no
def appD (p : Pl) (ev : Env → R D) (ρ : Env) : Fl := match getPl ρ p with
  | some (.list _) => (ev ρ).fl fun d ρ => match getPl ρ p with
    | some (.list ds) => if ds.length < LIM then .nx (setPl ρ p (some (.list (ds ++ [d])))) else .no
    | _ => .no
  | _ => .no
def extD (p : Pl) (ev : Env → R D) (ρ : Env) : Fl := match getPl ρ p with
  | some (.list _) => (ev ρ).fl fun d ρ => match getPl ρ p, d with
    | some (.list ds), .list xs => if ds.length + xs.length ≤ LIM then .nx (setPl ρ p (some (.list (ds ++ xs)))) else .no
    | _, _ => .no
  | _ => .no
def setFD (i j : Nat) (ev : Env → R D) (ρ : Env) : Fl := (ev ρ).fl fun d ρ => match gv ρ i with
  | some (.tuple ds) => if j < ds.length then .nx (ρ.set i (some (.tuple (ds.set j d)))) else .no
  | _ => .no
/-- an owned dict with ints as keys -/
def dsetD (i : Nat) (eva ev : Env → R D) (ρ : Env) : Fl := (ev ρ).fl fun d ρ => match gdict ρ i with
  | some _ => (eva ρ).fl fun x ρ => match gdict ρ i, x with
    | some ps, .int k => if ps.length < LIM then .nx (ρ.set i (some (.dict (dputD ps k d)))) else .no
    | _, _ => .no
  | none => .no
def setID (p : Pl) (eva ev : Env → R D) (ρ : Env) : Fl := (ev ρ).fl fun d ρ => match getPl ρ p with
  | some (.list _) => (eva ρ).fl fun x ρ => match getPl ρ p, x with
    | some (.list ds), .int i => match ixN ds.length i with
      | some j => .nx (setPl ρ p (some (.list (ds.set j d))))
      | none => .no
    | _, _ => .no
  | _ => .no
mutual
def exS (Γ : Nat → Fn) : S → Env → Fl
  | .asg tg e, ρ => (evE Γ e ρ).fl fun d ρ => Fl.of (bindT tg d ρ)
  | .par is es, ρ => (evEs Γ es ρ).fl fun ds ρ => Fl.of (bindL is ds ρ)
  | .ifs c a b, ρ => (evE Γ c ρ).fl fun x ρ => match x with
    | .bool true => exSs Γ a ρ
    | .bool false => exSs Γ b ρ
    | _ => .no
  | .for_ w tg b, ρ => (evW Γ w ρ).fl fun ds ρ => forF (forT tg (exSs Γ b)) ds ρ
  | .whl n c b, ρ => whlF (evE Γ c) (exSs Γ b) n ρ
  | .ret e, ρ => (evE Γ e ρ).fl .ret
  | .retN, ρ => .ret .none ρ
  | .ex e, ρ => (evE Γ e ρ).fl fun _ ρ => .nx ρ
  | .app p e, ρ => appD p (evE Γ e) ρ
  | .ext p e, ρ => extD p (evE Γ e) ρ
  | .setF i j _ e, ρ => setFD i j (evE Γ e) ρ
  | .setI p a e, ρ => setID p (evE Γ a) (evE Γ e) ρ
  | .dset i a e, ρ => dsetD i (evE Γ a) (evE Γ e) ρ
  | .pass, ρ => .nx ρ
  | .brk, ρ => .brk ρ
  | .ct, ρ => .ct ρ
  | .stop, _ => .no
def exSs (Γ : Nat → Fn) : Ss → Env → Fl
  | .nil, ρ => .nx ρ
  | .cons s ss, ρ => (exS Γ s ρ).thn (exSs Γ ss)
end
/-- a def: how many slots, which parameters are handed back -/
def run (Γ : Nat → Fn) (n : Nat) (ios : List Nat) (f : Bool) (body : Ss) : Fn := fun ds =>
  match exSs Γ body (ds.map some ++ List.replicate (n - ds.length) none) with
  | .ret d ρ => .ok d (ios.map (gv ρ))
  | .nx ρ => if f then .ok .none (ios.map (gv ρ)) else .no
  | .err x ρ => .err x (ios.map (gv ρ))
  | _ => .no
end TV

/-! min of a tuple of ints -/
namespace TV
open PySem PySem.Spec PyProof.Rows L2
section
variable {prog : Program} {w : World} {A : Around} {E : Value → Shared → Prop} {s : Shared} {l : Addr} {its : List Value} {ns : List Int} {xs : Array (Int × Tok)} {Q : Value → Shared → Prop}
theorem minT_int (hh : A.handled = none) (hl : s.heap.IsTuple l (intItems xs)) (hne : 0 < xs.size)
    (h : ∀ v h' tk, (intItems xs)[argBest (fun i j => decide (numAt xs i < numAt xs j)) (xs.size - 1)]? = some v → (∀ b o, s.heap.get? b = some o → h'.get? b = some o) → Q v { s with heap := h', toks := tk }) :
    wpAny (model prog w) A (call (.builtin "min") [.ref l]) Q E s := by
  have hlt : l < s.heap.objs.size := by obtain ⟨_, e, _⟩ := hl; exact Heap.lt_size e
  refine call_min_walk (wpAny_pyIter_tuple hl ⟨s.heap.objs.size, [s.heap.objs.size, l], _, _, _, _, _, rfl, Walks.tuple (A := A.in1) hh _ l (Nat.ne_of_lt hlt) (intItems xs), ⟨⟨_, Heap.get?_push_size _ rfl, rfl, rfl⟩, hl.at fun o e => Heap.get?_push_of_some _ e⟩, (fun b hb => ?_), by simpa [intItems] using hne, CmpOf.ints_lt (numAt xs) (fun _ _ => intItems_at), fun v h' tk hP hk => ?_⟩)
  · show b < (s.heap.push _).objs.size; rw [Heap.size_push]
    have hb : b = s.heap.objs.size ∨ b = l := by simpa using hb
    rcases hb with e | e
    · rw [e]; exact Nat.lt_succ_self _
    · rw [e]; exact Nat.lt_succ_of_lt hlt
  · refine h v h' tk (by simpa [intItems] using hP) fun b o e => hk b o (fun hm => ?_) (Heap.get?_push_of_some _ e)
    have hm : b = s.heap.objs.size := by simpa using hm
    exact absurd (hm ▸ Heap.lt_size e) (Nat.lt_irrefl _)
theorem minT_raw (hh : A.handled = none) (hl : s.heap.IsTuple l its.toArray) (hi : IntsAre its ns) (hne : 0 < ns.length)
    (h : ∀ h' tk M t', (∀ b o, s.heap.get? b = some o → h'.get? b = some o) → M ∈ ns → (∀ a, a ∈ ns → M ≤ a) → Q (.int M t') { s with heap := h', toks := tk }) : wpAny (model prog w) A (call (.builtin "min") [.ref l]) Q E s := by
  obtain ⟨xs, e⟩ := hi.allInts.items
  have hn : numsOf (intItems xs).toList = ns := by rw [← e]; exact hi.numsOf
  rw [nums_intItems] at hn; subst hn; rw [e] at hl
  refine minT_int hh hl (by simpa using hne) fun v h' tk hv hk => ?_
  obtain ⟨t, rfl⟩ := intItems_at hv
  obtain ⟨h1, h2⟩ := argBest_lt (numAt xs) (xs.size - 1)
  have hsz : 0 < xs.size := by simpa using hne
  refine h h' tk _ t hk ?_ fun a ha => ?_
  · rw [numAt_eq]; exact PySem.getD_mem (by rw [List.length_map, Array.length_toList]; omega)
  · obtain ⟨j, hj, rfl⟩ := mem_getD ha; rw [List.length_map, Array.length_toList] at hj; rw [← numAt_eq]
    exact h2 j (by omega)
end
def rMinT (K : PySem.W.Frag) : List V → Hp → VK → Prop := fun vs H Q => ∃ (a : Addr) (ns : List Int), vs = [V.ref a] ∧ (SqL K H a (ns.map V.int) ∨ SqT K H a (ns.map V.int)) ∧ 0 < ns.length ∧ ∀ m, m ∈ ns → (∀ y, y ∈ ns → m ≤ y) → Q (.int m) H
theorem cr_minT {X : Cx} (hc : X.calm = true) : CallR X (.builtin "min") (rMinT X.K) := by
  intro pins s σ H vs us Q I r h
  obtain ⟨a, ns, rfl, hs | hs, hne, q⟩ := h
  · exact cr_min hc pins s σ H _ us Q I r ⟨a, ns, rfl, hs, hne, q⟩
  · obtain ⟨its, rv, hl, _⟩ := I.tuple hs
    rw [Vals.ref1 r]
    exact minT_raw (I.ok.hd hc) hl rv.ints hne fun h' tk m t' hk h1 h2 => ⟨.int _, H, I.kept hk, ⟨_, rfl⟩, q m h1 h2⟩
end TV
/-! V3: operations on values. -/
namespace TV
open PySem PySem.Spec PyProof.Rows L2
/-- what comes of an operation: its data, in a heap that has grown -/
def PostV (K : PySem.W.Frag) (B H : Hp) (sh : Sh) (d : D) (Q : VK) : Prop :=
  ∀ v H' B' as, Ext B H B' H' → (∀ G', Ow K B' G' H' sh d v as) → as.Nodup → (∀ a ∈ as, H a = none ∧ B' a = none) → Q v H'
section
variable {K : PySem.W.Frag} {B H : Hp} {Q : VK} {d : D} {ds : List D} {v : V} {vs : List V} {p : Addr}
theorem PostV.s (h : PostV K B H .s d Q) (e : Same B H) (hv : Dv K B v d) : Q v H :=
  h v H B [] (Ext.refl e) (fun _ => .s hv) List.nodup_nil (fun _ ha => by cases ha)
theorem free_of (e : Same B H) (hp : H p = none) : B p = none := e.free hp
theorem Ext.new1 (e : Same B H) (hp : H p = none) (o : HO) : Ext B H (upd B p o) (upd H p o) := by
  have hb := free_of e hp
  refine ⟨fun a u h => ?_, fun a u h => ?_, fun a u h => ?_, fun a u h => ?_⟩
  · rw [upd_ne (ne_of_none h hb)]; exact h
  · rw [upd_ne (ne_of_none h hp)]; exact h
  · by_cases ha : a = p
    · subst ha; rw [upd_same] at h ⊢; exact h
    · rw [upd_ne ha] at h ⊢; exact e _ _ h
  · by_cases ha : a = p
    · subst ha; exact .inr hp
    · rw [upd_ne ha] at h; exact .inl h
theorem Ext.newH (e : Same B H) (hp : H p = none) (o : HO) : Ext B H B (upd H p o) :=
  ⟨Same.refl _, fun a u h => by rw [upd_ne (ne_of_none h hp)]; exact h, fun a u h => by rw [upd_ne (ne_of_none (e _ _ h) hp)]; exact e _ _ h, fun a u h => .inl h⟩
theorem same_upd {B : Hp} (hb : B p = none) (o : HO) : Same B (upd B p o) := fun a u h => by rw [upd_ne (ne_of_none h hb)]; exact h
/-- a new tuple -/
theorem PostV.newT (h : PostV K B H .s (.tuple ds) Q) (e : Same B H) (t : DvAll K B vs ds) (hp : H p = none) : Q (.ref p) (upd H p (.tup vs)) :=
  h _ _ (upd B p (.tup vs)) [] (Ext.new1 e hp _) (fun _ => .s (.tup (.of upd_same) (t.mono (same_upd (free_of e hp) _)))) List.nodup_nil (fun _ ha => by cases ha)
/-- a new list, shared at once -/
theorem PostV.newLs (h : PostV K B H .s (.list ds) Q) (e : Same B H) (t : DvAll K B vs ds) (hp : H p = none) : Q (.ref p) (upd H p (.lst vs)) :=
  h _ _ (upd B p (.lst vs)) [] (Ext.new1 e hp _) (fun _ => .s (.lst upd_same (t.mono (same_upd (free_of e hp) _)))) List.nodup_nil (fun _ ha => by cases ha)
/-- a new list, owned -/
theorem PostV.newL (h : PostV K B H (.l .s) (.list ds) Q) (e : Same B H) (t : DvAll K B vs ds) (hp : H p = none) : Q (.ref p) (upd H p (.lst vs)) := by
  refine h _ _ B [p] (Ext.newH e hp _) (fun _ => .l upd_same (.of t)) (by simp) (fun a ha => ?_)
  have ha : a = p := by simpa using ha
  subst ha
  exact ⟨hp, free_of e hp⟩
/-- what is told of an operation: the values read as data -/
def RV1 (K : PySem.W.Frag) (sh : Sh) (g : D → Option D) (x : V) (H : Hp) (Q : VK) : Prop := ∃ B da d, Same B H ∧ Pk K B H x da ∧ g da = some d ∧ PostV K B H sh d Q
def RV2 (K : PySem.W.Frag) (sh : Sh) (g : D → D → Option D) (x y : V) (H : Hp) (Q : VK) : Prop := ∃ B da db d, Same B H ∧ Pk K B H x da ∧ Pk K B H y db ∧ g da db = some d ∧ PostV K B H sh d Q
end
/-- the shape of what an operation makes -/
def B1.sh : B1 → Sh
  | .lst => .l .s
  | .rev => .l .s
  | .rv2 => .l .s
  | .sortI => .l .s
  | .setT => .l .s
  | .lRng => .l .s
  | _ => .s
def B2.sh : B2 → Sh
  | .addL => .l .s
  | .mulL => .l .s
  | .slUL => .l .s
  | .slLL => .l .s
  | .zipL => .l .s
  | _ => .s
theorem lim_size {n : Nat} (h : n ≤ LIM) : n ≤ sizeLine := by rw [sizeLine_eq]; unfold LIM at h; omega
section
variable {X : Cx} {K : PySem.W.Frag} {B H : Hp} {x y : V} {da db : D} {f : Value} {r r' : List V → Hp → VK → Prop}
theorem cimp (h : CallR X f r) (i : ∀ xs H Q, r' xs H Q → r xs H Q) : CallR X f r' := fun pins s σ H xs us Q I rv hq => h pins s σ H xs us Q I rv (i _ _ _ hq)
theorem oimp {f : Value → Value → Sem Value} {r r' : R2} (h : OpR X f r) (i : ∀ x y H Q, r' x y H Q → r x y H Q) : OpR X f r' := fun pins s σ H x y u v Q I r1 r2 hq => h pins s σ H x y u v Q I r1 r2 (i _ _ _ _ hq)
theorem Pk.int' {v : V} {i : Int} (h : Pk K B H v (.int i)) : v = .int i := by cases h with | s h => cases h; rfl
theorem Pk.str' {v : V} {i : Str} (h : Pk K B H v (.str i)) : v = .str i := by cases h with | s h => cases h; rfl
theorem Pk.bl' {v : V} {i : Bool} (h : Pk K B H v (.bool i)) : v = .bl i := by cases h with | s h => cases h; rfl
theorem Dv.int' {v : V} {i : Int} (h : Dv K B v (.int i)) : v = .int i := by cases h; rfl
theorem Dv.str' {v : V} {i : Str} (h : Dv K B v (.str i)) : v = .str i := by cases h; rfl
theorem Dv.bl' {v : V} {i : Bool} (h : Dv K B v (.bool i)) : v = .bl i := by cases h; rfl
theorem Dv.non' {v : V} (h : Dv K B v .none) : v = .non := by cases h; rfl
theorem intsD_all : ∀ {ds : List D} {vs : List V} {is : List Int}, DvAll K B vs ds → intsD ds = some is → vs = is.map V.int ∧ ds = is.map PyData.int := by
  intro ds
  induction ds with
  | nil => intro vs is h e; cases h; simp only [intsD, Option.some.injEq] at e; subst e; exact ⟨rfl, rfl⟩
  | cons d ds ih =>
    intro vs is h e
    cases h with
    | cons hd ht =>
      cases d with
      | int i =>
        simp only [intsD, Option.map_eq_some_iff] at e
        obtain ⟨js, e, rfl⟩ := e
        obtain ⟨h1, h2⟩ := ih ht e
        subst h1 h2
        cases hd
        exact ⟨rfl, rfl⟩
      | _ => simp [intsD] at e
theorem boolsD_all : ∀ {ds : List D} {vs : List V} {is : List Bool}, DvAll K B vs ds → boolsD ds = some is → vs = is.map V.bl ∧ ds = is.map PyData.bool := by
  intro ds
  induction ds with
  | nil => intro vs is h e; cases h; simp only [boolsD, Option.some.injEq] at e; subst e; exact ⟨rfl, rfl⟩
  | cons d ds ih =>
    intro vs is h e
    cases h with
    | cons hd ht =>
      cases d with
      | bool i =>
        simp only [boolsD, Option.map_eq_some_iff] at e
        obtain ⟨js, e, rfl⟩ := e
        obtain ⟨h1, h2⟩ := ih ht e
        subst h1 h2
        cases hd
        exact ⟨rfl, rfl⟩
      | _ => simp [boolsD] at e
theorem DvAll.ints (is : List Int) : DvAll K B (is.map V.int) (is.map PyData.int) := by
  induction is with
  | nil => exact .nil
  | cons i is ih => exact .cons (.int i) ih
/-! ### of one value -/
abbrev VC1 (X : Cx) (f : Value) (o : B1) : Prop := CallR X f fun xs H Q => ∃ x, xs = [x] ∧ RV1 X.K o.sh (b1 o) x H Q
theorem vc_len : VC1 X (.builtin "len") .len := cimp call_len fun xs H Q h => by
  obtain ⟨x, rfl, B, da, d, e, hx, hd, q⟩ := h
  cases da with
  | list ds =>
    obtain ⟨a, vs, rfl, hs, t⟩ := hx.list e
    simp only [b1, Option.some.injEq] at hd
    subst hd
    exact ⟨_, _, rfl, .inl ⟨_, hs, rfl⟩, q.s e (by rw [t.length]; exact .int _)⟩
  | tuple ds =>
    obtain ⟨a, vs, rfl, hs, t⟩ := hx.tuple e
    simp only [b1, Option.some.injEq] at hd
    subst hd
    exact ⟨_, _, rfl, .inr ⟨_, hs, rfl⟩, q.s e (by rw [t.length]; exact .int _)⟩
  | str z =>
    obtain rfl := hx.str'
    simp only [b1] at hd
    split at hd
    · rename_i hl
      simp only [Option.some.injEq] at hd
      subst hd
      exact ⟨_, z.length, rfl, ⟨lim_size hl, rfl⟩, q.s e (.int _)⟩
    · cases hd
  | _ => simp [b1] at hd
theorem vc_abs : VC1 X (.builtin "abs") .abs := cimp call_abs fun xs H Q h => by
  obtain ⟨x, rfl, B, da, d, e, hx, hd, q⟩ := h
  cases da with
  | int i =>
    obtain rfl := hx.int'
    simp only [b1, Option.some.injEq] at hd
    subst hd
    exact ⟨_, rfl, q.s e (.int _)⟩
  | _ => simp [b1] at hd
theorem vc_int : VC1 X (.type "int") .int := cimp call_int1 fun xs H Q h => by
  obtain ⟨x, rfl, B, da, d, e, hx, hd, q⟩ := h
  cases da with
  | int i =>
    obtain rfl := hx.int'
    simp only [b1, Option.some.injEq] at hd
    subst hd
    exact .inl ⟨_, rfl, q.s e (.int _)⟩
  | bool i =>
    obtain rfl := hx.bl'
    simp only [b1, Option.some.injEq] at hd
    subst hd
    exact .inr ⟨_, rfl, q.s e (.int _)⟩
  | _ => simp [b1] at hd
theorem vc_tup : VC1 X (.type "tuple") .tup := cimp call_tuple_of fun xs H Q h => by
  obtain ⟨x, rfl, B, da, d, e, hx, hd, q⟩ := h
  cases da with
  | list ds =>
    obtain ⟨a, vs, rfl, hs, t⟩ := hx.list e
    simp only [b1, Option.some.injEq] at hd
    subst hd
    exact ⟨_, _, rfl, .inl ⟨hs, fun l hl => q.newT e t hl⟩⟩
  | tuple ds =>
    obtain ⟨a, vs, rfl, hs, t⟩ := hx.tuple e
    simp only [b1, Option.some.injEq] at hd
    subst hd
    cases hx with
    | s hx => exact ⟨_, _, rfl, .inr ⟨hs, q.s e hx⟩⟩
  | _ => simp [b1] at hd
theorem vc_lst : VC1 X (.type "list") .lst := cimp call_list_of fun xs H Q h => by
  obtain ⟨x, rfl, B, da, d, e, hx, hd, q⟩ := h
  cases da with
  | list ds =>
    obtain ⟨a, vs, rfl, hs, t⟩ := hx.list e
    simp only [b1, Option.some.injEq] at hd
    subst hd
    exact ⟨_, _, rfl, .inl hs, fun l hl => PostV.newL q e t hl⟩
  | tuple ds =>
    obtain ⟨a, vs, rfl, hs, t⟩ := hx.tuple e
    simp only [b1, Option.some.injEq] at hd
    subst hd
    exact ⟨_, _, rfl, .inr hs, fun l hl => PostV.newL q e t hl⟩
  | _ => simp [b1] at hd
theorem vc_sum (hc : X.calm = true) : VC1 X (.builtin "sum") .sum := cimp (cr_sum hc) fun xs H Q h => by
  obtain ⟨x, rfl, B, da, d, e, hx, hd, q⟩ := h
  cases da with
  | list ds =>
    obtain ⟨a, vs, rfl, hs, t⟩ := hx.list e
    simp only [b1] at hd
    split at hd
    · rename_i is hi
      simp only [Option.some.injEq] at hd
      subst hd
      obtain ⟨rfl, _⟩ := intsD_all t hi
      exact ⟨_, is, rfl, hs, q.s e (.int _)⟩
    · cases hd
  | _ => simp [b1] at hd
theorem minI_spec : ∀ (is : List Int) (i : Int), minI i is ∈ i :: is ∧ ∀ y ∈ i :: is, minI i is ≤ y
  | [], i => ⟨by simp [minI], by simp [minI]⟩
  | j :: is, i => by
    simp only [minI]
    obtain ⟨h1, h2⟩ := minI_spec is (if j < i then j else i)
    constructor
    · rcases List.mem_cons.mp h1 with h | h
      · rw [h]; split <;> simp
      · exact List.mem_cons_of_mem _ (List.mem_cons_of_mem _ h)
    · intro y hy
      have h3 := h2 (if j < i then j else i) List.mem_cons_self
      generalize minI (if j < i then j else i) is = z at h2 h3 ⊢
      rcases List.mem_cons.mp hy with h | h
      · subst h; split at h3 <;> omega
      · rcases List.mem_cons.mp h with h | h
        · subst h; split at h3 <;> omega
        · exact h2 y (List.mem_cons_of_mem _ h)
theorem maxI_spec : ∀ (is : List Int) (i : Int), maxI i is ∈ i :: is ∧ ∀ y ∈ i :: is, y ≤ maxI i is
  | [], i => ⟨by simp [maxI], by simp [maxI]⟩
  | j :: is, i => by
    simp only [maxI]
    obtain ⟨h1, h2⟩ := maxI_spec is (if i < j then j else i)
    constructor
    · rcases List.mem_cons.mp h1 with h | h
      · rw [h]; split <;> simp
      · exact List.mem_cons_of_mem _ (List.mem_cons_of_mem _ h)
    · intro y hy
      have h3 := h2 (if i < j then j else i) List.mem_cons_self
      generalize maxI (if i < j then j else i) is = z at h2 h3 ⊢
      rcases List.mem_cons.mp hy with h | h
      · subst h; split at h3 <;> omega
      · rcases List.mem_cons.mp h with h | h
        · subst h; split at h3 <;> omega
        · exact h2 y (List.mem_cons_of_mem _ h)
theorem vc_minL (hc : X.calm = true) : VC1 X (.builtin "min") .minL := cimp (cr_minT hc) fun xs H Q h => by
  obtain ⟨x, rfl, B, da, d, e, hx, hd, q⟩ := h
  have fin : ∀ {ds : List D} {vs : List V}, DvAll X.K B vs ds → (match intsD ds with | some (i :: is) => some (PyData.int (minI i is)) | _ => none) = some d → ∃ ns : List Int, vs = ns.map V.int ∧ 0 < ns.length ∧ ∀ m, m ∈ ns → (∀ y, y ∈ ns → m ≤ y) → Q (.int m) H := fun {ds vs} t hd => by
    split at hd
    · rename_i i is hi
      simp only [Option.some.injEq] at hd
      subst hd
      obtain ⟨rfl, _⟩ := intsD_all t hi
      refine ⟨i :: is, rfl, by simp, fun m h1 h2 => ?_⟩
      obtain ⟨k1, k2⟩ := minI_spec is i
      have : m = minI i is := Int.le_antisymm (h2 _ k1) (k2 _ h1)
      subst this
      exact q.s e (.int _)
    · cases hd
  cases da with
  | list ds =>
    obtain ⟨a, vs, rfl, hs, t⟩ := hx.list e
    obtain ⟨ns, rfl, h1, h2⟩ := fin t hd
    exact ⟨a, ns, rfl, .inl hs, h1, h2⟩
  | tuple ds =>
    obtain ⟨a, vs, rfl, hs, t⟩ := hx.tuple e
    obtain ⟨ns, rfl, h1, h2⟩ := fin t hd
    exact ⟨a, ns, rfl, .inr hs, h1, h2⟩
  | _ => simp [b1] at hd
theorem vc_maxL (hc : X.calm = true) : VC1 X (.builtin "max") .maxL := cimp (cr_max hc) fun xs H Q h => by
  obtain ⟨x, rfl, B, da, d, e, hx, hd, q⟩ := h
  cases da with
  | list ds =>
    obtain ⟨a, vs, rfl, hs, t⟩ := hx.list e
    simp only [b1] at hd
    split at hd
    · rename_i i is hi
      simp only [Option.some.injEq] at hd
      subst hd
      obtain ⟨rfl, _⟩ := intsD_all t hi
      refine ⟨_, i :: is, rfl, hs, by simp, fun m h1 h2 => ?_⟩
      obtain ⟨k1, k2⟩ := maxI_spec is i
      have : m = maxI i is := Int.le_antisymm (k2 _ h1) (h2 _ k1)
      subst this
      exact q.s e (.int _)
    · cases hd
  | _ => simp [b1] at hd
theorem vc_all (hc : X.calm = true) : VC1 X (.builtin "all") .all_ := cimp (cr_all hc) fun xs H Q h => by
  obtain ⟨x, rfl, B, da, d, e, hx, hd, q⟩ := h
  cases da with
  | list ds =>
    obtain ⟨a, vs, rfl, hs, t⟩ := hx.list e
    simp only [b1] at hd
    split at hd
    · rename_i is hi
      simp only [Option.some.injEq] at hd
      subst hd
      obtain ⟨rfl, _⟩ := boolsD_all t hi
      exact ⟨_, is, rfl, hs, q.s e (.bl _)⟩
    · cases hd
  | _ => simp [b1] at hd
theorem vc_any (hc : X.calm = true) : VC1 X (.builtin "any") .any_ := cimp (cr_any hc) fun xs H Q h => by
  obtain ⟨x, rfl, B, da, d, e, hx, hd, q⟩ := h
  cases da with
  | list ds =>
    obtain ⟨a, vs, rfl, hs, t⟩ := hx.list e
    simp only [b1] at hd
    split at hd
    · rename_i is hi
      simp only [Option.some.injEq] at hd
      subst hd
      obtain ⟨rfl, _⟩ := boolsD_all t hi
      exact ⟨_, is, rfl, hs, q.s e (.bl _)⟩
    · cases hd
  | _ => simp [b1] at hd
/-! ### repr -/
mutual
theorem Dv.dp : ∀ {v : V} {d : D}, Same B H → Dv K B v d → d.hasDict = false → Dp K H v d
  | _, _, _, .non, _ => .non
  | _, _, _, .bl b, _ => .bl b
  | _, _, _, .int i, _ => .int i
  | _, _, _, .str x, _ => .str x
  | _, _, e, .lst h t, n => .lst (.of (e _ _ h)) (DvAll.dp e t (by simpa [PyData.hasDict] using n))
  | _, _, e, .tup h t, n => .tup (Le.tup e h) (DvAll.dp e t (by simpa [PyData.hasDict] using n))
  | _, _, _, .dk _ _, n => by simp [PyData.hasDict] at n
  | _, _, _, .dt _ _, n => by simp [PyData.hasDict] at n
theorem DvAll.dp : ∀ {v : List V} {d : List D}, Same B H → DvAll K B v d → PyData.hasDictAll d = false → DpAll K H v d
  | _, _, _, .nil, _ => .nil
  | _, _, e, .cons h t, n => by
    simp only [PyData.hasDictAll, Bool.or_eq_false_iff] at n
    exact .cons (Dv.dp e h n.1) (DvAll.dp e t n.2)
end
theorem Pk.dp {v : V} {d : D} (e : Same B H) (h : Pk K B H v d) (n : d.hasDict = false) : Dp K H v d := by
  cases h with
  | s h => exact h.dp e n
  | l h t => exact .lst (.of h) (t.dp e (by simpa [PyData.hasDict] using n))
  | z h t => exact .lst h (t.dp e (by simpa [PyData.hasDict] using n))
theorem repr_reads {X : Cx} {pins : List (Addr × Obj)} {s : Shared} {σ : L2.St} {u : Value} {d : D} {as : List Addr} {Q : VK} (I : Inv X pins σ H s) (hg : X.A.guards = some []) (hu : X.A.units + 70 < cLine) (r : Reads s.heap u d as)
    (hs : d.showable = true) (hd : d.depth ≤ 64) (hsm : d.hasDict = true → sysModules ∉ as) (hl : d.shown.length ≤ sizeLine) (q : Q (.str d.shown) H) :
    wpAny (model X.prog X.w) X.A (call (.builtin "repr") [u]) (EP X pins σ Q) X.xe s := by
  have fin : ∀ {h' : Heap} {t u' : Nat}, (∀ b o, s.heap.get? b = some o → h'.get? b = some o) → EP X pins σ Q (.str d.shown u') { s with heap := h', toks := t } := fun k => ⟨.str _, H, I.kept k, ⟨_, rfl⟩, q⟩
  cases r with
  | none => exact PySem.P.repr_of_none (by have h := fin (h' := s.heap) (t := s.toks + 1) (u' := s.toks) (fun _ _ e => e); simpa [PyData.shown] using h)
  | bool b => exact PySem.P.repr_of_bool (by have h := fin (h' := s.heap) (t := s.toks + 1) (u' := s.toks) (fun _ _ e => e); simpa [PyData.shown] using h)
  | int i t => exact PySem.P.repr_of_int (by simpa [PyData.showable] using hs) (by have h := fin (h' := s.heap) (t := s.toks + 1) (u' := s.toks) (fun _ _ e => e); simpa [PyData.shown] using h)
  | str x t => exact PySem.P.repr_of_str (by have h := fin (h' := s.heap) (t := s.toks + 1) (u' := s.toks) (fun _ _ e => e); simpa [PyData.shown] using h) (by simpa [PyData.shown] using hl)
  | list h1 h2 h3 h4 => exact repr_of_reads' (.list h1 h2 h3 h4) hs hsm hg (by omega) (fun _ _ e => e) (fun h' u' tk k => fin k) hl
  | tuple h1 h2 h3 h4 => exact repr_of_reads' (.tuple h1 h2 h3 h4) hs hsm hg (by omega) (fun _ _ e => e) (fun h' u' tk k => fin k) hl
  | dict h1 h2 h3 h4 h5 => exact repr_of_reads' (.dict h1 h2 h3 h4 h5) hs hsm hg (by omega) (fun _ _ e => e) (fun h' u' tk k => fin k) hl
theorem vc_repr (hg : X.A.guards = some []) (hu : X.A.units + 70 < cLine) : VC1 X (.builtin "repr") .repr := by
  intro pins s σ H xs us Q I rv h
  obtain ⟨x, rfl, B, da, d, e, hx, hd, q⟩ := h
  obtain ⟨u, rfl, r⟩ := vals1 rv
  simp only [b1] at hd
  split at hd
  · rename_i hc
    simp only [Bool.and_eq_true, decide_eq_true_eq, Bool.not_eq_true'] at hc
    obtain ⟨⟨⟨c1, c2⟩, c3⟩, c4⟩ := hc
    simp only [Option.some.injEq] at hd
    subst hd
    obtain ⟨as, hr⟩ := Dp.reads I da x u (hx.dp e c3) r
    exact repr_reads I hg hu hr c1 c2 (fun z => by rw [c3] at z; cases z) (lim_size c4) (q.s e (.str _))
  · cases hd
end
end TV

/-! tuples of ints: less -/
namespace TV
open PySem PySem.Spec PyProof.Rows L2
def rLtT (K : PySem.W.Frag) : R2 := fun x y H Q => ∃ (a b : Addr) (ns ms : List Int), x = .ref a ∧ y = .ref b ∧ SqT K H a (ns.map V.int) ∧ SqT K H b (ms.map V.int) ∧ Q (.bl (lexLtI ns ms)) H
def rLeT2 (K : PySem.W.Frag) : R2 := fun x y H Q => ∃ (a b : Addr) (ns ms : List Int), x = .ref a ∧ y = .ref b ∧ SqT K H a (ns.map V.int) ∧ SqT K H b (ms.map V.int) ∧ Q (.bl (lexLeT ns ms)) H
theorem lexAt_shift {e r e' r' : Nat → Bool} {z : Bool} (he : ∀ j, e (j + 1) = e' j) (hr : ∀ j, r (j + 1) = r' j) : ∀ (k i : Nat), Ob.lexAt e r z (i + 1) k = Ob.lexAt e' r' z i k
  | 0, _ => rfl
  | k + 1, i => by rw [Ob.lexAt_succ, Ob.lexAt_succ, he, hr, lexAt_shift he hr k (i + 1)]
theorem lexAt_lt : ∀ (ns ms : List Int), Ob.lexAt (fun j => decide (ns.getD j 0 = ms.getD j 0)) (fun j => decide (ns.getD j 0 < ms.getD j 0)) (decide (ns.length < ms.length)) 0 (min ns.length ms.length) = lexLtI ns ms
  | [], [] => rfl
  | [], _ :: _ => by simp [lexLtI, Ob.lexAt_zero]
  | _ :: _, [] => by simp [lexLtI, Ob.lexAt_zero]
  | x :: xs, y :: ys => by
    have ih := lexAt_lt xs ys
    simp only [List.length_cons, Nat.succ_min_succ, Ob.lexAt_succ, List.getD_cons_zero, decide_eq_true_eq, Nat.add_lt_add_iff_right]
    rw [lexAt_shift (e' := fun j => decide (xs.getD j 0 = ys.getD j 0)) (r' := fun j => decide (xs.getD j 0 < ys.getD j 0)) (fun j => rfl) (fun j => rfl), ih]
    rfl
theorem lexAt_le : ∀ (ns ms : List Int), Ob.lexAt (fun j => decide (ns.getD j 0 = ms.getD j 0)) (fun j => decide (ns.getD j 0 ≤ ms.getD j 0)) (decide (ns.length ≤ ms.length)) 0 (min ns.length ms.length) = lexLeT ns ms
  | [], [] => rfl
  | [], _ :: _ => by simp [lexLeT, Ob.lexAt_zero]
  | _ :: _, [] => by simp [lexLeT, Ob.lexAt_zero]
  | x :: xs, y :: ys => by
    have ih := lexAt_le xs ys
    simp only [List.length_cons, Nat.succ_min_succ, Ob.lexAt_succ, List.getD_cons_zero, decide_eq_true_eq, Nat.add_le_add_iff_right]
    rw [lexAt_shift (e' := fun j => decide (xs.getD j 0 = ys.getD j 0)) (r' := fun j => decide (xs.getD j 0 ≤ ys.getD j 0)) (fun j => rfl) (fun j => rfl), ih]
    rfl
theorem op_leT2 {X : Cx} (hu : X.A.units < cLine) : OpR X (compareOp .LtE) (rLeT2 X.K) := fun pins s σ H x y v u Q I rx ry h => by
  obtain ⟨a, b, ns, ms, rfl, rfl, ha, hb, q⟩ := h
  exact op_leT hu pins s σ H _ _ v u Q I rx ry ⟨a, b, ns, ms, rfl, rfl, ha, hb, by rw [lexAt_le]; exact q⟩
theorem op_ltT {X : Cx} (hu : X.A.units < cLine) : OpR X (compareOp .Lt) (rLtT X.K) := by
  intro pins s σ H x y v u Q I rx ry h
  obtain ⟨a, b, ns, ms, rfl, rfl, ha, hb, q⟩ := h
  cases rx; cases ry
  obtain ⟨its, r1, p1, _⟩ := I.tuple ha; obtain ⟨its2, r2, p2, _⟩ := I.tuple hb
  have i1 : IntsAre its ns := Vals.ints r1; have i2 : IntsAre its2 ms := Vals.ints r2
  have e1 : its.toArray.size = ns.length := by simpa using i1.length
  have e2 : its2.toArray.size = ms.length := by simpa using i2.length
  have g : ∀ {is : List Value} {ks : List Int}, IntsAre is ks → ∀ j (h1 : j < is.toArray.size), ∃ t, is.toArray[j] = .int (ks.getD j 0) t := fun {is ks} ii j h1 => PyProof.Rows.IntsAre.int_at ii _ _ (by simp at h1; simp [h1])
  have R := Ob.RcOp.tuples_lt (A := X.A) (s := s) (e := fun j => decide (ns.getD j 0 = ms.getD j 0)) (r := fun j => decide (ns.getD j 0 < ms.getD j 0)) p1 p2 hu (fun j h1 h2 => by
    obtain ⟨t, et⟩ := g i1 j h1; obtain ⟨t', et'⟩ := g i2 j h2; rw [et, et']
    have z : (ns.getD j 0 == ms.getD j 0) = decide (ns.getD j 0 = ms.getD j 0) := by
      by_cases q : ns.getD j 0 = ms.getD j 0
      · rw [decide_eq_true q, q]; simp
      · rw [decide_eq_false q]; simpa using q
    rw [← z]; exact SeqAt.EqAt.int_int _ _ _ _) (fun j h1 h2 _ => by
    obtain ⟨t, et⟩ := g i1 j h1; obtain ⟨t', et'⟩ := g i2 j h2; rw [et, et']; exact Ob.RcOp.lt_int _ _ _ _)
  rw [e1, e2, lexAt_lt] at R
  have z : wpAny (model X.prog X.w) X.A (compareOp .Lt (.ref a) (.ref b)) (EP X pins σ Q) X.xe s := R X.prog X.w X.xe (EP X pins σ Q) ⟨.bl _, H, I, rfl, q⟩
  exact z
end TV
/-! V4: operations on two values. -/
namespace TV
open PySem PySem.Spec PyProof.Rows L2
section
variable {X : Cx} {K : PySem.W.Frag} {B H : Hp} {x y : V} {da db : D}
abbrev VO2 (X : Cx) (f : Value → Value → Sem Value) (o : B2) : Prop := OpR X f (RV2 X.K o.sh (b2 o))
theorem Pk.exact {v : V} {ds : List D} (h : Pk K B H v (.list ds)) (e : Same B H) (nz : ¬ ∃ a vs, v = .ref a ∧ SqL K B a vs ∧ B a = none) : True := trivial
/-- two lists, tracked or of the script: + -/
theorem op_catP : OpR X (binaryOp .Add) (fun x y H Q => ∃ l b xs zs, x = .ref l ∧ y = .ref b ∧ H l = some (.lst xs) ∧ H b = some (.lst zs) ∧ xs.length + zs.length ≤ sizeLine ∧ ∀ p, H p = none → Q (.ref p) (upd H p (.lst (xs ++ zs)))) := op_cat
/-- an exact list -/
def exL (H : Hp) (v : V) : Prop := ∃ a vs, v = .ref a ∧ H a = some (.lst vs)
theorem vo_add_int {i j : Int} {Q : VK} {pins : List (Addr × Obj)} {s : Shared} {σ : L2.St} {u w : Value} (I : L2.Inv X pins σ H s) (ru : RelV (.int i) u) (rw : RelV (.int j) w) (q : Q (.int (i + j)) H) :
    wpAny (model X.prog X.w) X.A (binaryOp .Add u w) (EP X pins σ Q) X.xe s := op_add pins s σ H _ _ _ _ Q I ru rw ⟨i, j, rfl, rfl, q⟩
/-- lists that may be added: not the script's -/
def Ex (K : PySem.W.Frag) (B H : Hp) (v : V) (d : D) : Prop := Dv K B v d ∨ ∃ a vs ds, v = .ref a ∧ d = .list ds ∧ H a = some (.lst vs) ∧ DvAll K B vs ds
theorem Ex.pk {v : V} {d : D} (h : Ex K B H v d) : Pk K B H v d := by
  rcases h with h | ⟨a, vs, ds, rfl, rfl, h, t⟩
  · exact .s h
  · exact .l h t
theorem Ex.list {v : V} {ds : List D} (h : Ex K B H v (.list ds)) (e : Same B H) : ∃ a vs, v = .ref a ∧ H a = some (.lst vs) ∧ DvAll K B vs ds := by
  rcases h with h | ⟨a, vs, ds, rfl, q, h, t⟩
  · cases h with
    | lst h t => exact ⟨_, _, rfl, e _ _ h, t⟩
  · cases q; exact ⟨_, _, rfl, h, t⟩
def RX2 (K : PySem.W.Frag) (sh : Sh) (g : D → D → Option D) (x y : V) (H : Hp) (Q : VK) : Prop := ∃ B da db d, Same B H ∧ Ex K B H x da ∧ Ex K B H y db ∧ g da db = some d ∧ PostV K B H sh d Q
theorem vo_addL : OpR X (binaryOp .Add) (RX2 X.K (.l .s) (b2 .addL)) := oimp op_cat fun x y H Q h => by
  obtain ⟨B, da, db, d, e, hx, hy, hd, q⟩ := h
  cases da with
  | list as =>
    cases db with
    | list bs =>
      simp only [b2] at hd
      split at hd
      · rename_i hl
        simp only [Option.some.injEq] at hd
        subst hd
        obtain ⟨a, vs, rfl, h1, t1⟩ := hx.list e
        obtain ⟨b, us, rfl, h2, t2⟩ := hy.list e
        exact ⟨a, b, vs, us, rfl, rfl, h1, h2, lim_size (by rw [t1.length, t2.length]; exact hl), fun p hp => PostV.newL q e (t1.append t2) hp⟩
      · cases hd
    | _ => simp [b2] at hd
  | _ => simp [b2] at hd
theorem vo_add : OpR X (binaryOp .Add) (RX2 X.K .s (b2 .add)) := by
  intro pins s σ H x y u w Q I ru rw h
  obtain ⟨B, da, db, d, e, hx, hy, hd, q⟩ := h
  cases da with
  | int i =>
    cases db with
    | int j =>
      obtain rfl := hx.pk.int'
      obtain rfl := hy.pk.int'
      simp only [b2, Option.some.injEq] at hd
      subst hd
      exact vo_add_int I ru rw (q.s e (.int _))
    | _ => simp [b2] at hd
  | str i =>
    cases db with
    | str j =>
      obtain rfl := hx.pk.str'
      obtain rfl := hy.pk.str'
      simp only [b2] at hd
      split at hd
      · rename_i hl
        simp only [Option.some.injEq] at hd
        subst hd
        exact op_add_str pins s σ H _ _ _ _ Q I ru rw ⟨i, j, rfl, rfl, lim_size hl, q.s e (.str _)⟩
      · cases hd
    | _ => simp [b2] at hd
  | tuple as =>
    cases db with
    | tuple bs =>
      simp only [b2] at hd
      split at hd
      · rename_i hl
        simp only [Option.some.injEq] at hd
        subst hd
        obtain ⟨a, vs, e1, h1, t1⟩ := hx.pk.tuple e
        obtain ⟨b, us, e2, h2, t2⟩ := hy.pk.tuple e
        subst e1 e2
        have hvx : Dv X.K B (.ref a) (.tuple as) := by cases hx.pk with | s h => exact h
        have hvy : Dv X.K B (.ref b) (.tuple bs) := by cases hy.pk with | s h => exact h
        refine op_catA pins s σ H _ _ _ _ Q I ru rw ⟨a, b, vs, us, rfl, rfl, h1, h2, lim_size (by rw [t1.length, t2.length]; exact hl), fun z => ?_, fun _ z => ?_, fun _ _ p hp => q.newT e (t1.append t2) hp⟩
        · subst z
          cases t1
          exact q.s e hvy
        · subst z
          cases t2
          rw [List.append_nil] at q
          exact q.s e hvx
      · cases hd
    | _ => simp [b2] at hd
  | list as =>
    cases db with
    | list bs =>
      simp only [b2] at hd
      split at hd
      · rename_i hl
        simp only [Option.some.injEq] at hd
        subst hd
        obtain ⟨a, vs, e1, h1, t1⟩ := hx.list e
        obtain ⟨b, us, e2, h2, t2⟩ := hy.list e
        subst e1 e2
        exact op_cat pins s σ H _ _ _ _ Q I ru rw ⟨a, b, vs, us, rfl, rfl, h1, h2, lim_size (by rw [t1.length, t2.length]; exact hl), fun p hp => q.newLs e (t1.append t2) hp⟩
      · cases hd
    | _ => simp [b2] at hd
  | _ => simp [b2] at hd
/-- ints alone -/
theorem vo_ints {f : Value → Value → Sem Value} {C : Int → Int → Prop} {g : Int → Int → V} {o : B2} (h : OpR X f (rI C g)) (hs : o.sh = .s)
    (k : ∀ da db d, b2 o da db = some d → ∃ i j, da = .int i ∧ db = .int j ∧ C i j ∧ ∀ K B, Dv K B (g i j) d) : VO2 X f o := oimp h fun x y H Q h => by
  obtain ⟨B, da, db, d, e, hx, hy, hd, q⟩ := h
  obtain ⟨i, j, rfl, rfl, c, hv⟩ := k _ _ _ hd
  obtain rfl := hx.int'
  obtain rfl := hy.int'
  rw [hs] at q
  exact ⟨i, j, rfl, rfl, c, q.s e (hv _ _)⟩
theorem vo_ints0 {f : Value → Value → Sem Value} {g : Int → Int → V} {o : B2} (h : OpR X f (rI0 g)) (hs : o.sh = .s)
    (k : ∀ da db d, b2 o da db = some d → ∃ i j, da = .int i ∧ db = .int j ∧ ∀ K B, Dv K B (g i j) d) : VO2 X f o := oimp h fun x y H Q h => by
  obtain ⟨B, da, db, d, e, hx, hy, hd, q⟩ := h
  obtain ⟨i, j, rfl, rfl, hv⟩ := k _ _ _ hd
  obtain rfl := hx.int'
  obtain rfl := hy.int'
  rw [hs] at q
  exact ⟨i, j, rfl, rfl, q.s e (hv _ _)⟩
theorem vo_sub : VO2 X (binaryOp .Sub) .sub := vo_ints0 op_sub rfl fun da db d h => by
  unfold b2 at h
  split at h <;> simp_all
  subst h
  exact fun K B => .int _
theorem vo_intsT {f : Value → Value → Sem Value} {g : Int → Int → V} {o : B2} {F : List Int → List Int → Bool} (h : OpR X f (rI0 g)) (hT : OpR X f (fun x y H Q => ∃ (a b : Addr) (ns ms : List Int), x = .ref a ∧ y = .ref b ∧ SqT X.K H a (ns.map V.int) ∧ SqT X.K H b (ms.map V.int) ∧ Q (.bl (F ns ms)) H)) (hs : o.sh = .s)
    (k : ∀ da db d, b2 o da db = some d → (∃ i j, da = .int i ∧ db = .int j ∧ ∀ K B, Dv K B (g i j) d) ∨ ∃ as bs xs ys, da = .tuple as ∧ db = .tuple bs ∧ intsD as = some xs ∧ intsD bs = some ys ∧ d = .bool (F xs ys)) : VO2 X f o := fun pins s σ H x y u v Q I r1 r2 q => by
  obtain ⟨B, da, db, d, e, hx, hy, hd, q⟩ := q
  rw [hs] at q
  rcases k _ _ _ hd with ⟨i, j, rfl, rfl, hv⟩ | ⟨as, bs, xs, ys, rfl, rfl, h1, h2, rfl⟩
  · obtain rfl := hx.int'
    obtain rfl := hy.int'
    exact h pins s σ H _ _ u v Q I r1 r2 ⟨i, j, rfl, rfl, q.s e (hv _ _)⟩
  · obtain ⟨a, vs, rfl, s1, t1⟩ := hx.tuple e
    obtain ⟨b, us, rfl, s2, t2⟩ := hy.tuple e
    obtain ⟨rfl, _⟩ := intsD_all t1 h1
    obtain ⟨rfl, _⟩ := intsD_all t2 h2
    exact hT pins s σ H _ _ u v Q I r1 r2 ⟨a, b, xs, ys, rfl, rfl, s1, s2, q.s e (.bl _)⟩
theorem lexD_some {F : List Int → List Int → Bool} {as bs : List D} {d : D} (h : lexD F as bs = some d) : ∃ xs ys, intsD as = some xs ∧ intsD bs = some ys ∧ d = .bool (F xs ys) := by
  unfold lexD at h
  split at h
  · rename_i xs ys h1 h2
    cases h
    exact ⟨xs, ys, h1, h2, rfl⟩
  · cases h
theorem vo_lt (hu : X.A.units < cLine) : VO2 X (compareOp .Lt) .lt := vo_intsT (F := lexLtI) op_lt (op_ltT hu) rfl fun da db d h => by
  cases da <;> cases db <;> simp only [b2, Option.some.injEq, reduceCtorEq] at h
  · subst h; exact .inl ⟨_, _, rfl, rfl, fun K B => .bl _⟩
  · obtain ⟨xs, ys, h1, h2, h3⟩ := lexD_some h
    exact .inr ⟨_, _, xs, ys, rfl, rfl, h1, h2, h3⟩
theorem vo_le (hu : X.A.units < cLine) : VO2 X (compareOp .LtE) .le := vo_intsT (F := lexLeT) op_le (op_leT2 hu) rfl fun da db d h => by
  cases da <;> cases db <;> simp only [b2, Option.some.injEq, reduceCtorEq] at h
  · subst h; exact .inl ⟨_, _, rfl, rfl, fun K B => .bl _⟩
  · obtain ⟨xs, ys, h1, h2, h3⟩ := lexD_some h
    exact .inr ⟨_, _, xs, ys, rfl, rfl, h1, h2, h3⟩
theorem vo_gt : VO2 X (compareOp .Gt) .gt := vo_ints0 op_gt rfl fun da db d h => by
  unfold b2 at h
  split at h <;> simp_all
  subst h
  exact fun K B => .bl _
theorem vo_ge : VO2 X (compareOp .GtE) .ge := vo_ints0 op_ge rfl fun da db d h => by
  unfold b2 at h
  split at h <;> simp_all
  subst h
  exact fun K B => .bl _
theorem vo_fdiv : VO2 X (binaryOp .FloorDiv) .fdiv := vo_ints op_fdiv rfl fun da db d h => by
  unfold b2 at h
  split at h <;> simp_all [CDiv]
  obtain ⟨_, rfl⟩ := h
  exact fun K B => .int _
theorem vo_mod : VO2 X (binaryOp .Mod) .mod := vo_ints op_mod rfl fun da db d h => by
  unfold b2 at h
  split at h <;> simp_all
  obtain ⟨_, rfl⟩ := h
  exact fun K B => .int _
theorem vo_pow : VO2 X (binaryOp .Pow) .pow := vo_ints op_pow rfl fun da db d h => by
  unfold b2 at h
  split at h <;> simp_all [CPow]
  rename_i i j
  obtain ⟨⟨⟨h1, h2⟩, h3⟩, rfl⟩ := h
  exact ⟨⟨by omega, by omega⟩, fun K B => .int _⟩
theorem b2_repr {da db d : D} (h : b2 .eq da db = some d) : shaped da = true ∧ shaped db = true ∧ d = .bool (PyData.eqv da db) := by
  have h : (eqD da db).map PyData.bool = some d := by simpa [b2] using h
  unfold eqD at h
  split at h
  · rename_i c
    simp only [Bool.and_eq_true] at c
    simp only [Option.map_some, Option.some.injEq] at h
    exact ⟨c.1, c.2, h.symm⟩
  · simp at h
theorem b2_ne {da db d : D} (h : b2 .ne da db = some d) : shaped da = true ∧ shaped db = true ∧ d = .bool (!PyData.eqv da db) := by
  have h : (eqD da db).map (fun r => PyData.bool (!r)) = some d := by simpa [b2] using h
  unfold eqD at h
  split at h
  · rename_i c
    simp only [Bool.and_eq_true] at c
    simp only [Option.map_some, Option.some.injEq] at h
    exact ⟨c.1, c.2, h.symm⟩
  · simp at h
theorem noDict_shaped {d : D} (h : shaped d = true) : d.hasDict = false := PyData.hasDict_of_canLay d (SeqAt.canLay_of_shaped h)
theorem vo_eq (hu : X.A.units + 64 < cLine) : VO2 X (compareOp .Eq) .eq := oimp (op_eqD hu) fun x y H Q h => by
  obtain ⟨B, da, db, d, e, hx, hy, hd, q⟩ := h
  obtain ⟨s1, s2, rfl⟩ := b2_repr hd
  exact ⟨da, db, hx.dp e (noDict_shaped s1), hy.dp e (noDict_shaped s2), s1, s2, PostV.s q e (.bl _)⟩
theorem vo_ne (hu : X.A.units + 64 < cLine) : VO2 X (compareOp .NotEq) .ne := oimp (op_neD hu) fun x y H Q h => by
  obtain ⟨B, da, db, d, e, hx, hy, hd, q⟩ := h
  obtain ⟨s1, s2, rfl⟩ := b2_ne hd
  exact ⟨da, db, hx.dp e (noDict_shaped s1), hy.dp e (noDict_shaped s2), s1, s2, PostV.s q e (.bl _)⟩
theorem inD_some {a : D} {ds : List D} {r : Bool} (h : inD a ds = some r) : shaped a = true ∧ shaped (.list ds) = true ∧ r = ds.any fun z => PyData.eqv z a := by
  unfold inD at h
  split at h
  · rename_i hc
    rw [Bool.and_eq_true] at hc
    cases h
    exact ⟨hc.1, hc.2, rfl⟩
  · cases h
def rInT (K : PySem.W.Frag) (sg : Bool) : R2 := fun x y H Q => ∃ d ds, Dp K H x d ∧ (Dp K H y (.list ds) ∨ Dp K H y (.tuple ds)) ∧ shaped d = true ∧ shaped (.list ds) = true ∧ Q (.bl (Bool.xor sg (ds.any fun z => PyData.eqv z d))) H
theorem op_inT (hu : X.A.units + 65 < cLine) : OpR X (compareOp .In) (rInT X.K false) := by
  intro pins s σ H x y v u Q I rx ry h
  obtain ⟨d, ds, hd, he, sd, se, q⟩ := h
  rw [Bool.false_xor] at q
  obtain ⟨as, z1⟩ := Dp.reads I d x v hd rx
  rcases he with he | he
  · obtain ⟨bs, z2⟩ := Dp.reads I (.list ds) y u he ry
    exact SeqAt.in_list_reads z2 z1 (SeqAt.canLay_of_shaped se) (SeqAt.canLay_of_shaped sd) (room_in_shaped sd hu) ⟨.bl _, H, I, rfl, q⟩
  · obtain ⟨bs, z2⟩ := Dp.reads I (.tuple ds) y u he ry
    exact SeqAt.in_tuple_reads z2 z1 (SeqAt.canLay_of_shaped se) (SeqAt.canLay_of_shaped sd) (room_in_shaped sd hu) ⟨.bl _, H, I, rfl, q⟩
theorem op_notInT (hu : X.A.units + 65 < cLine) : OpR X (compareOp .NotIn) (rInT X.K true) := by
  intro pins s σ H x y v u Q I rx ry h
  obtain ⟨d, ds, hd, he, sd, se, q⟩ := h
  rw [Bool.true_xor] at q
  obtain ⟨as, z1⟩ := Dp.reads I d x v hd rx
  rcases he with he | he
  · obtain ⟨bs, z2⟩ := Dp.reads I (.list ds) y u he ry
    exact SeqAt.notIn_list_reads z2 z1 (SeqAt.canLay_of_shaped se) (SeqAt.canLay_of_shaped sd) (room_in_shaped sd hu) ⟨.bl _, H, I, rfl, q⟩
  · obtain ⟨bs, z2⟩ := Dp.reads I (.tuple ds) y u he ry
    exact SeqAt.notIn_tuple_reads z2 z1 (SeqAt.canLay_of_shaped se) (SeqAt.canLay_of_shaped sd) (room_in_shaped sd hu) ⟨.bl _, H, I, rfl, q⟩
theorem noDict_items {ds : List D} (h : shaped (.list ds) = true) : PyData.hasDictAll ds = false := by
  have := noDict_shaped h
  simpa only [PyData.hasDict] using this
theorem vo_in (hu : X.A.units + 65 < cLine) : VO2 X (compareOp .In) .in_ := oimp (op_inT hu) fun x y H Q h => by
  obtain ⟨B, da, db, d, e, hx, hy, hd, q⟩ := h
  cases db with
  | list ds =>
    simp only [b2, Option.map_eq_some_iff] at hd
    obtain ⟨r, h1, rfl⟩ := hd
    obtain ⟨s1, s2, rfl⟩ := inD_some h1
    exact ⟨da, ds, hx.dp e (noDict_shaped s1), .inl (hy.dp e (noDict_shaped s2)), s1, s2, by rw [Bool.false_xor]; exact PostV.s q e (.bl _)⟩
  | tuple ds =>
    simp only [b2, Option.map_eq_some_iff] at hd
    obtain ⟨r, h1, rfl⟩ := hd
    obtain ⟨s1, s2, rfl⟩ := inD_some h1
    exact ⟨da, ds, hx.dp e (noDict_shaped s1), .inr (hy.dp e (by simpa only [PyData.hasDict] using noDict_items s2)), s1, s2, by rw [Bool.false_xor]; exact PostV.s q e (.bl _)⟩
  | _ => simp [b2] at hd
theorem vo_nin (hu : X.A.units + 65 < cLine) : VO2 X (compareOp .NotIn) .nin := oimp (op_notInT hu) fun x y H Q h => by
  obtain ⟨B, da, db, d, e, hx, hy, hd, q⟩ := h
  cases db with
  | list ds =>
    simp only [b2, Option.map_eq_some_iff] at hd
    obtain ⟨r, h1, rfl⟩ := hd
    obtain ⟨s1, s2, rfl⟩ := inD_some h1
    exact ⟨da, ds, hx.dp e (noDict_shaped s1), .inl (hy.dp e (noDict_shaped s2)), s1, s2, by rw [Bool.true_xor]; exact PostV.s q e (.bl _)⟩
  | tuple ds =>
    simp only [b2, Option.map_eq_some_iff] at hd
    obtain ⟨r, h1, rfl⟩ := hd
    obtain ⟨s1, s2, rfl⟩ := inD_some h1
    exact ⟨da, ds, hx.dp e (noDict_shaped s1), .inr (hy.dp e (by simpa only [PyData.hasDict] using noDict_items s2)), s1, s2, by rw [Bool.true_xor]; exact PostV.s q e (.bl _)⟩
  | _ => simp [b2] at hd
/-! isinstance -/
def tyN : D → String
  | .none => "NoneType"
  | .bool _ => "bool"
  | .int _ => "int"
  | .str _ => "str"
  | .list _ => "list"
  | .tuple _ => "tuple"
  | .dict _ => "dict"
def isTyN : B1 → Option String
  | .isInt => some "int"
  | .isBool => some "bool"
  | .isTup => some "tuple"
  | .isStr => some "str"
  | .isList => some "list"
  | _ => none
theorem Pk.ty {K : PySem.W.Frag} {B H : Hp} {v : V} {d : D} (e : Same B H) (h : Pk K B H v d) : TyX K H v (.type (tyN d)) := by
  have sq : ∀ {a : Addr} {xs : List V}, SqL K H a xs → TyX K H (.ref a) (.type "list") := fun h => by
    rcases h with (h | ⟨o, h⟩) | ⟨o, its, n, h1, h2, _⟩
    · exact .base (.lst h)
    · exact .base (.frz h)
    · exact .kList h1 h2
  cases h with
  | s h =>
    cases h with
    | non => exact .base .non
    | bl b => exact .base (.bl b)
    | int i => exact .base (.int i)
    | str x => exact .base (.str x)
    | lst h t => exact .base (.lst (e _ _ h))
    | tup h t =>
      rcases Le.tup e h with (h | ⟨o, h⟩) | ⟨o, its, n, h1, h2, _⟩
      · exact .base (.tup h)
      · exact .fTuple h
      · exact .kTuple h1 h2
    | dk h t => exact .base (.dK (e _ _ h))
    | dt h t => exact .base (.dT (e _ _ h))
  | l h t => exact .base (.lst h)
  | z h t => exact sq h
theorem b1_isi {f : B1} {n : String} (hf : isTyN f = some n) (d : D) : ∃ r, b1 f d = some (.bool r) ∧ kitB (tyN d) n = some r := by
  cases f <;> simp only [isTyN, Option.some.injEq, reduceCtorEq] at hf <;> subst hf <;> cases d <;> exact ⟨_, rfl, by simp only [tyN]; decide +kernel⟩
theorem ri_isi {K : PySem.W.Frag} {f : B1} {n : String} (hf : isTyN f = some n) {x : V} {H : Hp} {Q : VK} (h : RV1 K .s (b1 f) x H Q) : rIsi K [x, .ty n] H Q := by
  obtain ⟨B, da, d, e, hx, hd, q⟩ := h
  obtain ⟨r, h1, h2⟩ := b1_isi hf da
  rw [h1] at hd
  cases hd
  exact ⟨x, .ty n, _, _, r, rfl, .ty n, hx.ty e, kit_ty h2, PostV.s q e (.bl r)⟩
theorem Pk.isNon {v : V} {d : D} (h : Pk K B H v d) : (v = .non ∧ d = .none) ∨ (v ≠ .non ∧ d ≠ .none) := by
  cases h with
  | s h => cases h <;> simp
  | l => simp
  | z => simp
theorem vo_is : VO2 X (compareOp .Is) .is_ := oimp op_isN fun x y H Q h => by
  obtain ⟨B, da, db, d, e, hx, hy, hd, q⟩ := h
  cases db with
  | none =>
    rcases hy.isNon with ⟨rfl, _⟩ | ⟨_, z⟩
    · refine ⟨rfl, ?_⟩
      rcases hx.isNon with ⟨rfl, rfl⟩ | ⟨z1, z2⟩
      · simp only [b2, Option.some.injEq] at hd
        subst hd
        exact PostV.s q e (.bl _)
      · rw [decide_eq_false z1]
        cases da <;> first | exact absurd rfl z2 | (simp only [b2, Option.some.injEq] at hd; subst hd; exact PostV.s q e (.bl _))
    · exact absurd rfl z
  | _ => simp [b2] at hd
theorem vo_isnt : VO2 X (compareOp .IsNot) .isnt := oimp op_notN fun x y H Q h => by
  obtain ⟨B, da, db, d, e, hx, hy, hd, q⟩ := h
  cases db with
  | none =>
    rcases hy.isNon with ⟨rfl, _⟩ | ⟨_, z⟩
    · refine ⟨rfl, ?_⟩
      rcases hx.isNon with ⟨rfl, rfl⟩ | ⟨z1, z2⟩
      · simp only [b2, Option.some.injEq] at hd
        subst hd
        exact PostV.s q e (.bl _)
      · rw [decide_eq_false z1]
        cases da <;> first | exact absurd rfl z2 | (simp only [b2, Option.some.injEq] at hd; subst hd; exact PostV.s q e (.bl _))
    · exact absurd rfl z
  | _ => simp [b2] at hd
/-! ### subscripts -/
theorem atI_dv {vs : List V} {ds : List D} {i : Int} {d : D} (t : DvAll K B vs ds) (h : atD ds i = some d) : ∃ v, atI vs i = some v ∧ Dv K B v d := by
  unfold atD atI at h
  unfold atI
  rw [t.length]
  cases e : ixN ds.length i with
  | none => rw [e] at h; cases h
  | some j =>
    rw [e] at h
    exact t.get h
theorem vi_idx : IxR X (RV2 X.K .s (b2 .idx)) := by
  intro value slice pins s σ H x y u w Q I ru rw h hs
  obtain ⟨B, da, db, d, e, hx, hy, hd, q⟩ := h
  cases db with
  | int i =>
    obtain rfl := hy.int'
    cases da with
    | list ds =>
      simp only [b2] at hd
      obtain ⟨a, vs, rfl, h1, t1⟩ := hx.list e
      obtain ⟨v, h2, h3⟩ := atI_dv t1 hd
      exact ix_list value slice pins s σ H _ _ _ _ Q I ru rw ⟨a, vs, i, v, rfl, rfl, h1, h2, q.s e h3⟩ hs
    | tuple ds =>
      simp only [b2] at hd
      obtain ⟨a, vs, rfl, h1, t1⟩ := hx.tuple e
      obtain ⟨v, h2, h3⟩ := atI_dv t1 hd
      exact ix_tup value slice pins s σ H _ _ _ _ Q I ru rw ⟨a, vs, i, v, rfl, rfl, h1, h2, q.s e h3⟩ hs
    | _ => simp [b2] at hd
  | _ => cases da <;> simp [b2] at hd
theorem cutV_dv {vs : List V} {ds : List D} {lo hi : Option Int} (t : DvAll K B vs ds) : DvAll K B (cutV vs lo hi) (cutD ds lo hi) := by
  unfold cutV cutD
  rw [t.length]
  exact (t.drop _).take _
/-- a slice: its two bounds -/
def RS (K : PySem.W.Frag) (sh : Sh) (g : D → Option Int → Option Int → Option D) (x : V) (lo hi : Option Int) (H : Hp) (Q : VK) : Prop := ∃ B da d, Same B H ∧ Pk K B H x da ∧ g da lo hi = some d ∧ PostV K B H sh d Q
def slD : D → Option Int → Option Int → Option D
  | .tuple ds, lo, hi => some (.tuple (cutD ds lo hi))
  | .list ds, lo, hi => some (.list (cutD ds lo hi))
  | _, _, _ => none
def slLD : D → Option Int → Option Int → Option D
  | .list ds, lo, hi => some (.list (cutD ds lo hi))
  | _, _, _ => none
theorem cutD_all {ds : List D} {lo hi : Option Int} (h : HT.sIx ds.length 0 lo = 0 ∧ HT.sIx ds.length ds.length hi = ds.length) : cutD ds lo hi = ds := by
  unfold cutD
  rw [h.1, h.2]
  simp
theorem vs_sl : SlR X (RS X.K .s slD) := by
  intro pins s σ H x v vl vu lo hi sl Q I rx hs pl pu h
  obtain ⟨B, da, d, e, hx, hd, q⟩ := h
  cases da with
  | tuple ds =>
    simp only [slD, Option.some.injEq] at hd
    subst hd
    obtain ⟨a, vs, e1, h1, t1⟩ := hx.tuple e
    subst e1
    have hv : Dv X.K B (.ref a) (.tuple ds) := by cases hx with | s h => exact h
    refine sl_tupA pins s σ H _ v vl vu lo hi sl Q I rx hs pl pu ⟨a, vs, rfl, h1, fun z => ?_, fun z p hp => ?_⟩
    · rw [t1.length] at z
      rw [cutD_all z] at q
      exact q.s e hv
    · exact q.newT e (cutV_dv t1) hp
  | list ds =>
    simp only [slD, Option.some.injEq] at hd
    subst hd
    obtain ⟨a, vs, e1, h1, t1⟩ := hx.list e
    subst e1
    exact sl_list pins s σ H _ v vl vu lo hi sl Q I rx hs pl pu ⟨a, vs, rfl, h1, fun p hp => q.newLs e (cutV_dv t1) hp⟩
  | _ => simp [slD] at hd
theorem vs_slL : SlR X (RS X.K (.l .s) slLD) := by
  intro pins s σ H x v vl vu lo hi sl Q I rx hs pl pu h
  obtain ⟨B, da, d, e, hx, hd, q⟩ := h
  cases da with
  | list ds =>
    simp only [slLD, Option.some.injEq] at hd
    subst hd
    obtain ⟨a, vs, e1, h1, t1⟩ := hx.list e
    subst e1
    exact sl_list pins s σ H _ v vl vu lo hi sl Q I rx hs pl pu ⟨a, vs, rfl, h1, fun p hp => PostV.newL q e (cutV_dv t1) hp⟩
  | _ => simp [slLD] at hd
/-! ### products -/
theorem tuple_mul1 (l : Addr) (items : Array Value) (n : Nat) (dd : Option Addr) (sl : Array (Option Value)) (u : Tok) :
    Meets (Builtin.«tuple.__mul__» ⟨[.ref l, .int 1 u], []⟩) (fun _ R s => s.heap.get? l = some { cls := .type "tuple", dict := dd, data := .seq items n, slots := sl } ∧
      R (.ok (.ret (Value.ref l))) s) :=
  .of_wp fun prog w A R s h => by
    obtain ⟨hp, g, d, tk, os⟩ := s
    obtain ⟨hl, h⟩ := h
    have f1 := AutoSeq1.idx_int
    wp_walk using wpAny_loadPart' hl
    repeat (first
      | (refine wpAny_ite_false (decide_eq_false (by decide)) ?_; wp_walk using wpAny_loadPart' hl)
      | (refine wpAny_ite_true (decide_eq_true (by simp)) ?_; wp_walk using wpAny_loadPart' hl))
    exact ⟨_, rfl, h⟩
theorem tuple_mul0 (l : Addr) (items : Array Value) (n : Nat) (dd : Option Addr) (sl : Array (Option Value)) (x : Int) (u : Tok) (c0 : (decide (x < -(2 ^ 63)) || decide (x ≥ 2 ^ 63)) = false) (c1 : (items.isEmpty || x == 1) = false) (c2 : (decide (x ≤ 0) || items.isEmpty) = true) :
    Meets (Builtin.«tuple.__mul__» ⟨[.ref l, .int x u], []⟩) (fun _ R t => t.heap.get? l = some { cls := .type "tuple", dict := dd, data := .seq items n, slots := sl } ∧
      R (.ok (.ret (Value.ref t.heap.objs.size))) { t with heap := t.heap.push { cls := Value.type "tuple", data := Data.seq #[] } }) :=
  .of_wp fun prog w A R t h => by
    obtain ⟨hp, g, d, tk, os⟩ := t
    obtain ⟨hl, h⟩ := h
    have f1 := AutoSeq1.idx_int
    wp_walk using wpAny_loadPart' hl
    repeat (first
      | (refine wpAny_ite_false (decide_eq_false (by rw [c0]; decide)) ?_; wp_walk using wpAny_loadPart' hl)
      | (refine wpAny_ite_false (decide_eq_false (by rw [c1]; decide)) ?_; wp_walk using wpAny_loadPart' hl)
      | (refine wpAny_ite_true (decide_eq_true (by rw [c2])) ?_; wp_walk using wpAny_loadPart' hl))
    exact ⟨_, rfl, h⟩
theorem DvAll.rep {vs : List V} {ds : List D} (t : DvAll K B vs ds) : ∀ n, DvAll K B (List.replicate n vs).flatten (List.replicate n ds).flatten
  | 0 => .nil
  | n + 1 => by
    rw [List.replicate_succ, List.replicate_succ, List.flatten_cons, List.flatten_cons]
    exact t.append (DvAll.rep t n)
/-- tuple * int, two or more -/
theorem op_repT2 : OpR X (binaryOp .Mult) (fun x y H Q => ∃ l k xs, x = .ref l ∧ y = .int k ∧ SqT X.K H l xs ∧ xs ≠ [] ∧ 2 ≤ k ∧ k ≤ LIM ∧ xs.length * k.toNat ≤ LIM ∧ ∀ p, H p = none → Q (.ref p) (upd H p (.tup (List.replicate k.toNat xs).flatten))) := by
  intro pins s σ H x y v u Q I rx ry h
  obtain ⟨l, k, xs, rfl, rfl, hT, hne, h1, h2, hz, q⟩ := h
  cases rx
  obtain ⟨t, rfl⟩ := ry
  obtain ⟨its, r, ⟨⟨cls, dd, data, sl⟩, ho, hc, n, hd⟩, hs⟩ := I.tuple hT
  simp only at hc hd
  subst hc hd
  have hle : its.length = xs.length := r.length.symm
  have hn : its ≠ [] := fun e => hne (by
    subst e
    exact List.eq_nil_of_length_eq_zero hle.symm)
  have hi : its.toArray.isEmpty = false := by
    cases its with
    | nil => exact absurd rfl hn
    | cons a b => rfl
  have hsz0 : its.toArray.size = xs.length := by rw [List.size_toArray, hle]
  have hk : ((k.toNat : Nat) : Int) = k := by omega
  unfold LIM at h2 hz
  have hm : ((its.toArray.size : Nat) : Int) * k ≤ 1000000 := by
    rw [hsz0, ← hk, ← Int.natCast_mul]
    omega
  have fl1 : (List.replicate k.toNat its).flatten.length = k.toNat * its.length := PyProof.Rows.lm_len_rep_flat ..
  have fl2 : (List.replicate k.toNat xs).flatten.length = k.toNat * xs.length := PyProof.Rows.lm_len_rep_flat ..
  have hz2 : k.toNat * xs.length ≤ 1000000 := by rw [Nat.mul_comm]; exact hz
  have flen : (List.replicate k.toNat its).flatten.length ≤ sizeLine := by rw [fl1, hle, sizeLine_eq]; omega
  have c0 : (decide (k < -(2 ^ 63)) || decide (k ≥ 2 ^ 63)) = false := by
    rw [decide_eq_false (by omega), decide_eq_false (by omega)] <;> rfl
  have c1 : (its.toArray.isEmpty || k == 1) = false := by
    rw [hi, Bool.false_or]
    exact beq_eq_false_iff_ne.mpr (by omega)
  have c2 : (decide (k ≤ 0) || its.toArray.isEmpty) = false := by
    rw [hi, Bool.or_false]
    exact decide_eq_false (by omega)
  have c4 : Builtin.Tuple.tupleTooMany (((its.toArray.size : Nat) : Int) * k) = false := by
    unfold Builtin.Tuple.tupleTooMany
    rw [sizeLine_eq]
    exact decide_eq_false (by omega)
  have mm := tuple_mulW l its.toArray n dd sl k t c0 c1 c2 (by omega) c4 (by rw [size_rep, List.size_toArray]; exact flen)
  refine wpAny_binaryOp_repeat_ref (T := "tuple") (U := "int") (by decide) ⟨_, ho, rfl⟩ (fun s' => typeIs_int s' k t) noFill_tuple_mul F.fills_int_mul F.slot_int_rmul repeat_tuple F.slot_int_index.lookup
    (call_meets F.slot_int_rmul (typeIs_int s k t) F.entry_int_rmul (F.args_int_rmul_2 _ _) (int_rmul_tuple k t l its.toArray n dd sl) ⟨ho, rfl, ⟨_, ho, rfl⟩, ?_⟩)
  refine call_meets F.slot_tuple_mul ⟨_, ho, rfl⟩ F.entry_tuple_mul (F.args_tuple_mul_2 _ _) mm ⟨ho, ?_⟩
  rw [size_rep]
  refine ⟨.ref s.heap.objs.size, _, I.laid (t' := s.toks) (o := .tup (List.replicate k.toNat xs).flatten) (fun b ob q => Heap.get?_push_of_some _ q) (Nat.le_refl _) ?_, rfl, q _ (I.hok.fresh (Nat.le_refl _))⟩
  exact ⟨by rw [fl2, sizeLine_eq]; omega, _, r.rep k.toNat, IsTup.new _ _⟩
theorem op_repT1 : OpR X (binaryOp .Mult) (fun x y H Q => ∃ l xs, x = .ref l ∧ y = .int 1 ∧ SqT X.K H l xs ∧ Q (.ref l) H) := by
  intro pins s σ H x y v u Q I rx ry h
  obtain ⟨l, xs, rfl, rfl, hT, q⟩ := h
  cases rx
  obtain ⟨t, rfl⟩ := ry
  obtain ⟨its, r, ⟨⟨cls, dd, data, sl⟩, ho, hc, n, hd⟩, hs⟩ := I.tuple hT
  simp only at hc hd
  subst hc hd
  refine wpAny_binaryOp_repeat_ref (T := "tuple") (U := "int") (by decide) ⟨_, ho, rfl⟩ (fun s' => typeIs_int s' 1 t) noFill_tuple_mul F.fills_int_mul F.slot_int_rmul repeat_tuple F.slot_int_index.lookup
    (call_meets F.slot_int_rmul (typeIs_int s 1 t) F.entry_int_rmul (F.args_int_rmul_2 _ _) (int_rmul_tuple 1 t l its.toArray n dd sl) ⟨ho, rfl, ⟨_, ho, rfl⟩, ?_⟩)
  refine call_meets F.slot_tuple_mul ⟨_, ho, rfl⟩ F.entry_tuple_mul (F.args_tuple_mul_2 _ _) (tuple_mul1 l its.toArray n dd sl t) ⟨ho, ?_⟩
  exact ⟨.ref l, H, I, rfl, q⟩
theorem op_repT0 : OpR X (binaryOp .Mult) (fun x y H Q => ∃ l k xs, x = .ref l ∧ y = .int k ∧ SqT X.K H l xs ∧ xs ≠ [] ∧ k ≤ 0 ∧ -1000000 ≤ k ∧ ∀ p, H p = none → Q (.ref p) (upd H p (.tup []))) := by
  intro pins s σ H x y v u Q I rx ry h
  obtain ⟨l, k, xs, rfl, rfl, hT, hne, h1, h2, q⟩ := h
  cases rx
  obtain ⟨t, rfl⟩ := ry
  obtain ⟨its, r, ⟨⟨cls, dd, data, sl⟩, ho, hc, n, hd⟩, hs⟩ := I.tuple hT
  simp only at hc hd
  subst hc hd
  have hi : its.toArray.isEmpty = false := by
    cases its with
    | nil => exact absurd (List.eq_nil_of_length_eq_zero r.length) hne
    | cons a b => rfl
  have c0 : (decide (k < -(2 ^ 63)) || decide (k ≥ 2 ^ 63)) = false := by
    rw [decide_eq_false (by omega), decide_eq_false (by omega)] <;> rfl
  have c1 : (its.toArray.isEmpty || k == 1) = false := by
    rw [hi, Bool.false_or]
    exact beq_eq_false_iff_ne.mpr (by omega)
  have c2 : (decide (k ≤ 0) || its.toArray.isEmpty) = true := by rw [decide_eq_true h1, Bool.true_or]
  refine wpAny_binaryOp_repeat_ref (T := "tuple") (U := "int") (by decide) ⟨_, ho, rfl⟩ (fun s' => typeIs_int s' k t) noFill_tuple_mul F.fills_int_mul F.slot_int_rmul repeat_tuple F.slot_int_index.lookup
    (call_meets F.slot_int_rmul (typeIs_int s k t) F.entry_int_rmul (F.args_int_rmul_2 _ _) (int_rmul_tuple k t l its.toArray n dd sl) ⟨ho, rfl, ⟨_, ho, rfl⟩, ?_⟩)
  refine call_meets F.slot_tuple_mul ⟨_, ho, rfl⟩ F.entry_tuple_mul (F.args_tuple_mul_2 _ _) (tuple_mul0 l its.toArray n dd sl k t c0 c1 c2) ⟨ho, ?_⟩
  refine ⟨.ref s.heap.objs.size, _, I.laid (t' := s.toks) (o := .tup []) (fun b ob q => Heap.get?_push_of_some _ q) (Nat.le_refl _) ?_, rfl, q _ (I.hok.fresh (Nat.le_refl _))⟩
  exact ⟨by show 0 ≤ sizeLine; exact Nat.zero_le _, [], .nil, IsTup.new _ _⟩
theorem vo_mulL : OpR X (binaryOp .Mult) (RX2 X.K (.l .s) (b2 .mulL)) := oimp op_rep fun x y H Q h => by
  obtain ⟨B, da, db, d, e, hx, hy, hd, q⟩ := h
  cases da with
  | list as =>
    cases db with
    | int k =>
      obtain rfl := hy.pk.int'
      simp only [b2] at hd
      split at hd
      · rename_i hl
        simp only [Bool.and_eq_true, decide_eq_true_eq] at hl
        obtain ⟨⟨l1, l2⟩, l3⟩ := hl
        unfold LIM at l2 l3
        simp only [Option.some.injEq] at hd
        subst hd
        obtain ⟨a, vs, rfl, h1, t1⟩ := hx.list e
        exact ⟨a, k, vs, rfl, rfl, h1, by omega, by omega, by rw [t1.length, sizeLine_eq]; omega, fun p hp => PostV.newL q e (DvAll.rep t1 k.toNat) hp⟩
      · cases hd
    | _ => simp [b2] at hd
  | _ => simp [b2] at hd
theorem vo_mul : VO2 X (binaryOp .Mult) .mul := by
  intro pins s σ H x y u w Q I ru rw' h
  obtain ⟨B, da, db, d, e, hx, hy, hd, q⟩ := h
  cases da with
  | int i =>
    cases db with
    | int j =>
      obtain rfl := hx.int'
      obtain rfl := hy.int'
      simp only [b2] at hd
      split at hd
      · rename_i hc
        simp only [Option.some.injEq] at hd
        subst hd
        refine op_mul pins s σ H _ _ _ _ Q I ru rw' ⟨i, j, rfl, rfl, ?_, PostV.s q e (.int _)⟩
        unfold mulOk at hc
        simpa [CMul] using hc
      · cases hd
    | _ => simp [b2] at hd
  | tuple as =>
    cases db with
    | int k =>
      obtain rfl := hy.int'
      obtain ⟨a, vs, e1, h1, t1⟩ := hx.tuple e
      subst e1
      have hv : Dv X.K B (.ref a) (.tuple as) := by cases hx with | s h => exact h
      simp only [b2] at hd
      split at hd
      · rename_i hc
        simp only [Bool.and_eq_true, decide_eq_true_eq] at hc
        obtain ⟨⟨⟨c0, c1⟩, c2⟩, c3⟩ := hc
        simp only [Option.some.injEq] at hd
        subst hd
        by_cases hk0 : k ≤ 0
        · refine op_repT0 pins s σ H _ _ _ _ Q I ru rw' ⟨a, k, vs, rfl, rfl, h1, fun z => ?_, hk0, by unfold LIM at c1; omega, fun p hp => PostV.newT (ds := (List.replicate k.toNat as).flatten) q e ?_ hp⟩
          · subst z
            cases t1
            simp at c0
          · rw [show k.toNat = 0 by omega]
            exact .nil
        by_cases hk : k = 1
        · subst hk
          refine op_repT1 pins s σ H _ _ _ _ Q I ru rw' ⟨a, vs, rfl, rfl, h1, ?_⟩
          refine PostV.s q e ?_
          simpa using hv
        · refine op_repT2 pins s σ H _ _ _ _ Q I ru rw' ⟨a, k, vs, rfl, rfl, h1, fun z => ?_, by omega, c3, by rw [t1.length]; exact c2, fun p hp => PostV.newT q e (t1.rep _) hp⟩
          subst z
          cases t1
          simp at c0
      · cases hd
    | _ => simp [b2] at hd
  | _ => simp [b2] at hd
/-! ### min, max of two -/
abbrev VC2 (X : Cx) (f : Value) (o : B2) : Prop := CallR X f fun xs H Q => ∃ x y, xs = [x, y] ∧ RV2 X.K o.sh (b2 o) x y H Q
theorem vc_min2 (hc : X.calm = true) : VC2 X (.builtin "min") .min2 := cimp (call_min2 hc) fun xs H Q h => by
  obtain ⟨x, y, rfl, B, da, db, d, e, hx, hy, hd, q⟩ := h
  cases da with
  | int i =>
    cases db with
    | int j =>
      obtain rfl := hx.int'
      obtain rfl := hy.int'
      simp only [b2, Option.some.injEq] at hd
      subst hd
      exact ⟨i, j, rfl, PostV.s q e (.int _)⟩
    | _ => simp [b2] at hd
  | _ => simp [b2] at hd
theorem vc_max2 (hc : X.calm = true) : VC2 X (.builtin "max") .max2 := cimp (call_max2 hc) fun xs H Q h => by
  obtain ⟨x, y, rfl, B, da, db, d, e, hx, hy, hd, q⟩ := h
  cases da with
  | int i =>
    cases db with
    | int j =>
      obtain rfl := hx.int'
      obtain rfl := hy.int'
      simp only [b2, Option.some.injEq] at hd
      subst hd
      exact ⟨i, j, rfl, PostV.s q e (.int _)⟩
    | _ => simp [b2] at hd
  | _ => simp [b2] at hd
end
end TV

/-! V5: what an evaluation is to reach; readings by the evaluator. -/
namespace TV
open PySem PySem.Spec PyProof.Rows L2
/-- what is the same through a def's body: the written part, the shapes of the slots, the wish about exceptions, how an exception is told as data -/
structure Ct where
  K : PySem.W.Frag
  κ : List Sh
  Z : Hp
  ret : Sh
  fix : List (Nat × V)
  W : WX
  EX : D → Value → Option Addr → Hp → Hp → Prop
section
variable {C : Ct} {K : PySem.W.Frag} {κ : List Sh} {Z B G H B' G' H' : Hp} {σ : L2.St} {ρ ρ' : Env} {fp fp' : Nat → List Addr}
/-- what is shared and what is guarded grows; nothing guarded is shared anew -/
structure Up (B G B' G' : Hp) : Prop where
  b : Same B B'
  g : Same G G'
  gd : ∀ a, G a ≠ none → B' a ≠ none → B a ≠ none
theorem Up.refl : Up B G B G := ⟨Same.refl _, Same.refl _, fun _ _ h => h⟩
theorem Same.nn {B B' : Hp} (h : Same B B') {a : Addr} (n : B a ≠ none) : B' a ≠ none := by
  cases q : B a with
  | none => exact absurd q n
  | some o => rw [h _ _ q]; simp
theorem Up.trans {B1 G1 B2 G2 : Hp} (x : Up B G B1 G1) (y : Up B1 G1 B2 G2) : Up B G B2 G2 := ⟨x.b.trans y.b, x.g.trans y.g, fun a h1 h2 => x.gd a h1 (y.gd a (Same.nn x.g h1) h2)⟩
def gext (G B' : Hp) : Hp := fun a => match B' a with
  | some o => some o
  | none => G a
theorem Rel.bh (r : Rel K κ Z B G H ρ σ fp) : Same B H := r.bg.trans r.gh
theorem Rel.ext (r : Rel K κ Z B G H ρ σ fp) (x : Ext B H B' H') : Rel K κ Z B' (gext G B') H' ρ σ fp ∧ Up B G B' (gext G B') := by
  have gg : Same G (gext G B') := fun a o e => by
    unfold gext
    cases q : B' a with
    | none => exact e
    | some u =>
      have h1 := x.bh _ _ q
      have h2 := x.h _ _ (r.gh _ _ e)
      rw [h1] at h2
      exact h2
  refine ⟨⟨fun a o e => ?_, fun a o e => ?_, r.zg.trans gg, r.len, fun i d e => ?_, r.nd, r.dj, fun i a ha => ?_⟩, x.b, gg, fun a h1 h2 => ?_⟩
  · unfold gext; rw [e]
  · unfold gext at e
    cases q : B' a with
    | none => rw [q] at e; exact x.h _ _ (r.gh _ _ e)
    | some u => rw [q] at e; cases e; exact x.bh _ _ q
  · obtain ⟨v, s, h1, h2, h3⟩ := r.at_ i d e
    exact ⟨v, s, h1, h2, h3.mono x.b (Same.refl _) fun a ha o e => x.h _ _ e⟩
  · obtain ⟨g, o, ho⟩ := r.out i a ha
    refine ⟨?_, o, x.h _ _ ho⟩
    unfold gext
    cases q : B' a with
    | none => exact g
    | some u =>
      rcases x.new _ _ q with z | z
      · have := r.bg _ _ z
        rw [g] at this; cases this
      · rw [ho] at z; cases z
  · cases q : B' a with
    | none => exact absurd q h2
    | some u =>
      rcases x.new _ _ q with z | z
      · rw [z]; simp
      · exact absurd z (Same.nn r.gh h1)
/-- what is owned beside the slots is let go -/
theorem Rel.freeze (r : Rel K κ Z B G H ρ σ fp) {as : List Addr} (hg : ∀ a ∈ as, G a = none ∧ ∀ i, a ∉ fp i) : Rel K κ Z (ovr B H as) (ovr G H as) H ρ σ fp ∧ Up B G (ovr B H as) (ovr G H as) := by
  have hb : ∀ a ∈ as, B a = none := fun a ha => r.bg.free (hg a ha).1
  refine ⟨⟨ovr_mono r.bg, ovr_le r.gh, r.zg.trans (same_ovr fun a ha => (hg a ha).1), r.len, fun i d e => ?_, r.nd, r.dj, fun i a ha => ?_⟩, same_ovr hb, same_ovr fun a ha => (hg a ha).1, fun a h1 h2 => ?_⟩
  · obtain ⟨v, s, h1, h2, h3⟩ := r.at_ i d e
    exact ⟨v, s, h1, h2, h3.mono (same_ovr hb) (Same.refl _) fun _ _ _ e => e⟩
  · obtain ⟨g, o⟩ := r.out i a ha
    exact ⟨by rw [ovr_out fun z => (hg a z).2 i ha]; exact g, o⟩
  · by_cases ha : a ∈ as
    · exact absurd (hg a ha).1 h1
    · rw [ovr_out ha] at h2; exact h2
/-- .. of one slot that is forgotten -/
theorem Rel.drop (r : Rel K κ Z B G H ρ σ fp) (i : Nat) : Rel K κ Z B G H (ρ.set i none) σ (fun j => if j = i then [] else fp j) := by
  refine ⟨r.bg, r.gh, r.zg, by rw [List.length_set]; exact r.len, fun j d e => ?_, fun j => ?_, fun j k hjk a ha => ?_, fun j a ha => ?_⟩
  · by_cases hj : j = i
    · subst hj
      by_cases hl : j < ρ.length
      · rw [List.getElem?_set_self hl] at e; cases e
      · rw [List.getElem?_eq_none (by simpa using hl)] at e; cases e
    · rw [List.getElem?_set_ne (Ne.symm hj)] at e
      obtain ⟨v, s, h1, h2, h3⟩ := r.at_ j d e
      exact ⟨v, s, h1, h2, by rw [if_neg hj]; exact h3⟩
  · by_cases hj : j = i
    · rw [if_pos hj]; exact List.nodup_nil
    · rw [if_neg hj]; exact r.nd j
  · by_cases hj : j = i
    · rw [if_pos hj] at ha; cases ha
    · rw [if_neg hj] at ha
      by_cases hk : k = i
      · rw [if_pos hk]; simp
      · rw [if_neg hk]; exact r.dj j k hjk a ha
  · by_cases hj : j = i
    · rw [if_pos hj] at ha; cases ha
    · rw [if_neg hj] at ha; exact r.out j a ha
/-- what an evaluation is to reach -/
def Post (C : Ct) (B G H : Hp) (σ : L2.St) (pu : Bool) {α : Type} (r : R α) (k : α → Hp → Hp → Hp → (Nat → List Addr) → Env → Prop) : Prop := match r with
  | .ok a ρ' => ∀ B' G' H' fp', Up B G B' G' → (pu = true → Same H H') → Rel C.K C.κ C.Z B' G' H' ρ' σ fp' → k a B' G' H' fp' ρ'
  | .err x ρ' => ∀ cls dx B' G' H' fp', Up B G B' G' → Rel C.K C.κ C.Z B' G' H' ρ' σ fp' → C.EX x cls dx B' H' → C.W cls dx σ H'
  | .no => False
theorem Post.mono {α : Type} {pu : Bool} {r : R α} {k k' : α → Hp → Hp → Hp → (Nat → List Addr) → Env → Prop} (h : Post C B G H σ pu r k)
    (i : ∀ a B' G' H' fp' ρ', Up B G B' G' → (pu = true → Same H H') → Rel C.K C.κ C.Z B' G' H' ρ' σ fp' → k a B' G' H' fp' ρ' → k' a B' G' H' fp' ρ') : Post C B G H σ pu r k' := by
  cases r with
  | ok a ρ' => exact fun B' G' H' fp' b p r => i a B' G' H' fp' ρ' b p r (h B' G' H' fp' b p r)
  | err x ρ' => exact h
  | no => exact h
theorem Post.bind {α β : Type} {pu pu1 pu2 : Bool} {r : R α} {f : α → Env → R β} {k : β → Hp → Hp → Hp → (Nat → List Addr) → Env → Prop} (h : Post C B G H σ pu (r.bind f) k) (hp : pu = (pu1 && pu2)) :
    Post C B G H σ pu1 r fun a B1 G1 H1 _ ρ1 => Post C B1 G1 H1 σ pu2 (f a ρ1) k := by
  cases r with
  | ok a ρ1 =>
    intro B1 G1 H1 fp1 b p r1
    have h : Post C B G H σ pu (f a ρ1) k := h
    cases q : f a ρ1 with
    | ok c ρ2 =>
      rw [q] at h
      intro B2 G2 H2 fp2 b2 p2 r2
      refine h B2 G2 H2 fp2 (b.trans b2) (fun z => ?_) r2
      rw [hp, Bool.and_eq_true] at z
      exact (p z.1).trans (p2 z.2)
    | err x ρ2 =>
      rw [q] at h
      exact fun cls dx B2 G2 H2 fp2 b2 r2 => h cls dx B2 G2 H2 fp2 (b.trans b2) r2
    | no => rw [q] at h; exact h
  | err x ρ1 => exact h
  | no => exact h
/-- the ends: natural, shared, peeked exactly, peeked, a truth value -/
def kN (C : Ct) (sh : Sh) (Q : VK) : D → Hp → Hp → Hp → (Nat → List Addr) → Env → Prop := fun d B' G' H' fp' _ => ∀ v as, Ow C.K B' C.Z H' sh d v as → as.Nodup → (∀ a ∈ as, G' a = none ∧ ∀ i, a ∉ fp' i) → Q v H'
def kS (C : Ct) (Q : VK) : D → Hp → Hp → Hp → (Nat → List Addr) → Env → Prop := fun d B' _ H' _ _ => ∀ v, Dv C.K B' v d → Q v H'
def kP (C : Ct) (Q : VK) : D → Hp → Hp → Hp → (Nat → List Addr) → Env → Prop := fun d B' _ H' _ _ => ∀ v, Ex C.K B' H' v d → Q v H'
def kZ (C : Ct) (Q : VK) : D → Hp → Hp → Hp → (Nat → List Addr) → Env → Prop := fun d B' _ H' _ _ => ∀ v, Pk C.K B' H' v d → Q v H'
def kBo (Q : Bool → Hp → Prop) : D → Hp → Hp → Hp → (Nat → List Addr) → Env → Prop := fun d _ _ H' _ _ => ∃ b, d = .bool b ∧ Q b H'
/-- a reading by an evaluation -/
def tEv (C : Ct) {α : Type} (ev : Env → R α) (pu : Bool) {β : Type} (k : (β → Hp → Prop) → α → Hp → Hp → Hp → (Nat → List Addr) → Env → Prop) : L2.St → Hp → (β → Hp → Prop) → Prop :=
  fun σ H Q => ∃ ρ B G fp, Rel C.K C.κ C.Z B G H ρ σ fp ∧ Post C B G H σ pu (ev ρ) (k Q)
abbrev tN (C : Ct) (ev : Env → R D) (pu : Bool) (sh : Sh) : TE := tEv C ev pu (kN C sh)
abbrev tS (C : Ct) (ev : Env → R D) (pu : Bool) : TE := tEv C ev pu (kS C)
abbrev tP (C : Ct) (ev : Env → R D) (pu : Bool) : TE := tEv C ev pu (kP C)
abbrev tZ (C : Ct) (ev : Env → R D) (pu : Bool) : TE := tEv C ev pu (kZ C)
abbrev tBo (C : Ct) (ev : Env → R D) (pu : Bool) : TT := tEv C ev pu kBo
theorem PE.imp {X : Cx} {e : Expr} {t t' : TE} (h : PE X e t) (i : ∀ σ H Q, t' σ H Q → t σ H Q) : PE X e t' := ⟨fun pins s σ H Q I q => h.run pins s σ H Q I (i σ H Q q)⟩
theorem PT.imp {X : Cx} {e : Expr} {t t' : TT} (h : PT X e t) (i : ∀ σ H Q, t' σ H Q → t σ H Q) : PT X e t' := ⟨fun pins s σ H Q I q => h.run pins s σ H Q I (i σ H Q q)⟩
/-- from natural to shared -/
theorem rd_share {ev : Env → R D} {pu : Bool} {sh : Sh} (hs : sh.ok = true) (σ : L2.St) (H : Hp) (Q : VK) : tS C ev pu σ H Q → tN C ev pu sh σ H Q := fun ⟨ρ, B, G, fp, r, q⟩ => by
  refine ⟨ρ, B, G, fp, r, ?_⟩
  cases z : ev ρ with
  | ok d ρ' =>
    rw [z] at q
    intro B' G' H' fp' b p r' v as ow nd out
    obtain ⟨r2, b2⟩ := r'.freeze out
    exact q _ _ H' fp' (b.trans b2) p r2 v (ow.share hs fun a ha => r'.bg.free (out a ha).1)
  | err x ρ' => rw [z] at q; exact q
  | no => rw [z] at q; exact q
theorem pe_share {X : Cx} {e : Expr} {ev : Env → R D} {pu : Bool} {sh : Sh} (hs : sh.ok = true) (h : PE X e (tN C ev pu sh)) : PE X e (tS C ev pu) := PE.imp h (rd_share hs)
theorem rd_natS {ev : Env → R D} {pu : Bool} (σ : L2.St) (H : Hp) (Q : VK) : tN C ev pu .s σ H Q → tS C ev pu σ H Q := fun ⟨ρ, B, G, fp, r, q⟩ =>
  ⟨ρ, B, G, fp, r, q.mono fun d B' G' H' fp' ρ' _ _ _ k v hv => k v [] (.s hv) List.nodup_nil (fun _ ha => by cases ha)⟩
theorem rd_test {ev : Env → R D} {pu : Bool} {t : TE} (ht : ∀ σ H Q, tS C ev pu σ H Q → t σ H Q) (σ : L2.St) (H : Hp) (Q : Bool → Hp → Prop) : tBo C ev pu σ H Q → L2.tTest t σ H Q := fun ⟨ρ, B, G, fp, r, q⟩ =>
  ht _ _ _ ⟨ρ, B, G, fp, r, q.mono fun d B' G' H' fp' ρ' _ _ _ k v hv => by
    obtain ⟨b, rfl, q⟩ := k
    exact ⟨b, hv.bl', q⟩⟩
theorem pe_peek {X : Cx} {e : Expr} {ev : Env → R D} {pu : Bool} (h : PE X e (tS C ev pu)) : PE X e (tP C ev pu) := PE.imp h fun σ H Q ⟨ρ, B, G, fp, r, q⟩ =>
  ⟨ρ, B, G, fp, r, q.mono fun d B' G' H' fp' ρ' _ _ _ k v hv => k v (.inl hv)⟩
theorem pe_look {X : Cx} {e : Expr} {ev : Env → R D} {pu : Bool} (h : PE X e (tP C ev pu)) : PE X e (tZ C ev pu) := PE.imp h fun σ H Q ⟨ρ, B, G, fp, r, q⟩ =>
  ⟨ρ, B, G, fp, r, q.mono fun d B' G' H' fp' ρ' _ _ _ k v hv => k v hv.pk⟩
/-- a natural end that is shared -/
theorem pe_natS {X : Cx} {e : Expr} {ev : Env → R D} {pu : Bool} (h : PE X e (tS C ev pu)) : PE X e (tN C ev pu .s) := PE.imp h fun σ H Q ⟨ρ, B, G, fp, r, q⟩ =>
  ⟨ρ, B, G, fp, r, q.mono fun d B' G' H' fp' ρ' _ _ _ k v hv => k v [] (.s hv) List.nodup_nil (fun _ ha => by cases ha)⟩
/-- a value that is a bool, as a test -/
theorem pt_of {X : Cx} {e : Expr} {ev : Env → R D} {pu : Bool} (h : PE X e (tS C ev pu)) (he : ∀ whole, isTrue e X.env whole = (do let v ← whole; standAt e.pos; holding [v] (truthy v))) : PT X e (tBo C ev pu) :=
  PT.imp (pt_val h he) fun σ H Q ⟨ρ, B, G, fp, r, q⟩ => ⟨ρ, B, G, fp, r, q.mono fun d B' G' H' fp' ρ' _ _ _ k v hv => by
    obtain ⟨b, rfl, q⟩ := k
    exact ⟨b, hv.bl', q⟩⟩
/-- the end of an operation -/
theorem Post.fin {pu : Bool} {d : D} {sh : Sh} {Q : VK} (h : Post C B G H σ pu (.ok d ρ) (kN C sh Q)) (r : Rel C.K C.κ C.Z B G H ρ σ fp) : PostV C.K B H sh d Q := fun v H' B' as x ow nd out => by
  obtain ⟨r', g⟩ := r.ext x
  refine h B' (gext G B') H' fp g (fun _ => x.h) r' v as (ow _) nd fun a ha => ⟨?_, fun i hi => ?_⟩
  · unfold gext
    rw [(out a ha).2]
    exact r.gh.free (out a ha).1
  · obtain ⟨_, o, ho⟩ := r.out i a hi
    rw [(out a ha).1] at ho; cases ho
theorem Post.of_some {α : Type} {pu : Bool} {o : Option α} {k : α → Hp → Hp → Hp → (Nat → List Addr) → Env → Prop} (h : Post C B G H σ pu (R.of o ρ) k) : ∃ a, o = some a ∧ Post C B G H σ pu (.ok a ρ) k := by
  cases o with
  | none => exact h.elim
  | some a => exact ⟨a, rfl, h⟩
theorem Ex.mono {v : V} {d : D} (b : Same B B') (h : Same H H') (x : Ex K B H v d) : Ex K B' H' v d := by
  rcases x with x | ⟨a, vs, ds, e1, e2, e3, t⟩
  · exact .inl (x.mono b)
  · exact .inr ⟨a, vs, ds, e1, e2, h _ _ e3, t.mono b⟩
theorem Pk.mono {v : V} {d : D} (b : Same B B') (h : Same H H') (x : Pk K B H v d) : Pk K B' H' v d := by
  cases x with
  | s x => exact .s (x.mono b)
  | l e t => exact .l (h _ _ e) (t.mono b)
  | z e t => exact .z (Same.seq h e) (t.mono b)
end
end TV

/-! V6: expressions. -/
namespace TV
open PySem PySem.Spec PyProof.Rows L2
section
variable {X : Cx} {C : Ct} {a b c : Expr} {pos : Pos} {ev eva evb evc : Env → R D} {pa pb pc : Bool}
/-- a constant -/
theorem te_const {e : Expr} {v : V} {d : D} (h : PE X e (tC v)) (hv : ∀ B, Dv C.K B v d) : PE X e (tS C (fun ρ => .ok d ρ) true) := PE.imp h fun σ H Q ⟨ρ, B, G, fp, r, q⟩ =>
  q B G H fp .refl (fun _ => Same.refl _) r v (hv B)
/-- a shared slot -/
theorem te_var {e : Expr} {i : Nat} (h : PE X e (tVar i)) (hk : C.κ[i]? = some .s) : PE X e (tS C (fun ρ => R.of (gv ρ i) ρ) true) := PE.imp h fun σ H Q ⟨ρ, B, G, fp, r, q⟩ => by
  obtain ⟨d, e1, q⟩ := Post.of_some q
  have e2 : ρ[i]? = some (some d) := by
    unfold gv at e1
    split at e1
    · cases e1; assumption
    · cases e1
  obtain ⟨v, s, h1, h2, h3⟩ := r.at_ i d e2
  rw [hk] at h2; cases h2
  generalize fp i = as at h3
  cases h3 with
  | s h3 => exact ⟨v, h1, q B G H fp .refl (fun _ => Same.refl _) r v h3⟩
theorem gv_some {ρ : Env} {i : Nat} {d : D} (e : gv ρ i = some d) : ρ[i]? = some (some d) := by
  unfold gv at e
  split at e
  · cases e; assumption
  · cases e
/-- an owned list, peeked -/
theorem te_peek {e : Expr} {i : Nat} (h : PE X e (tVar i)) (hk : C.κ[i]? = some (.l .s)) : PE X e (tP C (fun ρ => R.of (gv ρ i) ρ) true) := PE.imp h fun σ H Q ⟨ρ, B, G, fp, r, q⟩ => by
  obtain ⟨d, e1, q⟩ := Post.of_some q
  obtain ⟨v, s, h1, h2, h3⟩ := r.at_ i d (gv_some e1)
  rw [hk] at h2; cases h2
  refine ⟨v, h1, q B G H fp .refl (fun _ => Same.refl _) r v ?_⟩
  generalize fp i = as at h3
  cases h3 with
  | l h t => exact .inr ⟨_, _, _, rfl, rfl, h, t.all.1⟩
theorem te_look {e : Expr} {i : Nat} (h : PE X e (tVar i)) (hk : C.κ[i]? = some .z) : PE X e (tZ C (fun ρ => R.of (gv ρ i) ρ) true) := PE.imp h fun σ H Q ⟨ρ, B, G, fp, r, q⟩ => by
  obtain ⟨d, e1, q⟩ := Post.of_some q
  obtain ⟨v, s, h1, h2, h3⟩ := r.at_ i d (gv_some e1)
  rw [hk] at h2; cases h2
  refine ⟨v, h1, q B G H fp .refl (fun _ => Same.refl _) r v ?_⟩
  generalize fp i = as at h3
  cases h3 with
  | z h t => exact .z (Same.seq (r.zg.trans r.gh) h) t
/-- an owned slot, moved away -/
theorem te_move {e : Expr} {i : Nat} {sh : Sh} (h : PE X e (tVar i)) (hk : C.κ[i]? = some sh) : PE X e (tN C (mvD i) true sh) := PE.imp h fun σ H Q ⟨ρ, B, G, fp, r, q⟩ => by
  unfold mvD at q
  cases e1 : gv ρ i with
  | none => rw [e1] at q; exact q.elim
  | some d =>
    rw [e1] at q
    obtain ⟨v, s, h1, h2, h3⟩ := r.at_ i d (gv_some e1)
    rw [hk] at h2; cases h2
    refine ⟨v, h1, q B G H _ .refl (fun _ => Same.refl _) (r.drop i) v (fp i) h3 (r.nd i) fun a ha => ⟨(r.out i a ha).1, fun j hj => ?_⟩⟩
    by_cases hji : j = i
    · rw [if_pos hji] at hj; cases hj
    · rw [if_neg hji] at hj; exact r.dj j i hji a hj ha
/-- one operand -/
theorem rd_un {g : D → Option D} {sh : Sh} {r : V → Hp → VK → Prop} (hr : ∀ x H Q, RV1 C.K sh g x H Q → r x H Q) (σ : L2.St) (H : Hp) (Q : VK) : (tN C (fun ρ => (eva ρ).bind fun d ρ => R.of (g d) ρ) pa sh) σ H Q → (tUn r (tZ C eva pa)) σ H Q := fun ⟨ρ, B, G, fp, R0, q⟩ => by
  have q : Post C B G H σ pa _ _ := q
  refine ⟨ρ, B, G, fp, R0, (q.bind (pu1 := pa) (pu2 := true) (by simp)).mono fun d B1 G1 H1 fp1 ρ1 _ _ r1 k v hv => hr _ _ _ ?_⟩
  obtain ⟨d', e1, k⟩ := Post.of_some k
  exact ⟨B1, d, d', r1.bh, hv, e1, k.fin r1⟩
theorem te_un {e : Expr} {g : D → Option D} {sh : Sh} {r : V → Hp → VK → Prop} (h : PE X e (tUn r (tZ C eva pa))) (hr : ∀ x H Q, RV1 C.K sh g x H Q → r x H Q) :
    PE X e (tN C (fun ρ => (eva ρ).bind fun d ρ => R.of (g d) ρ) pa sh) := PE.imp h (rd_un hr)
/-- two operands: the first peeked, if the second changes nothing -/
theorem rd_binP {g : D → D → Option D} {sh : Sh} {r : R2} (hr : ∀ x y H Q, RV2 C.K sh g x y H Q → r x y H Q) (σ : L2.St) (H : Hp) (Q : VK) : (tN C (fun ρ => (eva ρ).bind fun x ρ => (evb ρ).bind fun y ρ => R.of (g x y) ρ) pa sh) σ H Q → (tOp r (tZ C eva pa) (tZ C evb true)) σ H Q := fun ⟨ρ, B, G, fp, R0, q⟩ => by
  have q : Post C B G H σ pa _ _ := q
  refine ⟨ρ, B, G, fp, R0, (q.bind (pu1 := pa) (pu2 := true) (by simp)).mono fun d1 B1 G1 H1 fp1 ρ1 _ _ r1 k v1 hv1 => ?_⟩
  refine ⟨ρ1, B1, G1, fp1, r1, (k.bind (pu1 := true) (pu2 := true) rfl).mono fun d2 B2 G2 H2 fp2 ρ2 b2 p2 r2 k v2 hv2 => hr _ _ _ _ ?_⟩
  obtain ⟨d', e1, k⟩ := Post.of_some k
  exact ⟨B2, d1, d2, d', r2.bh, hv1.mono b2.b (p2 rfl), hv2, e1, k.fin r2⟩
theorem te_binP {e : Expr} {g : D → D → Option D} {sh : Sh} {r : R2} (h : PE X e (tOp r (tZ C eva pa) (tZ C evb true))) (hr : ∀ x y H Q, RV2 C.K sh g x y H Q → r x y H Q) :
    PE X e (tN C (fun ρ => (eva ρ).bind fun x ρ => (evb ρ).bind fun y ρ => R.of (g x y) ρ) pa sh) := PE.imp h (rd_binP hr)
theorem rd_binS {g : D → D → Option D} {sh : Sh} {r : R2} (hr : ∀ x y H Q, RV2 C.K sh g x y H Q → r x y H Q) (σ : L2.St) (H : Hp) (Q : VK) : (tN C (fun ρ => (eva ρ).bind fun x ρ => (evb ρ).bind fun y ρ => R.of (g x y) ρ) (pa && pb) sh) σ H Q → (tOp r (tS C eva pa) (tZ C evb pb)) σ H Q := fun ⟨ρ, B, G, fp, R0, q⟩ => by
  have q : Post C B G H σ (pa && pb) _ _ := q
  refine ⟨ρ, B, G, fp, R0, (q.bind (pu1 := pa) (pu2 := pb) rfl).mono fun d1 B1 G1 H1 fp1 ρ1 _ _ r1 k v1 hv1 => ?_⟩
  refine ⟨ρ1, B1, G1, fp1, r1, (k.bind (pu1 := pb) (pu2 := true) (by simp)).mono fun d2 B2 G2 H2 fp2 ρ2 b2 p2 r2 k v2 hv2 => hr _ _ _ _ ?_⟩
  obtain ⟨d', e1, k⟩ := Post.of_some k
  exact ⟨B2, d1, d2, d', r2.bh, .s (hv1.mono b2.b), hv2, e1, k.fin r2⟩
theorem te_binS {e : Expr} {g : D → D → Option D} {sh : Sh} {r : R2} (h : PE X e (tOp r (tS C eva pa) (tZ C evb pb))) (hr : ∀ x y H Q, RV2 C.K sh g x y H Q → r x y H Q) :
    PE X e (tN C (fun ρ => (eva ρ).bind fun x ρ => (evb ρ).bind fun y ρ => R.of (g x y) ρ) (pa && pb) sh) := PE.imp h (rd_binS hr)
/-- .. of exact lists -/
theorem rd_addP {g : D → D → Option D} {sh : Sh} {r : R2} (hr : ∀ x y H Q, RX2 C.K sh g x y H Q → r x y H Q) (σ : L2.St) (H : Hp) (Q : VK) : (tN C (fun ρ => (eva ρ).bind fun x ρ => (evb ρ).bind fun y ρ => R.of (g x y) ρ) pa sh) σ H Q → (tOp r (tP C eva pa) (tP C evb true)) σ H Q := fun ⟨ρ, B, G, fp, R0, q⟩ => by
  have q : Post C B G H σ pa _ _ := q
  refine ⟨ρ, B, G, fp, R0, (q.bind (pu1 := pa) (pu2 := true) (by simp)).mono fun d1 B1 G1 H1 fp1 ρ1 _ _ r1 k v1 hv1 => ?_⟩
  refine ⟨ρ1, B1, G1, fp1, r1, (k.bind (pu1 := true) (pu2 := true) rfl).mono fun d2 B2 G2 H2 fp2 ρ2 b2 p2 r2 k v2 hv2 => hr _ _ _ _ ?_⟩
  obtain ⟨d', e1, k⟩ := Post.of_some k
  exact ⟨B2, d1, d2, d', r2.bh, hv1.mono b2.b (p2 rfl), hv2, e1, k.fin r2⟩
theorem te_addP {e : Expr} {g : D → D → Option D} {sh : Sh} {r : R2} (h : PE X e (tOp r (tP C eva pa) (tP C evb true))) (hr : ∀ x y H Q, RX2 C.K sh g x y H Q → r x y H Q) :
    PE X e (tN C (fun ρ => (eva ρ).bind fun x ρ => (evb ρ).bind fun y ρ => R.of (g x y) ρ) pa sh) := PE.imp h (rd_addP hr)
theorem rd_addS {g : D → D → Option D} {sh : Sh} {r : R2} (hr : ∀ x y H Q, RX2 C.K sh g x y H Q → r x y H Q) (σ : L2.St) (H : Hp) (Q : VK) : (tN C (fun ρ => (eva ρ).bind fun x ρ => (evb ρ).bind fun y ρ => R.of (g x y) ρ) (pa && pb) sh) σ H Q → (tOp r (tS C eva pa) (tP C evb pb)) σ H Q := fun ⟨ρ, B, G, fp, R0, q⟩ => by
  have q : Post C B G H σ (pa && pb) _ _ := q
  refine ⟨ρ, B, G, fp, R0, (q.bind (pu1 := pa) (pu2 := pb) rfl).mono fun d1 B1 G1 H1 fp1 ρ1 _ _ r1 k v1 hv1 => ?_⟩
  refine ⟨ρ1, B1, G1, fp1, r1, (k.bind (pu1 := pb) (pu2 := true) (by simp)).mono fun d2 B2 G2 H2 fp2 ρ2 b2 p2 r2 k v2 hv2 => hr _ _ _ _ ?_⟩
  obtain ⟨d', e1, k⟩ := Post.of_some k
  exact ⟨B2, d1, d2, d', r2.bh, .inl (hv1.mono b2.b), hv2, e1, k.fin r2⟩
/-! ### truth -/
theorem te_addS {e : Expr} {g : D → D → Option D} {sh : Sh} {r : R2} (h : PE X e (tOp r (tS C eva pa) (tP C evb pb))) (hr : ∀ x y H Q, RX2 C.K sh g x y H Q → r x y H Q) :
    PE X e (tN C (fun ρ => (eva ρ).bind fun x ρ => (evb ρ).bind fun y ρ => R.of (g x y) ρ) (pa && pb) sh) := PE.imp h (rd_addS hr)
theorem te_not {e : Expr} (h : PT X e (L2.tNot (tBo C eva pa))) : PT X e (tBo C (notD eva) pa) := PT.imp h fun σ H Q ⟨ρ, B, G, fp, r, q⟩ => by
  refine ⟨ρ, B, G, fp, r, ((show Post C B G H σ pa _ _ from q).bind (pu1 := pa) (pu2 := true) (by simp)).mono fun d B1 G1 H1 fp1 ρ1 _ _ r1 k => ?_⟩
  cases d with
  | bool b =>
    obtain ⟨b', e, q⟩ := k B1 G1 H1 fp1 .refl (fun _ => Same.refl _) r1
    cases e
    exact ⟨b, rfl, q⟩
  | _ => exact k.elim
theorem te_notV {e : Expr} (h : PE X e (L2.tNotV (tS C eva pa))) : PE X e (tS C (notD eva) pa) := PE.imp h fun σ H Q ⟨ρ, B, G, fp, r, q⟩ => by
  refine ⟨ρ, B, G, fp, r, ((show Post C B G H σ pa _ _ from q).bind (pu1 := pa) (pu2 := true) (by simp)).mono fun d B1 G1 H1 fp1 ρ1 _ _ r1 k v hv => ?_⟩
  cases d with
  | bool b =>
    obtain rfl := hv.bl'
    exact ⟨b, rfl, k B1 G1 H1 fp1 .refl (fun _ => Same.refl _) r1 _ (.bl _)⟩
  | _ => exact k.elim
theorem rd_and (σ : L2.St) (H : Hp) (Q : Bool → Hp → Prop) : tBo C (andD eva evb) (pa && pb) σ H Q → L2.tAnd (tBo C eva pa) (tBo C evb pb) σ H Q := fun ⟨ρ, B, G, fp, r, q⟩ => by
  refine ⟨ρ, B, G, fp, r, ((show Post C B G H σ (pa && pb) _ _ from q).bind (pu1 := pa) (pu2 := pb) rfl).mono fun d B1 G1 H1 fp1 ρ1 _ _ r1 k => ?_⟩
  cases d with
  | bool b =>
    refine ⟨b, rfl, ?_⟩
    cases b with
    | true => exact ⟨ρ1, B1, G1, fp1, r1, k⟩
    | false =>
      obtain ⟨b', e, q⟩ := k B1 G1 H1 fp1 .refl (fun _ => Same.refl _) r1
      cases e
      exact q
  | _ => exact k.elim
theorem te_and {e : Expr} (h : PT X e (L2.tAnd (tBo C eva pa) (tBo C evb pb))) : PT X e (tBo C (andD eva evb) (pa && pb)) := PT.imp h rd_and
theorem rd_or (σ : L2.St) (H : Hp) (Q : Bool → Hp → Prop) : tBo C (orD eva evb) (pa && pb) σ H Q → L2.tOr (tBo C eva pa) (tBo C evb pb) σ H Q := fun ⟨ρ, B, G, fp, r, q⟩ => by
  refine ⟨ρ, B, G, fp, r, ((show Post C B G H σ (pa && pb) _ _ from q).bind (pu1 := pa) (pu2 := pb) rfl).mono fun d B1 G1 H1 fp1 ρ1 _ _ r1 k => ?_⟩
  cases d with
  | bool b =>
    refine ⟨b, rfl, ?_⟩
    cases b with
    | false => exact ⟨ρ1, B1, G1, fp1, r1, k⟩
    | true =>
      obtain ⟨b', e, q⟩ := k B1 G1 H1 fp1 .refl (fun _ => Same.refl _) r1
      cases e
      exact q
  | _ => exact k.elim
theorem te_or {e : Expr} (h : PT X e (L2.tOr (tBo C eva pa) (tBo C evb pb))) : PT X e (tBo C (orD eva evb) (pa && pb)) := PT.imp h rd_or
theorem te_andV {e : Expr} (h : PE X e (L2.tAndV (tS C eva pa) (tS C evb pb))) : PE X e (tS C (andD eva evb) (pa && pb)) := PE.imp h fun σ H Q ⟨ρ, B, G, fp, r, q⟩ => by
  refine ⟨ρ, B, G, fp, r, ((show Post C B G H σ (pa && pb) _ _ from q).bind (pu1 := pa) (pu2 := pb) rfl).mono fun d B1 G1 H1 fp1 ρ1 _ _ r1 k v hv => ?_⟩
  cases d with
  | bool b =>
    obtain rfl := hv.bl'
    refine ⟨b, rfl, ?_⟩
    cases b with
    | true => exact ⟨ρ1, B1, G1, fp1, r1, k⟩
    | false => exact k B1 G1 H1 fp1 .refl (fun _ => Same.refl _) r1 _ (.bl _)
  | _ => exact k.elim
theorem te_orV {e : Expr} (h : PE X e (L2.tOrV (tS C eva pa) (tS C evb pb))) : PE X e (tS C (orD eva evb) (pa && pb)) := PE.imp h fun σ H Q ⟨ρ, B, G, fp, r, q⟩ => by
  refine ⟨ρ, B, G, fp, r, ((show Post C B G H σ (pa && pb) _ _ from q).bind (pu1 := pa) (pu2 := pb) rfl).mono fun d B1 G1 H1 fp1 ρ1 _ _ r1 k v hv => ?_⟩
  cases d with
  | bool b =>
    obtain rfl := hv.bl'
    refine ⟨b, rfl, ?_⟩
    cases b with
    | false => exact ⟨ρ1, B1, G1, fp1, r1, k⟩
    | true => exact k B1 G1 H1 fp1 .refl (fun _ => Same.refl _) r1 _ (.bl _)
  | _ => exact k.elim
/-- a if c else b, whatever the end -/
theorem te_ite {e : Expr} {k : VK → D → Hp → Hp → Hp → (Nat → List Addr) → Env → Prop} (h : PE X e (L2.tIf (tBo C evc pc) (tEv C eva pa k) (tEv C evb pb k))) : PE X e (tEv C (iteD evc eva evb) (pc && (pa && pb)) k) := PE.imp h fun σ H Q ⟨ρ, B, G, fp, r, q⟩ => by
  refine ⟨ρ, B, G, fp, r, ((show Post C B G H σ (pc && (pa && pb)) _ _ from q).bind (pu1 := pc) (pu2 := pa && pb) rfl).mono fun d B1 G1 H1 fp1 ρ1 _ _ r1 k => ?_⟩
  have weak : ∀ {p p' : Bool} {f : R D} {k' : D → Hp → Hp → Hp → (Nat → List Addr) → Env → Prop}, Post C B1 G1 H1 σ p f k' → (p = true → p' = true) → Post C B1 G1 H1 σ p' f k' := fun {p p' f k'} h i => by
    cases f with
    | ok a ρ' => exact fun B' G' H' fp' b z r => h B' G' H' fp' b (fun z' => z (i z')) r
    | err x ρ' => exact h
    | no => exact h
  cases d with
  | bool b =>
    refine ⟨b, rfl, ?_⟩
    cases b with
    | true => exact ⟨ρ1, B1, G1, fp1, r1, weak k fun z => by simp at z; exact z.1⟩
    | false => exact ⟨ρ1, B1, G1, fp1, r1, weak k fun z => by simp at z; exact z.2⟩
  | _ => exact k.elim
end
end TV

/-! V7: calls of defs. -/
namespace TV
open PySem PySem.Spec PyProof.Rows L2
/-- no script within -/
def Sh.noz : Sh → Bool
  | .s => true
  | .l e => e.noz
  | .r _ => true
  | .z => false
/-- owned -/
def Sh.isM : Sh → Bool
  | .l e => e.noz
  | .r _ => true
  | _ => false
structure FnI where
  name : Str
  ps : List Sh
  ret : Sh
  sem : Fn
section
variable {K : PySem.W.Frag} {κ : List Sh} {Z B G H B' G' H' : Hp} {σ : L2.St} {ρ ρ' : Env} {fp fp' : Nat → List Addr}
mutual
theorem Ow.anyG : ∀ {s : Sh} {d : D} {v : V} {as : List Addr}, s.noz = true → Ow K B G H s d v as → Ow K B G' H s d v as
  | _, _, _, _, _, .s h => .s h
  | _, _, _, _, n, .z _ _ => by cases n
  | _, _, _, _, n, .l h t => .l h (Ows.anyG n t)
  | _, _, _, _, _, .r h t => .r h (OwF.anyG t)
  | _, _, _, _, _, .d h t => .d h t
theorem Ows.anyG : ∀ {s : Sh} {d : List D} {v : List V} {as : List Addr}, s.noz = true → Ows K B G H s d v as → Ows K B G' H s d v as
  | _, _, _, _, _, .nil => .nil
  | _, _, _, _, n, .cons h t => .cons (Ow.anyG n h) (Ows.anyG n t)
theorem OwF.anyG : ∀ {s : List (Str × Bool)} {d : List D} {v : List (Key × V)} {as : List Addr}, OwF K B G H s d v as → OwF K B G' H s d v as
  | _, _, _, _, .nil => .nil
  | _, _, _, _, .cons h t => .cons (Ow.anyG (by split <;> rfl) h) (OwF.anyG t)
end
theorem noz_of_isM {s : Sh} (h : s.isM = true) : s.noz = true := by cases s <;> first | exact h | cases h
inductive ArgsR (K : PySem.W.Frag) (B G H : Hp) : List Sh → List D → List V → List (List Addr) → Prop where
  | nil : ArgsR K B G H [] [] [] []
  | cons {p : Sh} {d : D} {v : V} {as : List Addr} {ps : List Sh} {ds : List D} {vs : List V} {fs : List (List Addr)} : Ow K B G H p d v as → ArgsR K B G H ps ds vs fs → ArgsR K B G H (p :: ps) (d :: ds) (v :: vs) (as :: fs)
inductive OutsR (K : PySem.W.Frag) (B G H : Hp) : List Sh → List V → Env → List (List Addr) → Prop where
  | nil : OutsR K B G H [] [] [] []
  | skip {p : Sh} {v : V} {ps : List Sh} {vs : List V} {os : Env} {fs : List (List Addr)} : p.isM = false → OutsR K B G H ps vs os fs → OutsR K B G H (p :: ps) (v :: vs) os fs
  | m {p : Sh} {v : V} {o : Option D} {as : List Addr} {ps : List Sh} {vs : List V} {os : Env} {fs : List (List Addr)} : p.isM = true → (∀ d, o = some d → Ow K B G H p d v as) → OutsR K B G H ps vs os fs → OutsR K B G H (p :: ps) (v :: vs) (o :: os) (as :: fs)
/-- what is to come of a def's answer -/
def PostF (K : PySem.W.Frag) (EX : D → Value → Option Addr → Hp → Hp → Prop) (fi : FnI) (B G : Hp) (vs : List V) (Q : VK) (E : XK) (r : R D) : Prop := match r with
  | .ok d os => ∀ v H' B' G' as fs, Up B G B' G' → Same B' G' → Same G' H' → Ow K B' G' H' fi.ret d v as → OutsR K B' G' H' fi.ps vs os fs → (as ++ fs.flatten).Nodup → (∀ a ∈ as ++ fs.flatten, G' a = none ∧ ∃ o, H' a = some o) → Q v H'
  | .err x os => ∀ cls dx H' B' G' fs, Up B G B' G' → Same B' G' → Same G' H' → OutsR K B' G' H' fi.ps vs os fs → fs.flatten.Nodup → (∀ a ∈ fs.flatten, G' a = none ∧ ∃ o, H' a = some o) → EX x cls dx B' H' → E cls dx H'
  | .no => False
/-- a def's promise -/
def spOf (K : PySem.W.Frag) (EX : D → Value → Option Addr → Hp → Hp → Prop) (fi : FnI) : Sp := fun vs H Q E => ∃ ds B G fs, Same B G ∧ Same G H ∧ ArgsR K B G H fi.ps ds vs fs ∧ fs.flatten.Nodup ∧ (∀ a ∈ fs.flatten, G a = none) ∧ PostF K EX fi B G vs Q E (fi.sem ds)
/-- arguments as they have come -/
inductive ArV (K : PySem.W.Frag) (κ : List Sh) (σ : L2.St) (B : Hp) : List Sh → List Ar → List V → Prop where
  | nil : ArV K κ σ B [] [] []
  | s {d : D} {v : V} {ps : List Sh} {as : List Ar} {vs : List V} : Dv K B v d → ArV K κ σ B ps as vs → ArV K κ σ B (.s :: ps) (.val d :: as) (v :: vs)
  | z {i : Nat} {s : Sh} {v : V} {ps : List Sh} {as : List Ar} {vs : List V} : κ[i]? = some s → (s = .z ∨ s = .l .s) → σ[i]? = some (some v) → ArV K κ σ B ps as vs → ArV K κ σ B (.z :: ps) (.pk i :: as) (v :: vs)
  | m {i : Nat} {p : Sh} {v : V} {ps : List Sh} {as : List Ar} {vs : List V} : p.isM = true → κ[i]? = some p → σ[i]? = some (some v) → ArV K κ σ B ps as vs → ArV K κ σ B (p :: ps) (.io i :: as) (v :: vs)
theorem ArV.mono (b : Same B B') {ps : List Sh} {as : List Ar} {vs : List V} (h : ArV K κ σ B ps as vs) : ArV K κ σ B' ps as vs := by
  induction h with
  | nil => exact .nil
  | s h _ ih => exact .s (h.mono b) ih
  | z h1 h2 h3 _ ih => exact .z h1 h2 h3 ih
  | m h1 h2 h3 _ ih => exact .m h1 h2 h3 ih
def roots : List Ar → List Nat
  | [] => []
  | .io i :: r => i :: roots r
  | .val _ :: r => roots r
  | .pk _ :: r => roots r
def pks : List Ar → List Nat
  | [] => []
  | .pk i :: r => i :: pks r
  | .val _ :: r => pks r
  | .io _ :: r => pks r
/-- all but what is handed over -/
def hide (H : Hp) (as : List Addr) : Hp := fun a => if a ∈ as then none else H a
theorem hide_in {as : List Addr} {a : Addr} (h : a ∈ as) : hide H as a = none := if_pos h
theorem hide_out {as : List Addr} {a : Addr} (h : a ∉ as) : hide H as a = H a := if_neg h
theorem passed_nd {l : List Nat} (hl : l.Nodup) (nd : ∀ i, (fp i).Nodup) (dj : ∀ i j, i ≠ j → ∀ a ∈ fp i, a ∉ fp j) : (l.flatMap fp).Nodup := by
  induction l with
  | nil => simp
  | cons i l ih =>
    rw [List.flatMap_cons, List.nodup_append]
    obtain ⟨h1, h2⟩ := List.nodup_cons.mp hl
    refine ⟨nd i, ih h2, fun a ha b hb e => ?_⟩
    subst e
    obtain ⟨j, hj, hb⟩ := List.mem_flatMap.mp hb
    exact dj i j (fun e => h1 (e ▸ hj)) a ha hb
theorem gv_get {i : Nat} {d : D} (e : gv ρ i = some d) : ρ[i]? = some (some d) := by
  unfold gv at e
  split at e
  · cases e; assumption
  · cases e
/-- the arguments as a callee takes them -/
theorem Rel.args (r : Rel K κ Z B G H ρ σ fp) {S : List Addr} (hS : ∀ a ∈ S, G a = none) : ∀ {ps : List Sh} {as : List Ar} {vs : List V} {ds : List D}, ArV K κ σ B ps as vs → argD ρ as = some ds → (∀ i ∈ pks as, ∀ a ∈ fp i, a ∉ S) →
    ∃ fs, ArgsR K B (hide H S) H ps ds vs fs ∧ fs.flatten = (roots as).flatMap fp := by
  intro ps as vs ds hA
  have hide_g : ∀ a o, G a = some o → hide H S a = some o := fun a o e => by
    rw [hide_out fun z => by rw [hS a z] at e; cases e]
    exact r.gh _ _ e
  induction hA generalizing ds with
  | nil => intro e _; simp only [argD, Option.some.injEq] at e; subst e; exact ⟨[], .nil, rfl⟩
  | s h _ ih =>
    intro e hp
    simp only [argD, Option.map_eq_some_iff] at e
    obtain ⟨ds', e, rfl⟩ := e
    obtain ⟨fs, h1, h2⟩ := ih e hp
    exact ⟨[] :: fs, .cons (.s h) h1, by simpa [roots] using h2⟩
  | z k1 k2 k3 _ ih =>
    rename_i i s v ps as vs _
    intro e hp
    simp only [argD] at e
    cases q : gv ρ i with
    | none => rw [q] at e; cases e
    | some d =>
      rw [q] at e
      simp only [Option.map_eq_some_iff] at e
      obtain ⟨ds', e, rfl⟩ := e
      obtain ⟨fs, h1, h2⟩ := ih e fun j hj => hp j (List.mem_cons_of_mem _ hj)
      obtain ⟨v', s', e1, e2, ow⟩ := r.at_ i d (gv_get q)
      rw [k1] at e2; cases e2
      rw [k3] at e1; cases e1
      have hpi := hp i List.mem_cons_self
      generalize fp i = fi at ow hpi
      refine ⟨[] :: fs, .cons ?_ h1, by simpa [roots] using h2⟩
      rcases k2 with rfl | rfl
      · cases ow with
        | z h t => exact .z (by
            rcases h with (h | ⟨o, h⟩) | h
            · exact .inl (.inl (hide_g _ _ (r.zg _ _ h)))
            · exact .inl (.inr ⟨o, hide_g _ _ (r.zg _ _ h)⟩)
            · exact .inr h) t
      · cases ow with
        | l h t => exact .z (.of (by rw [hide_out (hpi _ List.mem_cons_self)]; exact h)) t.all.1
  | m k1 k2 k3 _ ih =>
    rename_i i p v ps as vs _
    intro e hp
    simp only [argD] at e
    cases q : gv ρ i with
    | none => rw [q] at e; cases e
    | some d =>
      rw [q] at e
      simp only [Option.map_eq_some_iff] at e
      obtain ⟨ds', e, rfl⟩ := e
      obtain ⟨fs, h1, h2⟩ := ih e hp
      obtain ⟨v', s', e1, e2, ow⟩ := r.at_ i d (gv_get q)
      rw [k2] at e2; cases e2
      rw [k3] at e1; cases e1
      exact ⟨fp i :: fs, .cons (ow.anyG (noz_of_isM k1)) h1, by simp [roots, h2]⟩
/-- what the places own behind the call -/
def fsOf : List Ar → List (List Addr) → Nat → Option (List Addr)
  | .io i :: r, f :: fs, j => if j = i then some f else fsOf r fs j
  | .val _ :: r, fs, j => fsOf r fs j
  | .pk _ :: r, fs, j => fsOf r fs j
  | _, _, _ => none
theorem fsOf_mem : ∀ {as : List Ar} {fs : List (List Addr)} {j : Nat} {f : List Addr}, fsOf as fs j = some f → f ∈ fs ∧ j ∈ roots as
  | .io i :: r, g :: fs, j, f, e => by
    simp only [fsOf] at e
    split at e
    · rename_i h; cases e; subst h; simp [roots]
    · obtain ⟨h1, h2⟩ := fsOf_mem e
      exact ⟨List.mem_cons_of_mem _ h1, List.mem_cons_of_mem _ h2⟩
  | .val _ :: r, fs, j, f, e => fsOf_mem (as := r) (by simpa [fsOf] using e)
  | .pk _ :: r, fs, j, f, e => fsOf_mem (as := r) (by simpa [fsOf] using e)
  | [], _, _, _, e => by simp [fsOf] at e
  | .io _ :: _, [], _, _, e => by simp [fsOf] at e
theorem fsOf_dj : ∀ {as : List Ar} {fs : List (List Addr)} {i j : Nat} {f g : List Addr}, fs.flatten.Nodup → i ≠ j → fsOf as fs i = some f → fsOf as fs j = some g → ∀ a ∈ f, a ∉ g
  | .io k :: r, h :: fs, i, j, f, g, nd, hij, e1, e2, a, ha, hb => by
    rw [List.flatten_cons, List.nodup_append] at nd
    obtain ⟨n1, n2, n3⟩ := nd
    simp only [fsOf] at e1 e2
    split at e1
    · cases e1
      split at e2
      · omega
      · exact n3 a ha a (List.mem_flatten.mpr ⟨g, (fsOf_mem e2).1, hb⟩) rfl
    · split at e2
      · cases e2
        exact n3 a hb a (List.mem_flatten.mpr ⟨f, (fsOf_mem e1).1, ha⟩) rfl
      · exact fsOf_dj n2 hij e1 e2 a ha hb
  | .val _ :: r, fs, i, j, f, g, nd, hij, e1, e2, a, ha, hb => fsOf_dj (as := r) nd hij (by simpa [fsOf] using e1) (by simpa [fsOf] using e2) a ha hb
  | .pk _ :: r, fs, i, j, f, g, nd, hij, e1, e2, a, ha, hb => fsOf_dj (as := r) nd hij (by simpa [fsOf] using e1) (by simpa [fsOf] using e2) a ha hb
  | [], _, _, _, _, _, _, _, e, _, _, _, _ => by simp [fsOf] at e
  | .io _ :: _, [], _, _, _, _, _, _, e, _, _, _, _ => by simp [fsOf] at e
theorem fsOf_root : ∀ {ps : List Sh} {as : List Ar} {vs : List V} {os : Env} {fs : List (List Addr)} {j : Nat}, ArV K κ σ B' ps as vs → OutsR K B G H ps vs os fs → j ∈ roots as → ∃ f, fsOf as fs j = some f := by
  intro ps as vs os fs j hA hO hj
  induction hA generalizing os fs with
  | nil => cases hj
  | s h _ ih => cases hO with
    | skip _ hO => exact ih hO hj
    | m z _ _ => cases z
  | z _ _ _ _ ih => cases hO with
    | skip _ hO => exact ih hO hj
    | m z _ _ => cases z
  | m k1 _ _ _ ih => cases hO with
    | skip z _ => rw [k1] at z; cases z
    | m _ _ hO =>
      simp only [fsOf]
      split
      · exact ⟨_, rfl⟩
      · rcases List.mem_cons.mp hj with e | hj
        · exact absurd e (by assumption)
        · exact ih hO hj
theorem outs_len : ∀ {as : List Ar} {os : Env} {ρ : Env}, (outs ρ as os).length = ρ.length
  | [], _, _ => rfl
  | .val _ :: r, os, ρ => outs_len (as := r)
  | .pk _ :: r, os, ρ => outs_len (as := r)
  | .io i :: r, o :: os, ρ => by simp [outs, outs_len (as := r)]
  | .io i :: r, [], ρ => by simp [outs, outs_len (as := r)]
theorem outs_at : ∀ {ps : List Sh} {as : List Ar} {vs : List V} {os : Env} {fs : List (List Addr)} {ρ : Env} {j : Nat} {d : D}, (roots as).Nodup → ArV K κ σ B' ps as vs → OutsR K B G H ps vs os fs → (outs ρ as os)[j]? = some (some d) →
    (ρ[j]? = some (some d) ∧ j ∉ roots as) ∨ ∃ p v f, κ[j]? = some p ∧ σ[j]? = some (some v) ∧ p.isM = true ∧ Ow K B G H p d v f ∧ fsOf as fs j = some f := by
  intro ps as vs os fs ρ j d nd hA hO e
  induction hA generalizing os fs ρ with
  | nil => exact .inl ⟨e, by simp [roots]⟩
  | s h _ ih => cases hO with
    | skip _ hO => exact ih nd hO e
    | m z _ _ => cases z
  | z _ _ _ _ ih => cases hO with
    | skip _ hO => exact ih nd hO e
    | m z _ _ => cases z
  | m k1 k2 k3 _ ih => cases hO with
    | skip z _ => rw [k1] at z; cases z
    | m _ ho hO =>
      rename_i i p v ps as vs _ o fa os fs _
      obtain ⟨n1, n2⟩ := List.nodup_cons.mp nd
      rcases ih n2 hO (ρ := ρ.set i o) e with ⟨h1, h2⟩ | ⟨p', v', f, h1, h2, h3, h4, h5⟩
      · by_cases hj : j = i
        · subst hj
          by_cases hl : j < ρ.length
          · rw [List.getElem?_set_self hl] at h1
            cases h1
            exact .inr ⟨p, v, fa, k2, k3, k1, ho d rfl, by simp [fsOf]⟩
          · rw [List.getElem?_eq_none (by simpa using hl)] at h1; cases h1
        · rw [List.getElem?_set_ne (Ne.symm hj)] at h1
          exact .inl ⟨h1, by simp [roots, hj, h2]⟩
      · have hj : j ≠ i := fun z => n1 (z ▸ (fsOf_mem h5).2)
        exact .inr ⟨p', v', f, h1, h2, h3, h4, by simp only [fsOf]; rw [if_neg hj]; exact h5⟩
theorem flat_nd : ∀ {l : List (List Addr)} {f : List Addr}, l.flatten.Nodup → f ∈ l → f.Nodup
  | g :: l, f, h, m => by
    rw [List.flatten_cons, List.nodup_append] at h
    rcases List.mem_cons.mp m with e | m
    · rw [e]; exact h.1
    · exact flat_nd h.2.1 m
/-- behind a call -/
theorem Rel.after (r : Rel K κ Z B G H ρ σ fp) {ps : List Sh} {as : List Ar} {vs : List V} {os : Env} {fs : List (List Addr)} {ar : List Addr} {B2 G2 H2 : Hp} (nd : (roots as).Nodup) (hA : ArV K κ σ B ps as vs)
    (u : Up B (hide H ((roots as).flatMap fp)) B2 G2) (b2 : Same B2 G2) (g2 : Same G2 H2) (hO : OutsR K B2 G2 H2 ps vs os fs) (hn : (ar ++ fs.flatten).Nodup) (ho : ∀ a ∈ ar ++ fs.flatten, G2 a = none ∧ ∃ o, H2 a = some o) :
    ∃ fp2, Rel K κ Z B2 (gext G B2) H2 (outs ρ as os) σ fp2 ∧ Up B G B2 (gext G B2) ∧ ∀ a ∈ ar, gext G B2 a = none ∧ ∀ i, a ∉ fp2 i := by
  generalize hS : (roots as).flatMap fp = S at u
  have inS : ∀ {i : Nat}, i ∈ roots as → ∀ a ∈ fp i, a ∈ S := fun {i} hi a ha => by rw [← hS]; exact List.mem_flatMap.mpr ⟨i, hi, ha⟩
  have outS : ∀ a ∈ S, G a = none := fun a ha => by
    rw [← hS] at ha
    obtain ⟨i, _, ha⟩ := List.mem_flatMap.mp ha
    exact (r.out i a ha).1
  have gh2 : ∀ a o, G a = some o → H2 a = some o := fun a o e => g2 _ _ (u.g _ _ (by
    rw [hide_out fun z => by rw [outS a z] at e; cases e]
    exact r.gh _ _ e))
  have keep : ∀ {i : Nat}, i ∉ roots as → ∀ a ∈ fp i, a ∉ S := fun {i} hi a ha z => by
    rw [← hS] at z
    obtain ⟨j, hj, z⟩ := List.mem_flatMap.mp z
    exact r.dj j i (fun e => hi (e ▸ hj)) a z ha
  have keepH : ∀ {i : Nat}, i ∉ roots as → ∀ a ∈ fp i, ∀ o, H a = some o → G2 a = some o := fun {i} hi a ha o e => u.g _ _ (by rw [hide_out (keep hi a ha)]; exact e)
  have g3 : Same G (gext G B2) := fun a o e => by
    unfold gext
    cases q : B2 a with
    | none => exact e
    | some x =>
      have h1 := g2 _ _ (b2 _ _ q)
      rw [gh2 _ _ e] at h1
      exact h1.symm
  have b3 : Same B2 (gext G B2) := fun a o e => by unfold gext; rw [e]
  have none3 : ∀ {a : Addr}, G a = none → B2 a = none → gext G B2 a = none := fun {a} h1 h2 => by unfold gext; rw [h2]; exact h1
  have gofG2 : ∀ {a : Addr}, G2 a = none → G a = none := fun {a} h => by
    cases q : G a with
    | none => rfl
    | some o =>
      have := u.g a o (by rw [hide_out fun z => by rw [outS a z] at q; cases q]; exact r.gh _ _ q)
      rw [h] at this; cases this
  refine ⟨fun j => if j ∈ roots as then (fsOf as fs j).getD [] else fp j, ⟨b3, fun a o e => ?_, r.zg.trans g3, by rw [outs_len]; exact r.len, fun j d e => ?_, fun j => ?_, fun i j hij a ha hb => ?_, fun j a ha => ?_⟩, ⟨u.b, g3, fun a h1 h2 => ?_⟩, fun a ha => ⟨?_, fun i hi => ?_⟩⟩
  · unfold gext at e
    cases q : B2 a with
    | none => rw [q] at e; exact gh2 _ _ e
    | some x => rw [q] at e; cases e; exact g2 _ _ (b2 _ _ q)
  · rcases outs_at nd hA hO e with ⟨h1, h2⟩ | ⟨p, v, f, h1, h2, h3, h4, h5⟩
    · obtain ⟨v, s, e1, e2, ow⟩ := r.at_ j d h1
      exact ⟨v, s, e1, e2, by rw [if_neg h2]; exact ow.mono u.b (Same.refl _) fun a ha o e => g2 _ _ (keepH h2 a ha o e)⟩
    · exact ⟨v, p, h2, h1, by rw [if_pos (fsOf_mem h5).2, h5]; exact h4.anyG (noz_of_isM h3)⟩
  · have nfs := (List.nodup_append.mp hn).2.1
    try dsimp only
    split
    · cases q : fsOf as fs j with
      | none => exact List.nodup_nil
      | some f => exact flat_nd nfs (fsOf_mem q).1
    · exact r.nd j
  · have nfs := (List.nodup_append.mp hn).2.1
    try dsimp only at ha hb
    have mix : ∀ {i j : Nat} {f : List Addr}, fsOf as fs i = some f → a ∈ f → j ∉ roots as → a ∈ fp j → False := fun {i j f} q ha hj hb => by
      obtain ⟨g0, _⟩ := ho a (List.mem_append_right _ (List.mem_flatten.mpr ⟨f, (fsOf_mem q).1, ha⟩))
      obtain ⟨_, o, e⟩ := r.out j a hb
      rw [keepH hj a hb o e] at g0; cases g0
    split at ha
    · cases q : fsOf as fs i with
      | none => rw [q] at ha; cases ha
      | some f =>
        rw [q] at ha
        split at hb
        · cases q2 : fsOf as fs j with
          | none => rw [q2] at hb; cases hb
          | some g => rw [q2] at hb; exact fsOf_dj nfs hij q q2 a ha hb
        · exact mix q ha (by assumption) hb
    · split at hb
      · cases q2 : fsOf as fs j with
        | none => rw [q2] at hb; cases hb
        | some g => rw [q2] at hb; exact mix q2 hb (by assumption) ha
      · exact r.dj i j hij a ha hb
  · try dsimp only at ha
    split at ha
    · cases q : fsOf as fs j with
      | none => rw [q] at ha; cases ha
      | some f =>
        rw [q] at ha
        obtain ⟨g0, o, e⟩ := ho a (List.mem_append_right _ (List.mem_flatten.mpr ⟨f, (fsOf_mem q).1, ha⟩))
        exact ⟨none3 (gofG2 g0) (b2.free g0), o, e⟩
    · rename_i hj
      obtain ⟨g0, o, e⟩ := r.out j a ha
      refine ⟨none3 g0 ?_, o, g2 _ _ (keepH hj a ha o e)⟩
      cases q : B2 a with
      | none => rfl
      | some x =>
        have h1 := u.gd a (by rw [hide_out (keep hj a ha), e]; simp) (by rw [q]; simp)
        exact absurd (r.bg.free g0) h1
  · refine u.gd a ?_ h2
    cases q : G a with
    | none => exact absurd q h1
    | some o => rw [hide_out fun z => h1 (outS a z), r.gh _ _ q]; simp
  · obtain ⟨g0, _⟩ := ho a (List.mem_append_left _ ha)
    exact none3 (gofG2 g0) (b2.free g0)
  · try dsimp only at hi
    split at hi
    · cases q : fsOf as fs i with
      | none => rw [q] at hi; cases hi
      | some f =>
        rw [q] at hi
        exact (List.nodup_append.mp hn).2.2 a ha a (List.mem_flatten.mpr ⟨f, (fsOf_mem q).1, hi⟩) rfl
    · rename_i hj
      obtain ⟨g0, _⟩ := ho a (List.mem_append_left _ ha)
      obtain ⟨_, o, e⟩ := r.out i a hi
      rw [keepH hj a hi o e] at g0; cases g0
end
/-! ### the promise of a def, where repr may be called -/
structure FnG (P : Program) (w : World) (K : PySem.W.Frag) (mg : Str → Option Value) (base : Heap) (CX : CXT) (k : Nat) (f : Addr) (fd : FuncData) (ps : List Str) (sp : Sp) : Prop where
  len : ∀ vs H Q E, sp vs H Q E → vs.length = ps.length
  run : ∀ (A : Around) (outer : List PySem.Env) (s : Shared) (H : Hp) (args : Args) (us : List Value) (vs : List V) (Q : VK) (E : XK), Room k A → A.guards = some [] → Env0 P w K mg base A outer s H →
    BindsTo s fd args (ps.zip us) → Vals vs us → sp vs H Q E → codeAny (model P w) A (.call (.ref f) args) (CR CX outer P w H s Q E) s
section
variable {X : Cx} {C : Ct} {CX : CXT} {k : Nat} {f : Addr} {fd : FuncData} {ps : List Str} {sp : Sp}
theorem FnG.mono {P : Program} {w : World} {K : PySem.W.Frag} {mg : Str → Option Value} {base : Heap} {j k : Nat} (F : FnG P w K mg base CX j f fd ps sp) (h : j ≤ k) : FnG P w K mg base CX k f fd ps sp :=
  ⟨F.len, fun A outer s H args us vs Q E hr => F.run A outer s H args us vs Q E (hr.mono h)⟩
/-- f(e, ..) -/
theorem pe_callG {x : Str} {p pos : Pos} {e : Expr} {es : List Expr} {t : TA} {E : L2.St → XK} (F : FnG X.prog X.w X.K X.mg X.base CX k f fd ps sp) (hr : Room k X.A) (hgd : X.A.guards = some []) (hg : Gl X x) (hm : X.mg x = some (.ref f))
    (hk : PySem.W.keepIn X.K (.ref f) = true) (hb : Binds X.K fd ps []) (hx : ∀ σ, PassesAt CX X σ (E σ)) (ha : PA X (e :: es) t) (hdb : (x == ("__debug__" : Str)) = false)
    (he : starEach (e :: es) X.env = (false, eval e X.env) :: starEach es X.env) (hpl : (backTo pos (starEach es X.env)).any (·.1) = false) : PE X (.Call (.Name x p) (e :: es) [] pos) (tCallSD sp [] E t) := by
  refine ⟨fun pins s σ H Q I h => ?_⟩
  refine wpAny_Call_Name_kw (ld_glob I hg hm ?_ hdb)
  refine PySem.W.callWith_K (h₀ := X.base) I.ok.mod.kin hk (thn (ha.run pos pins s σ H _ I h) fun us s1 ⟨vs, H1, I1, r, q⟩ => ⟨I1.kIn, ?_⟩) he hpl
  have q : sp (vs ++ []) H1 Q (E σ) := q
  rw [List.append_nil] at q
  have hl : us.length = ps.length := by rw [← r.length]; exact F.len _ _ _ _ q
  have hb' : BindsTo s1 fd ⟨us, []⟩ (ps.zip us) := by
    have z := hb s1 us I1.kIn (by rw [List.append_nil]; exact hl)
    rw [List.append_nil] at z
    exact z
  refine wpAny_call (codeAny_mono (F.run X.A X.stack s1 H1 ⟨us, []⟩ us vs Q (E σ) hr hgd I1.env0 hb' r q) fun rr s' hq => ?_)
  cases rr with
  | error e => exact hx σ pins H1 s1 e s' I1 hq
  | ok fl =>
    cases fl with
    | ret u => exact I1.after hq
    | next => exact False.elim hq
    | brk => exact False.elim hq
    | cont => exact False.elim hq
/-- arguments, read -/
def tAs (C : Ct) (ev : TV.Env → R (List Ar)) (pu : Bool) (ps : List Sh) : TA := fun σ => tEv C ev pu (fun (Q : List V → Hp → Prop) as B' _ H' _ _ => ∀ vs, ArV C.K C.κ σ B' ps as vs → Q vs H') σ
def rootsE : As → List Nat
  | .nil => []
  | .val _ r => rootsE r
  | .io i r => i :: rootsE r
  | .pk _ r => rootsE r
def pksE : As → List Nat
  | .nil => []
  | .val _ r => pksE r
  | .io _ r => pksE r
  | .pk i r => i :: pksE r
theorem evAs_roots {Γ : Nat → Fn} : ∀ {es : As} {ρ ρ' : TV.Env} {as : List Ar}, evAs Γ es ρ = .ok as ρ' → roots as = rootsE es ∧ pks as = pksE es
  | .nil, ρ, ρ', as, e => by simp only [evAs, R.ok.injEq] at e; obtain ⟨rfl, rfl⟩ := e; exact ⟨rfl, rfl⟩
  | .val a es, ρ, ρ', as, e => by
    simp only [evAs] at e
    cases q : evE Γ a ρ with
    | ok d ρ1 =>
      rw [q, R.bind_ok] at e
      cases q2 : evAs Γ es ρ1 with
      | ok ds ρ2 =>
        rw [q2, R.bind_ok] at e
        simp only [R.ok.injEq] at e
        obtain ⟨rfl, rfl⟩ := e
        simpa [roots, rootsE, pks, pksE] using evAs_roots (es := es) q2
      | err x ρ2 => rw [q2] at e; cases e
      | no => rw [q2] at e; cases e
    | err x ρ2 => rw [q] at e; cases e
    | no => rw [q] at e; cases e
  | .io i es, ρ, ρ', as, e => by
    simp only [evAs] at e
    cases q3 : gv ρ i with
    | none => rw [q3] at e; cases e
    | some _ =>
    rw [q3] at e
    dsimp only at e
    cases q2 : evAs Γ es ρ with
    | ok ds ρ2 =>
      rw [q2, R.bind_ok] at e
      simp only [R.ok.injEq] at e
      obtain ⟨rfl, rfl⟩ := e
      obtain ⟨h1, h2⟩ := evAs_roots (es := es) q2
      exact ⟨congrArg (i :: ·) h1, h2⟩
    | err x ρ2 => rw [q2] at e; cases e
    | no => rw [q2] at e; cases e
  | .pk i es, ρ, ρ', as, e => by
    simp only [evAs] at e
    cases q3 : gv ρ i with
    | none => rw [q3] at e; cases e
    | some _ =>
    rw [q3] at e
    dsimp only at e
    cases q2 : evAs Γ es ρ with
    | ok ds ρ2 =>
      rw [q2, R.bind_ok] at e
      simp only [R.ok.injEq] at e
      obtain ⟨rfl, rfl⟩ := e
      obtain ⟨h1, h2⟩ := evAs_roots (es := es) q2
      exact ⟨h1, congrArg (i :: ·) h2⟩
    | err x ρ2 => rw [q2] at e; cases e
    | no => rw [q2] at e; cases e
/-- a call, its arguments read -/
theorem call_core {C : Ct} {fi : FnI} {σ : L2.St} {B1 G1 H1 : Hp} {ρ1 : TV.Env} {fp1 : Nat → List Addr} {as : List Ar} {vs : List V} {Q : VK} (hret : fi.ret.noz = true) (nd : (roots as).Nodup) (hpk : ∀ i ∈ pks as, i ∉ roots as) (r1 : Rel C.K C.κ C.Z B1 G1 H1 ρ1 σ fp1) (hA : ArV C.K C.κ σ B1 fi.ps as vs)
    (k : Post C B1 G1 H1 σ false (callR fi.sem as ρ1) (kN C fi.ret Q)) : spOf C.K C.EX fi vs H1 Q fun cls dx H => C.W cls dx σ H := by
  unfold callR at k
  cases ed : argD ρ1 as with
  | none => rw [ed] at k; exact k.elim
  | some ds =>
    rw [ed] at k
    dsimp only at k
    obtain ⟨fs0, h1, h2⟩ := r1.args (S := (roots as).flatMap fp1) (fun a ha => by
      obtain ⟨i, _, ha⟩ := List.mem_flatMap.mp ha
      exact (r1.out i a ha).1) hA ed (fun i hi a ha z => by
      obtain ⟨j, hj, z⟩ := List.mem_flatMap.mp z
      exact r1.dj i j (fun e => hpk i hi (e ▸ hj)) a ha z)
    refine ⟨ds, B1, hide H1 ((roots as).flatMap fp1), fs0, fun a o e => ?_, fun a o e => ?_, h1, by rw [h2]; exact passed_nd nd r1.nd r1.dj, fun a ha => by rw [h2] at ha; exact hide_in ha, ?_⟩
    · have ha : a ∉ (roots as).flatMap fp1 := fun z => by
        obtain ⟨i, _, ha⟩ := List.mem_flatMap.mp z
        have := r1.bg.free (r1.out i a ha).1
        rw [e] at this; cases this
      rw [hide_out ha]
      exact r1.bh _ _ e
    · by_cases ha : a ∈ (roots as).flatMap fp1
      · rw [hide_in ha] at e; cases e
      · rw [hide_out ha] at e; exact e
    · cases ef : fi.sem ds with
      | no => rw [ef] at k; exact k.elim
      | err x os =>
        rw [ef] at k
        intro cls dx H2 B2 G2 fs u b2 g2 hO hn ho hx
        obtain ⟨fp2, r2, u2, _⟩ := r1.after (ar := []) nd hA u b2 g2 hO (by simpa using hn) (by simpa using ho)
        exact k cls dx B2 _ H2 fp2 u2 r2 hx
      | ok d os =>
        rw [ef] at k
        intro v H2 B2 G2 ar fs u b2 g2 ow hO hn ho
        obtain ⟨fp2, r2, u2, h3⟩ := r1.after nd hA u b2 g2 hO hn ho
        exact k B2 _ H2 fp2 u2 (fun z => by cases z) r2 v ar (ow.anyG hret) (List.nodup_append.mp hn).1 h3
/-- a call of a def -/
theorem te_call {e : Expr} {Γ : Nat → Fn} {es : As} {pu : Bool} {fi : FnI} (hret : fi.ret.noz = true) (hnd : (rootsE es).Nodup) (hpk : ∀ i ∈ pksE es, i ∉ rootsE es)
    (h : PE X e (tCallSD (spOf C.K C.EX fi) [] (fun σ cls dx H => C.W cls dx σ H) (tAs C (evAs Γ es) pu fi.ps))) : PE X e (tN C (fun ρ => (evAs Γ es ρ).bind fun as ρ => callR fi.sem as ρ) false fi.ret) := PE.imp h fun σ H Q ⟨ρ, B, G, fp, R0, q⟩ => by
  have q : Post C B G H σ false _ _ := q
  refine ⟨ρ, B, G, fp, R0, ?_⟩
  have q := q.bind (pu1 := pu) (pu2 := false) (by simp)
  cases ea : evAs Γ es ρ with
  | err x ρ1 => rw [ea] at q; exact q
  | no => rw [ea] at q; exact q
  | ok as ρ1 =>
    rw [ea] at q
    obtain ⟨er, ep⟩ := evAs_roots ea
    intro B1 G1 H1 fp1 u1 p1 r1 vs hA
    have k := q B1 G1 H1 fp1 u1 p1 r1
    dsimp only at k
    rw [List.append_nil]
    exact call_core hret (by rw [er]; exact hnd) (fun i hi z => hpk i (by rw [← ep]; exact hi) (by rw [← er]; exact z)) r1 hA k
/-! ### by keywords -/
structure KPat where
  n : Nat
  ks : List Str
  perm : List Nat
def KBd (K : PySem.W.Frag) (fd : FuncData) (pn : List Str) (kp : KPat) : Prop :=
  ∀ (s : Shared) (us ws : List Value), K.In s.heap → us.length = kp.n → ws.length = kp.ks.length → BindsTo s fd ⟨us, kp.ks.zip ws⟩ (pn.zip (kp.perm.map fun j => (us ++ ws).getD j .none))
theorem vals_perm {vs : List V} {us : List Value} (h : Vals vs us) (perm : List Nat) : Vals (perm.map fun j => vs.getD j .non) (perm.map fun j => us.getD j .none) := by
  induction perm with
  | nil => exact .nil
  | cons j perm ih =>
    refine .cons ?_ ih
    show RelV (vs.getD j .non) (us.getD j .none)
    rw [List.getD_eq_getElem?_getD, List.getD_eq_getElem?_getD]
    cases e : vs[j]? with
    | none => rw [h.none_of e]; rfl
    | some v =>
      obtain ⟨u, e2, r⟩ := h.get e
      rw [e2]; exact r
def tCallKS (sp : Sp) (perm : List Nat) (E : L2.St → XK) (t tk : TA) : TE := fun σ H Q => t σ H fun vs H1 => tk σ H1 fun zs H2 => sp (perm.map fun j => (vs ++ zs).getD j .non) H2 Q (E σ)
theorem run_fnGK {pins : List (Addr × Obj)} {σ : L2.St} {H : Hp} {s : Shared} {Q : VK} {us ws : List Value} {vs zs : List V} {kp : KPat} {E : L2.St → XK} (F : FnG X.prog X.w X.K X.mg X.base CX k f fd ps sp) (hr : Room k X.A) (hgd : X.A.guards = some []) (hb : KBd X.K fd ps kp)
    (hx : ∀ σ, PassesAt CX X σ (E σ)) (I : L2.Inv X pins σ H s) (r : Vals vs us) (rz : Vals zs ws) (h1 : us.length = kp.n) (h2 : ws.length = kp.ks.length) (h : sp (kp.perm.map fun j => (vs ++ zs).getD j .non) H Q (E σ)) : wpAny (model X.prog X.w) X.A (call (.ref f) us (kp.ks.zip ws)) (EP X pins σ Q) X.xe s := by
  refine wpAny_call (codeAny_mono (F.run X.A X.stack s H ⟨us, kp.ks.zip ws⟩ _ _ Q (E σ) hr hgd I.env0 (hb s us ws I.kIn h1 h2) (vals_perm (r.append rz) kp.perm) h) fun rr s' hq => ?_)
  cases rr with
  | error e => exact hx σ pins H s e s' I hq
  | ok fl =>
    cases fl with
    | ret u => exact I.after hq
    | next => exact False.elim hq
    | brk => exact False.elim hq
    | cont => exact False.elim hq
theorem pe_callGK {x : Str} {p pos : Pos} {es : List Expr} {kws : List Keyword} {t tk : TA} {E : L2.St → XK} {kp : KPat} (F : FnG X.prog X.w X.K X.mg X.base CX k f fd ps sp) (hr : Room k X.A) (hgd : X.A.guards = some []) (hg : Gl X x) (hm : X.mg x = some (.ref f)) (hk : PySem.W.keepIn X.K (.ref f) = true)
    (hb : KBd X.K fd ps kp) (hx : ∀ σ, PassesAt CX X σ (E σ)) (ha : PA X es t) (hkw : PK X kws tk) (hall : ∀ pos, (backToKw pos (keywordEach kws X.env)).all (·.1.isSome) = true) (hks : ∀ pos, (backToKw pos (keywordEach kws X.env)).filterMap (·.1) = kp.ks) (hdb : (x == ("__debug__" : Str)) = false)
    (hn : ∀ σ H (Q : List V → Hp → Prop), t σ H Q → t σ H fun vs H1 => vs.length = kp.n ∧ Q vs H1) (hn2 : ∀ σ H (Q : List V → Hp → Prop), tk σ H Q → tk σ H fun vs H1 => vs.length = kp.ks.length ∧ Q vs H1)
    (he : ∀ e r, es = e :: r → starEach es X.env = (false, eval e X.env) :: starEach r X.env) (hpl : ∀ pos, (backTo pos (starEach es X.env)).any (·.1) = false) (hnil : es = [] → ∀ σ H (Q : List V → Hp → Prop), t σ H Q → Q [] H) : PE X (.Call (.Name x p) es kws pos) (tCallKS sp kp.perm E t tk) := by
  have hpl2 : ((backTo pos (starEach es X.env)).any (·.1) || (backToKw pos (keywordEach kws X.env)).any (·.1.isNone)) = false := by
    rw [hpl pos, Bool.false_or]
    have := hall pos
    rw [List.all_eq_true] at this
    rw [List.any_eq_false]
    intro y hy
    have := this y hy
    cases z : y.1 with
    | none => rw [z] at this; cases this
    | some _ => simp
  refine ⟨fun pins s σ H Q I h => ?_⟩
  refine wpAny_Call_Name_kw (ld_glob I hg hm ?_ hdb)
  have h := hn _ _ _ h
  cases es with
  | nil =>
    obtain ⟨hl, q⟩ := hnil rfl _ _ _ h
    refine PySem.W.callWith_KW0 (h₀ := X.base) I.ok.mod.kin hk (hall pos) (thn (hkw.run pos pins s σ H _ I (hn2 _ _ _ q)) fun ws s2 ⟨zs, H2, I2, rz, hl2, q2⟩ => ⟨I2.kIn, ?_⟩) hpl2
    rw [hks]
    exact run_fnGK (us := []) F hr hgd hb hx I2 .nil rz hl (by rw [← rz.length]; exact hl2) q2
  | cons e r =>
    refine PySem.W.callWith_KW (h₀ := X.base) I.ok.mod.kin hk (hall pos) (thn (ha.run pos pins s σ H _ I h) fun us s1 ⟨vs, H1, I1, rv, hl, q⟩ => ?_) hpl2 (he e r rfl)
    refine thn (hkw.run pos pins s1 σ H1 _ I1 (hn2 _ _ _ q)) fun ws s2 ⟨zs, H2, I2, rz, hl2, q2⟩ => ⟨I2.kIn, ?_⟩
    rw [hks]
    exact run_fnGK (us := us) F hr hgd hb hx I2 rv rz (by rw [← rv.length]; exact hl) (by rw [← rz.length]; exact hl2) q2
end
end TV

/-! V8: places, displays, arguments. -/
namespace TV
open PySem PySem.Spec PyProof.Rows L2
section
variable {C : Ct} {K : PySem.W.Frag} {κ : List Sh} {Z B G H B' G' H' : Hp} {σ : L2.St} {ρ ρ' : Env} {fp fp' : Nat → List Addr}
def fSh (b : Bool) : Sh := if b then .l .s else .s
/-- one field of a record -/
theorem OwF.split : ∀ {ks : List (Str × Bool)} {ds : List D} {kvs : List (Key × V)} {as : List Addr} {j : Nat} {d : D}, OwF K B Z H ks ds kvs as → ds[j]? = some d →
    ∃ k b v l m r, ks[j]? = some (k, b) ∧ kvs[j]? = some (.inr k, v) ∧ as = l ++ m ++ r ∧ Ow K B Z H (fSh b) d v m ∧
      ∀ {B' H' : Hp} {d' : D} {v' : V} {m' : List Addr}, Same B B' → (∀ a ∈ l ++ r, ∀ o, H a = some o → H' a = some o) → Ow K B' Z H' (fSh b) d' v' m' → OwF K B' Z H' ks (ds.set j d') (kvs.set j (.inr k, v')) (l ++ m' ++ r)
  | _, _, _, _, _, _, .nil, e => by simp at e
  | _, _, _, _, 0, d, .cons (k := k) (b := b) (v := v) (as := as) (bs := bs) h t, e => by
    simp at e; subst e
    refine ⟨k, b, v, [], as, bs, rfl, rfl, by simp, h, fun b' kp h' => ?_⟩
    simpa using OwF.cons h' (OwF.mono b' (Same.refl _) (fun a ha o e => kp a (by simpa using ha) o e) t)
  | _, _, _, _, j + 1, d, .cons (k := k0) (b := b0) (as := as) h t, e => by
    obtain ⟨k, b, v, l, m, r, h1, h2, h3, h4, h5⟩ := OwF.split (j := j) (d := d) t (by simpa using e)
    refine ⟨k, b, v, as ++ l, m, r, by simpa using h1, by simpa using h2, by rw [h3]; simp, h4, fun b' kp h' => ?_⟩
    have z := OwF.cons (k := k0) (b := b0) (Ow.mono b' (Same.refl _) (fun a ha o e => kp a (by simp [ha]) o e) h) (h5 b' (fun a ha o e => kp a (by
      rcases List.mem_append.mp ha with q | q <;> simp [q]) o e) h')
    simpa using z
theorem OwF.keys : ∀ {ks : List (Str × Bool)} {ds : List D} {kvs : List (Key × V)} {as : List Addr}, OwF K B Z H ks ds kvs as → kvs.map (·.1) = ks.map (fun q => (.inr q.1 : Key)) ∧ ds.length = ks.length ∧ kvs.length = ks.length
  | _, _, _, _, .nil => ⟨rfl, rfl, rfl⟩
  | _, _, _, _, .cons h t => by
    obtain ⟨h1, h2, h3⟩ := OwF.keys t
    exact ⟨by simp [h1], by simp [h2], by simp [h3]⟩
theorem valV_at : ∀ {kvs : List (Key × V)} {j : Nat} {k : Key} {v : V}, (kvs.map (·.1)).Nodup → kvs[j]? = some (k, v) → valV kvs k = some v
  | [], _, _, _, _, e => by simp at e
  | (k0, v0) :: r, 0, k, v, _, e => by simp at e; obtain ⟨rfl, rfl⟩ := e; exact valV_pos rfl
  | (k0, v0) :: r, j + 1, k, v, nd, e => by
    simp only [List.map_cons, List.nodup_cons] at nd
    have e' : r[j]? = some (k, v) := by simpa using e
    rw [valV_neg (fun z => nd.1 (by
      simp only at z
      rw [z]
      exact List.mem_map.mpr ⟨(k, v), List.mem_of_getElem? e', rfl⟩))]
    exact valV_at nd.2 e'
theorem putK_at {kvs : List (Key × V)} {j : Nat} {k : Key} {v v' : V} (nd : (kvs.map (·.1)).Nodup) (e : kvs[j]? = some (k, v)) : putK kvs k v' = kvs.set j (k, v') := by
  have hany : (kvs.any fun kv => decide (kv.1 = k)) = true := by rw [valV_any, valV_at nd e]; rfl
  unfold putK
  rw [if_pos hany]
  clear hany
  induction kvs generalizing j with
  | nil => simp at e
  | cons p r ih =>
    obtain ⟨k0, v0⟩ := p
    simp only [List.map_cons, List.nodup_cons] at nd
    cases j with
    | zero =>
      simp at e; obtain ⟨rfl, rfl⟩ := e
      simp only [List.map_cons, if_true, List.set_cons_zero, List.cons.injEq, true_and]
      have : ∀ q ∈ r, (if q.1 = k0 then (q.1, v') else q) = q := fun q hq => if_neg fun z => nd.1 (by rw [← z]; exact List.mem_map.mpr ⟨q, hq, rfl⟩)
      rw [List.map_congr_left this]; simp
    | succ j =>
      have e' : r[j]? = some (k, v) := by simpa using e
      have hne : k0 ≠ k := fun z => nd.1 (by rw [z]; exact List.mem_map.mpr ⟨(k, v), List.mem_of_getElem? e', rfl⟩)
      simp only [List.map_cons, List.set_cons_succ]
      rw [if_neg hne, ih nd.2 e']
/-- a slot is laid anew, its own footprint may change -/
theorem Rel.put (r : Rel K κ Z B G H ρ σ fp) {i : Nat} {s : Sh} {v : V} {d : D} {as : List Addr} {B' G' H' : Hp} (hk : κ[i]? = some s) (hs : σ[i]? = some (some v)) (ow : Ow K B' Z H' s d v as) (nd : as.Nodup)
    (bb : Same B B') (bg : Same B' G') (gh : Same G' H') (zg : Same Z G') (keep : ∀ j, j ≠ i → ∀ a ∈ fp j, G' a = none ∧ a ∉ as ∧ ∀ o, H a = some o → H' a = some o) (out : ∀ a ∈ as, G' a = none ∧ ∃ o, H' a = some o) :
    Rel K κ Z B' G' H' (ρ.set i (some d)) σ (fun j => if j = i then as else fp j) := by
  refine ⟨bg, gh, zg, by rw [List.length_set]; exact r.len, fun j d' e => ?_, fun j => ?_, fun j k hjk a ha hb => ?_, fun j a ha => ?_⟩
  · by_cases hj : j = i
    · subst hj
      by_cases hl : j < ρ.length
      · rw [List.getElem?_set_self hl] at e
        cases e
        exact ⟨v, s, hs, hk, by rw [if_pos rfl]; exact ow⟩
      · rw [List.getElem?_eq_none (by simpa using hl)] at e; cases e
    · rw [List.getElem?_set_ne (Ne.symm hj)] at e
      obtain ⟨v', s', h1, h2, h3⟩ := r.at_ j d' e
      exact ⟨v', s', h1, h2, by rw [if_neg hj]; exact h3.mono bb (Same.refl _) fun a ha o e => (keep j hj a ha).2.2 o e⟩
  · try dsimp only
    split
    · exact nd
    · exact r.nd j
  · try dsimp only at ha hb
    split at ha
    · split at hb
      · omega
      · exact (keep k (by assumption) a hb).2.1 ha
    · split at hb
      · exact (keep j (by assumption) a ha).2.1 hb
      · exact r.dj j k hjk a ha hb
  · try dsimp only at ha
    split at ha
    · exact out a ha
    · obtain ⟨_, o, e⟩ := r.out j a ha
      obtain ⟨k1, _, k3⟩ := keep j (by assumption) a ha
      exact ⟨k1, o, k3 o e⟩
/-- where a place's list stands -/
def PlV (H : Hp) (σ : L2.St) (b : Addr) : Pl → Prop
  | .v i => σ[i]? = some (some (.ref b))
  | .f i j k => ∃ a kvs, σ[i]? = some (some (.ref a)) ∧ H a = some (.dK kvs) ∧ valV kvs (.inr k) = some (.ref b)
/-- a place that holds an owned list -/
def plOk (κ : List Sh) : Pl → Bool
  | .v i => decide (κ[i]? = some (.l .s))
  | .f i j k => match κ[i]? with
    | some (.r ks) => decide (ks[j]? = some (k, true)) && decide ((ks.map (·.1)).Nodup)
    | _ => false
theorem nodup_inr {l : List Str} (h : l.Nodup) : (l.map (fun x => (.inr x : Key))).Nodup := by
  induction l with
  | nil => simp
  | cons x l ih =>
    obtain ⟨h1, h2⟩ := List.nodup_cons.mp h
    simp only [List.map_cons, List.nodup_cons]
    refine ⟨fun z => ?_, ih h2⟩
    obtain ⟨y, hy, e⟩ := List.mem_map.mp z
    cases e
    exact h1 hy
theorem Rel.focus (r : Rel K κ Z B G H ρ σ fp) {p : Pl} {ds : List D} (hp : plOk κ p = true) (e : getPl ρ p = some (.list ds)) :
    ∃ b vs, PlV H σ b p ∧ H b = some (.lst vs) ∧ DvAll K B vs ds ∧ ∀ {vs' : List V} {ds' : List D}, DvAll K B vs' ds' → ∃ fp2, Rel K κ Z B G (upd H b (.lst vs')) (setPl ρ p (some (.list ds'))) σ fp2 := by
  cases p with
  | v i =>
    have hk : κ[i]? = some (.l .s) := of_decide_eq_true hp
    obtain ⟨v, s, h1, h2, ow⟩ := r.at_ i _ (gv_get e)
    rw [hk] at h2; cases h2
    generalize hf : fp i = as at ow
    cases ow with
    | l h t =>
      rename_i b vs as
      obtain ⟨t2, rfl⟩ := t.all
      have hb : G b = none := (r.out i b (by rw [hf]; simp)).1
      refine ⟨b, vs, h1, h, t2, fun {vs' ds'} t' => ⟨_, r.put (s := .l .s) (as := [b]) hk h1 (.l upd_same (.of t')) (by simp) (Same.refl _) r.bg (fun a o e => ?_) r.zg (fun j hj a ha => ⟨(r.out j a ha).1, ?_, fun o e => ?_⟩) (fun a ha => ?_)⟩⟩
      · rw [upd_ne fun z => by rw [z, hb] at e; cases e]; exact r.gh _ _ e
      · intro z
        have z : a = b := by simpa using z
        exact r.dj j i hj a ha (by rw [hf, z]; simp)
      · rw [upd_ne fun z => r.dj j i hj a ha (by rw [hf, z]; simp)]; exact e
      · have z : a = b := by simpa using ha
        subst z
        exact ⟨hb, _, upd_same⟩
  | f i j k =>
    have hp' : ∃ ks, κ[i]? = some (.r ks) ∧ ks[j]? = some (k, true) ∧ (ks.map (·.1)).Nodup := by
      unfold plOk at hp
      dsimp only at hp
      cases hk : κ[i]? with
      | none => rw [hk] at hp; cases hp
      | some sh =>
        rw [hk] at hp
        cases sh with
        | r ks =>
          simp only [Bool.and_eq_true, decide_eq_true_eq] at hp
          exact ⟨ks, rfl, hp.1, hp.2⟩
        | _ => cases hp
    · obtain ⟨ks, hk, hks, hnd⟩ := hp'
      simp only [getPl] at e
      split at e
      · rename_i dr hgv
        obtain ⟨v, s, h1, h2, ow⟩ := r.at_ i _ (gv_get hgv)
        rw [hk] at h2; cases h2
        have nd := r.nd i
        generalize hf : fp i = as at ow nd
        cases ow with
        | r h t =>
          rename_i a kvs as
          obtain ⟨k', b', w, l, m, rr, g1, g2, g3, g4, g5⟩ := t.split e
          rw [hks] at g1; cases g1
          have hkeys := t.keys.1
          have knd : (kvs.map (·.1)).Nodup := by
            rw [hkeys]
            have z := nodup_inr hnd
            rw [List.map_map] at z
            exact z
          have g4 : Ow K B Z H (.l .s) (.list ds) w m := g4
          cases g4 with
          | l hb tb0 =>
            rename_i b vs as'
            obtain ⟨tb, rfl⟩ := tb0.all
            subst g3
            have hG : ∀ x ∈ fp i, G x = none := fun x hx => (r.out i x hx).1
            rw [hf] at hG
            have hab : a ≠ b := fun z => by
              subst z
              simp at nd
            have hbl : ∀ x ∈ l ++ rr, x ≠ b := fun x hx z => by
              subst z
              simp only [List.nodup_cons, List.nodup_append, List.mem_append, List.mem_cons, List.not_mem_nil, or_false] at nd hx
              obtain ⟨_, ⟨_, _, n3⟩, _, n5⟩ := nd
              rcases hx with q | q
              · exact n3 x q x rfl rfl
              · exact n5 x (.inr rfl) x q rfl
            refine ⟨b, vs, ⟨a, kvs, h1, h, valV_at knd g2⟩, hb, tb, fun {vs' ds'} t' => ?_⟩
            have new := g5 (B' := B) (H' := upd H b (.lst vs')) (d' := .list ds') (v' := .ref b) (m' := [b]) (Same.refl _) (fun x hx o e => by rw [upd_ne (hbl x hx)]; exact e) (.l upd_same (.of t'))
            have hset : kvs.set j (.inr k, .ref b) = kvs := by
              apply List.ext_getElem?
              intro n
              by_cases hn : j = n
              · subst hn
                rw [List.getElem?_set_self (by exact (List.getElem?_eq_some_iff.mp g2).1), g2]
              · rw [List.getElem?_set_ne hn]
            rw [hset] at new
            have hgv' : setPl ρ (.f i j k) (some (.list ds')) = ρ.set i (some (.tuple (dr.set j (.list ds')))) := by simp only [setPl, hgv]
            rw [hgv']
            refine ⟨_, r.put (s := .r ks) (as := a :: (l ++ [b] ++ rr)) hk h1 (.r (by rw [upd_ne hab]; exact h) new) nd (Same.refl _) r.bg (fun x o e => ?_) r.zg (fun j' hj x hx => ⟨(r.out j' x hx).1, fun z => r.dj j' i hj x hx (by rw [hf]; exact z), fun o e => ?_⟩) (fun x hx => ⟨hG x hx, ?_⟩)⟩
            · rw [upd_ne fun z => by rw [z, hG b (by simp)] at e; cases e]; exact r.gh _ _ e
            · rw [upd_ne fun z => r.dj j' i hj x hx (by rw [hf, z]; simp)]; exact e
            · by_cases hx2 : x = b
              · subst hx2; exact ⟨_, upd_same⟩
              · rw [upd_ne hx2]
                obtain ⟨_, o, e⟩ := r.out i x (by rw [hf]; exact hx)
                exact ⟨o, e⟩
      · cases e
end
end TV

/-! V9: arguments, displays, methods of places; what is walked; statements. -/
namespace TV
open PySem PySem.Spec PyProof.Rows L2
section
variable {C : Ct} {K : PySem.W.Frag} {κ : List Sh} {Z B G H B' G' H' : Hp} {σ : L2.St} {ρ ρ' : Env} {fp fp' : Nat → List Addr}
variable {X : Cx} {a b c : Expr} {pos : Pos} {ev eva evb evc : Env → R D} {pa pb pc : Bool}
/-! ### argument lists -/
theorem PA.imp {es : List Expr} {t t' : TA} (h : PA X es t) (i : ∀ σ H Q, t' σ H Q → t σ H Q) : PA X es t' := ⟨fun p pins s σ H Q I q => h.run p pins s σ H Q I (i σ H Q q)⟩
/-- shared items -/
def tEs (C : Ct) (ev : Env → R (List D)) (pu : Bool) : TA := tEv C ev pu (fun (Q : List V → Hp → Prop) ds B' _ H' _ _ => ∀ vs, DvAll C.K B' vs ds → Q vs H')
theorem te_nil {es : List Expr} (h : PA X es L2.tNil) : PA X es (tEs C (fun ρ => .ok [] ρ) true) := PA.imp h fun σ H Q ⟨ρ, B, G, fp, r, q⟩ => q B G H fp .refl (fun _ => Same.refl _) r [] .nil
theorem rd_cons {evs : Env → R (List D)} (σ : L2.St) (H : Hp) (Q : List V → Hp → Prop) : tEs C (fun ρ => (eva ρ).bind fun d ρ => (evs ρ).bind fun ds ρ => .ok (d :: ds) ρ) (pa && pb) σ H Q → L2.tCons (tS C eva pa) (tEs C evs pb) σ H Q := fun ⟨ρ, B, G, fp, r, q⟩ => by
  have q : Post C B G H σ (pa && pb) _ _ := q
  refine ⟨ρ, B, G, fp, r, (q.bind (pu1 := pa) (pu2 := pb) rfl).mono fun d B1 G1 H1 fp1 ρ1 _ _ r1 k v hv => ?_⟩
  refine ⟨ρ1, B1, G1, fp1, r1, (k.bind (pu1 := pb) (pu2 := true) (by simp)).mono fun ds B2 G2 H2 fp2 ρ2 b2 _ r2 k vs hvs => ?_⟩
  exact k B2 G2 H2 fp2 .refl (fun _ => Same.refl _) r2 (v :: vs) (.cons (hv.mono b2.b) hvs)
theorem te_cons {es : List Expr} {evs : Env → R (List D)} (h : PA X es (L2.tCons (tS C eva pa) (tEs C evs pb))) : PA X es (tEs C (fun ρ => (eva ρ).bind fun d ρ => (evs ρ).bind fun ds ρ => .ok (d :: ds) ρ) (pa && pb)) := PA.imp h rd_cons
theorem items_pk {v : V} {d : D} {xs : List D} (h : Pk K B H v d) (e : Same B H) (hd : itemsD d = some xs) : ∃ p vs, v = .ref p ∧ (SqT K H p vs ∨ SqL K H p vs) ∧ DvAll K B vs xs := by
  cases d with
  | list ds =>
    simp only [itemsD, Option.some.injEq] at hd; subst hd
    obtain ⟨p, vs, rfl, h1, t⟩ := h.list e
    exact ⟨p, vs, rfl, .inr h1, t⟩
  | tuple ds =>
    simp only [itemsD, Option.some.injEq] at hd; subst hd
    obtain ⟨p, vs, rfl, h1, t⟩ := h.tuple e
    exact ⟨p, vs, rfl, .inl h1, t⟩
  | _ => simp [itemsD] at hd
theorem te_star {es : List Expr} {evs : Env → R (List D)} (h : PA X es (StX.tStar C.K (tZ C eva pa) (tEs C evs pb))) :
    PA X es (tEs C (fun ρ => (eva ρ).bind fun d ρ => match itemsD d with | some xs => (evs ρ).bind fun ds ρ => .ok (xs ++ ds) ρ | none => .no) (pa && pb)) := PA.imp h fun σ H Q ⟨ρ, B, G, fp, r, q⟩ => by
  have q : Post C B G H σ (pa && pb) _ _ := q
  refine ⟨ρ, B, G, fp, r, (q.bind (pu1 := pa) (pu2 := pb) rfl).mono fun d B1 G1 H1 fp1 ρ1 _ _ r1 k v hv => ?_⟩
  cases hd : itemsD d with
  | none => rw [hd] at k; exact k.elim
  | some xs =>
    rw [hd] at k
    dsimp only at k
    obtain ⟨p, vs, rfl, hs, t⟩ := items_pk hv r1.bh hd
    refine ⟨p, vs, rfl, hs, ρ1, B1, G1, fp1, r1, (k.bind (pu1 := pb) (pu2 := true) (by simp)).mono fun ds B2 G2 H2 fp2 ρ2 b2 _ r2 k ws hws => ?_⟩
    exact k B2 G2 H2 fp2 .refl (fun _ => Same.refl _) r2 (vs ++ ws) ((t.mono b2.b).append hws)
theorem te_tup {e : Expr} {evs : Env → R (List D)} (h : PE X e (L2.tTup (tEs C evs pb))) : PE X e (tS C (tupD evs) pb) := PE.imp h fun σ H Q ⟨ρ, B, G, fp, r, q⟩ => by
  have q : Post C B G H σ pb _ _ := q
  refine ⟨ρ, B, G, fp, r, (q.bind (pu1 := pb) (pu2 := true) (by simp)).mono fun ds B1 G1 H1 fp1 ρ1 _ _ r1 k vs hvs => ?_⟩
  try dsimp only at k
  split at k
  · rename_i hl
    have k2 : Post C B1 G1 H1 σ true (.ok (.tuple ds) ρ1) (kN C .s Q) := k.mono fun d B' G' H' fp' ρ' _ _ _ k v as ow _ _ => by
      cases ow with
      | s h => exact k v h
    exact ⟨lim_size (by rw [hvs.length]; exact hl), fun p hp => PostV.newT (k2.fin r1) r1.bh hvs hp⟩
  · exact k.elim
theorem te_lst {e : Expr} {evs : Env → R (List D)} (h : PE X e (L2.tLst (tEs C evs pb))) : PE X e (tN C (lstD evs) pb (.l .s)) := PE.imp h fun σ H Q ⟨ρ, B, G, fp, r, q⟩ => by
  have q : Post C B G H σ pb _ _ := q
  refine ⟨ρ, B, G, fp, r, (q.bind (pu1 := pb) (pu2 := true) (by simp)).mono fun ds B1 G1 H1 fp1 ρ1 _ _ r1 k vs hvs => ?_⟩
  try dsimp only at k
  split at k
  · rename_i hl
    exact ⟨lim_size (by rw [hvs.length]; exact hl), fun p hp => PostV.newL (k.fin r1) r1.bh hvs hp⟩
  · exact k.elim
/-- arguments of a def -/
theorem ta_nil {es : List Expr} (h : PA X es L2.tNil) : PA X es (tAs C (fun ρ => .ok [] ρ) true []) := PA.imp h fun σ H Q ⟨ρ, B, G, fp, r, q⟩ => q B G H fp .refl (fun _ => Same.refl _) r [] .nil
theorem ta_val {es : List Expr} {evs : Env → R (List Ar)} {ps : List Sh} (h : PA X es (L2.tCons (tS C eva pa) (tAs C evs pb ps))) :
    PA X es (tAs C (fun ρ => (eva ρ).bind fun d ρ => (evs ρ).bind fun ds ρ => .ok (.val d :: ds) ρ) (pa && pb) (.s :: ps)) := PA.imp h fun σ H Q ⟨ρ, B, G, fp, r, q⟩ => by
  have q : Post C B G H σ (pa && pb) _ _ := q
  refine ⟨ρ, B, G, fp, r, (q.bind (pu1 := pa) (pu2 := pb) rfl).mono fun d B1 G1 H1 fp1 ρ1 _ _ r1 k v hv => ?_⟩
  refine ⟨ρ1, B1, G1, fp1, r1, (k.bind (pu1 := pb) (pu2 := true) (by simp)).mono fun ds B2 G2 H2 fp2 ρ2 b2 _ r2 k vs hvs => ?_⟩
  exact k B2 G2 H2 fp2 .refl (fun _ => Same.refl _) r2 (v :: vs) (.s (hv.mono b2.b) hvs)
theorem ta_io {es : List Expr} {evs : Env → R (List Ar)} {ps : List Sh} {i : Nat} {p : Sh} (hm : p.isM = true) (hk : C.κ[i]? = some p) (h : PA X es (L2.tCons (tVar i) (tAs C evs pb ps))) :
    PA X es (tAs C (fun ρ => match gv ρ i with | some _ => (evs ρ).bind fun ds ρ => .ok (.io i :: ds) ρ | none => .no) pb (p :: ps)) := PA.imp h fun σ H Q ⟨ρ, B, G, fp, r, q⟩ => by
  dsimp only at q
  cases e : gv ρ i with
  | none => rw [e] at q; exact q.elim
  | some d =>
    rw [e] at q
    dsimp only at q
    obtain ⟨v, s, h1, h2, h3⟩ := r.at_ i d (gv_some e)
    have q : Post C B G H σ pb _ _ := q
    refine ⟨v, h1, ρ, B, G, fp, r, (q.bind (pu1 := pb) (pu2 := true) (by simp)).mono fun ds B2 G2 H2 fp2 ρ2 b2 _ r2 k vs hvs => ?_⟩
    exact k B2 G2 H2 fp2 .refl (fun _ => Same.refl _) r2 (v :: vs) (.m hm hk h1 hvs)
theorem ta_pk {es : List Expr} {evs : Env → R (List Ar)} {ps : List Sh} {i : Nat} {p : Sh} (hm : p = .z ∨ p = .l .s) (hk : C.κ[i]? = some p) (h : PA X es (L2.tCons (tVar i) (tAs C evs pb ps))) :
    PA X es (tAs C (fun ρ => match gv ρ i with | some _ => (evs ρ).bind fun ds ρ => .ok (.pk i :: ds) ρ | none => .no) pb (.z :: ps)) := PA.imp h fun σ H Q ⟨ρ, B, G, fp, r, q⟩ => by
  dsimp only at q
  cases e : gv ρ i with
  | none => rw [e] at q; exact q.elim
  | some d =>
    rw [e] at q
    dsimp only at q
    obtain ⟨v, s, h1, h2, h3⟩ := r.at_ i d (gv_some e)
    have q : Post C B G H σ pb _ _ := q
    refine ⟨v, h1, ρ, B, G, fp, r, (q.bind (pu1 := pb) (pu2 := true) (by simp)).mono fun ds B2 G2 H2 fp2 ρ2 b2 _ r2 k vs hvs => ?_⟩
    exact k B2 G2 H2 fp2 .refl (fun _ => Same.refl _) r2 (v :: vs) (.z hk hm h1 hvs)
/-! ### places -/
def tPl (p : Pl) : TE := fun σ H Q => ∃ b, PlV H σ b p ∧ Q (.ref b) H
theorem te_plV {e : Expr} {i : Nat} (h : PE X e (tVar i)) : PE X e (tPl (.v i)) := PE.imp h fun σ H Q ⟨b, h1, q⟩ => ⟨_, h1, q⟩
theorem te_plF {e o ix : Expr} {i j : Nat} {k : Str} (hu : X.A.units + 1 < cLine) (ho : PE X o (tVar i)) (hi : PE X ix (tC (.str k))) (hs : NoSl ix) : PE X (.Subscript o ix pos) (tPl (.f i j k)) := PE.imp (pe_dget hu ho hi hs) fun σ H Q ⟨b, ⟨a, kvs, h1, h2, h3⟩, q⟩ =>
  ⟨.ref a, h1, a, .ref b, rfl, by rw [← h3]; exact DGet.k (k := .inr k) h2, q⟩
theorem PlV.det {p : Pl} {b b' : Addr} (e : Same H H') (h : PlV H σ b p) (h' : PlV H' σ b' p) : b = b' := by
  cases p with
  | v i =>
    have h1 : σ[i]? = some (some (.ref b)) := h
    have h2 : σ[i]? = some (some (.ref b')) := h'
    rw [h1] at h2; cases h2; rfl
  | f i j k =>
    obtain ⟨a, kvs, h1, h2, h3⟩ := h
    obtain ⟨a', kvs', g1, g2, g3⟩ := h'
    rw [h1] at g1; cases g1
    rw [e _ _ h2] at g2; cases g2
    rw [h3] at g3; cases g3; rfl
theorem PlV.detV {i : Nat} {b b' : Addr} (h : PlV H σ b (.v i)) (h' : PlV H' σ b' (.v i)) : b = b' := by
  have h1 : σ[i]? = some (some (.ref b)) := h
  have h2 : σ[i]? = some (some (.ref b')) := h'
  rw [h1] at h2; cases h2; rfl
theorem te_pop {e : Expr} {p : Pl} (hp : plOk C.κ p = true) (h : PE X e (tBM0 C.K "list" rPop (tPl p))) : PE X e (tS C (popD p) false) := PE.imp h fun σ H Q ⟨ρ, B, G, fp, r, q⟩ => by
  unfold popD at q
  split at q
  · rename_i ds e1
    split at q
    · rename_i d e2
      obtain ⟨b, vs, hb, h1, t, h2⟩ := r.focus hp e1
      obtain ⟨fp2, r2⟩ := h2 t.dropLast
      have e3 : ds[ds.length - 1]? = some d := by rw [← List.getLast?_eq_getElem?]; exact e2
      obtain ⟨v, h3, h4⟩ := t.get e3
      exact ⟨b, hb, .inl ⟨rfl, vs, .of h1⟩, b, vs, v, rfl, rfl, h1, by rw [t.length]; exact h3, q B G _ fp2 .refl (fun z => by cases z) r2 v h4⟩
    · exact q.elim
  · exact q.elim
def Pl.isV : Pl → Bool
  | .v _ => true
  | .f _ _ _ => false
theorem PlV.same {p : Pl} {b b' : Addr} (hs : p.isV = true ∨ Same H H') (h : PlV H σ b p) (h' : PlV H' σ b' p) : b = b' := by
  rcases hs with hs | hs
  · cases p with
    | v i => exact PlV.detV h h'
    | f => cases hs
  · exact PlV.det hs h h'
theorem seq_of_ixN {n : Nat} {i : Int} {j : Nat} (h : ixN n i = some j) : seqIndex? i n = some j ∧ -(n : Int) ≤ i ∧ i < n := ⟨(ixN_seq h).1, (ixN_seq h).2.2.1, (ixN_seq h).2.2.2⟩
theorem te_popAt {e : Expr} {p : Pl} (hp : plOk C.κ p = true) (hs : p.isV = true ∨ pa = true) (h : PE X e (tBM C.K "list" rPopAt (tPl p) (L2.tCons (tS C eva pa) L2.tNil))) : PE X e (tS C (popAtD p eva) false) := PE.imp h fun σ H Q ⟨ρ, B, G, fp, r, q⟩ => by
  unfold popAtD at q
  split at q
  · rename_i ds0 e0
    obtain ⟨b0, vs0, hb0, h0, t0, _⟩ := r.focus hp e0
    refine ⟨b0, hb0, .inl ⟨rfl, vs0, .of h0⟩, ρ, B, G, fp, r, ?_⟩
    refine ((show Post C B G H σ false _ _ from q).bind (pu1 := pa) (pu2 := false) (by simp)).mono fun d B1 G1 H1 fp1 ρ1 _ p1 r1 k v hv => ?_
    try dsimp only at k
    split at k
    · rename_i ds i e1
      split at k
      · rename_i j e2
        split at k
        · rename_i hlim
          split at k
          · rename_i d e3
            obtain ⟨b, vs, hb, h1, t, h2⟩ := r1.focus hp e1
            have hbb : b0 = b := PlV.same (hs.imp id p1) hb0 hb
            subst hbb
            obtain ⟨fp2, r2⟩ := h2 (t.eraseIdx j)
            obtain ⟨v', h3, h4⟩ := t.get e3
            obtain rfl := hv.int'
            obtain ⟨g1, g2, g3⟩ := seq_of_ixN e2
            have hl := t.length
            unfold LIM at hlim
            exact ⟨b0, vs, i, j, v', rfl, rfl, h1, by omega, by omega, by rw [hl]; exact g1, h3, k B1 G1 _ fp2 .refl (fun z => by cases z) r2 v' h4⟩
          · exact k.elim
        · exact k.elim
      · exact k.elim
    · exact k.elim
  · exact q.elim
end
end TV

/-! V10: slices, chains, records; what is walked. -/
namespace TV
open PySem PySem.Spec PyProof.Rows L2
section
variable {C : Ct} {K : PySem.W.Frag} {κ : List Sh} {Z B G H B' G' H' : Hp} {σ : L2.St} {ρ ρ' : Env} {fp fp' : Nat → List Addr}
variable {X : Cx} {a b c : Expr} {pos : Pos} {ev eva evb evc : Env → R D} {pa pb pc : Bool}
/-- a[:b], a[b:] -/
theorem te_sl {e : Expr} {f : B2} {g : D → Option Int → Option Int → Option D} {sh : Sh} {up : Bool} (h : PE X e (L2.tSl (RS C.K sh g) (tZ C eva pa) (if up then tNoPart else tPart (tS C evb true)) (if up then tPart (tS C evb true) else tNoPart)))
    (hg : ∀ da db d, b2 f da db = some d → ∃ i, db = .int i ∧ g da (if up then none else some i) (if up then some i else none) = some d) :
    PE X e (tN C (fun ρ => (eva ρ).bind fun x ρ => (evb ρ).bind fun y ρ => R.of (b2 f x y) ρ) pa sh) := PE.imp h fun σ H Q ⟨ρ, B, G, fp, R0, q⟩ => by
  have q : Post C B G H σ pa _ _ := q
  refine ⟨ρ, B, G, fp, R0, (q.bind (pu1 := pa) (pu2 := true) (by simp)).mono fun d1 B1 G1 H1 fp1 ρ1 _ _ r1 k v1 hv1 => ?_⟩
  have k2 : Post C B1 G1 H1 σ true (evb ρ1) (kS C fun y H2 => ∃ i, y = .int i ∧ RS C.K sh g v1 (if up then none else some i) (if up then some i else none) H2 Q) := (k.bind (pu1 := true) (pu2 := true) rfl).mono fun d2 B2 G2 H2 fp2 ρ2 b2' p2 r2 k v2 hv2 => by
    obtain ⟨d', e1, k3⟩ := Post.of_some k
    obtain ⟨i, rfl, e2⟩ := hg _ _ _ e1
    obtain rfl := hv2.int'
    exact ⟨i, rfl, B2, d1, d', r2.bh, hv1.mono b2'.b (p2 rfl), e2, k3.fin r2⟩
  cases up with
  | true =>
    refine ⟨ρ1, B1, G1, fp1, r1, k2.mono fun d2 B2 G2 H2 fp2 ρ2 _ _ _ k v hv => ?_⟩
    obtain ⟨i, rfl, k⟩ := k v hv
    exact ⟨i, rfl, k⟩
  | false =>
    refine ⟨ρ1, B1, G1, fp1, r1, k2.mono fun d2 B2 G2 H2 fp2 ρ2 _ _ _ k v hv => ?_⟩
    obtain ⟨i, rfl, k⟩ := k v hv
    exact ⟨i, rfl, k⟩
/-- a f b g c -/
theorem rd_chain {f g : B2} {r r' : R2} (hf : f.sh = .s) (hg : g.sh = .s) (hr : ∀ x y H Q, RV2 C.K f.sh (b2 f) x y H Q → r x y H Q) (hr' : ∀ x y H Q, RV2 C.K g.sh (b2 g) x y H Q → r' x y H Q) (σ : L2.St) (H : Hp) (Q : VK) :
    tS C (chD (b2 f) (b2 g) eva evb evc) (pa && (pb && pc)) σ H Q → L2.tChain r r' (tS C eva pa) (tS C evb pb) (tS C evc pc) σ H Q := fun ⟨ρ, B, G, fp, R0, q⟩ => by
  have q : Post C B G H σ (pa && (pb && pc)) _ _ := q
  refine ⟨ρ, B, G, fp, R0, (q.bind (pu1 := pa) (pu2 := pb && pc) rfl).mono fun d1 B1 G1 H1 fp1 ρ1 _ _ r1 k v1 hv1 => ?_⟩
  refine ⟨ρ1, B1, G1, fp1, r1, (k.bind (pu1 := pb) (pu2 := pc) rfl).mono fun d2 B2 G2 H2 fp2 ρ2 b2' _ r2 k v2 hv2 => hr _ _ _ _ ?_⟩
  try dsimp only at k
  have step : ∀ b : Bool, b2 f d1 d2 = some (.bool b) → (∀ G3 B3 H3 fp3, Up B2 G2 B3 G3 → Same H2 H3 → Rel C.K C.κ C.Z B3 G3 H3 ρ2 σ fp3 → ∀ v : V, v = .bl b → ∃ k : Bool, v = .bl k ∧ (if k = true then tS C evc pc σ H3 (fun w' H4 => r' v2 w' H4 Q) else Q (.bl false) H3)) → RV2 C.K f.sh (b2 f) v1 v2 H2 fun z H3 => ∃ k : Bool, z = .bl k ∧ (if k = true then tS C evc pc σ H3 (fun w' H4 => r' v2 w' H4 Q) else Q (.bl false) H3) := fun b e1 fin => by
    refine ⟨B2, d1, d2, .bool b, r2.bh, .s (hv1.mono b2'.b), .s hv2, e1, fun v H3 B3 as x ow nd out => ?_⟩
    rw [hf] at ow
    obtain ⟨r3, u3⟩ := r2.ext x
    have ow := ow B3
    generalize as = as' at ow
    cases ow with
    | s hv => exact fin _ B3 H3 fp2 u3 x.h r3 v hv.bl'
  cases e1 : b2 f d1 d2 with
  | none => rw [e1] at k; exact k.elim
  | some d =>
    rw [e1] at k
    cases d with
    | bool bb =>
      cases bb with
      | true =>
        refine step true e1 fun G3 B3 H3 fp3 u3 s3 r3 v ev => ⟨true, ev, ?_⟩
        rw [if_pos rfl]
        have k' : Post C B2 G2 H2 σ pc ((evc ρ2).bind fun z ρ => R.of (b2 g d2 z) ρ) (kS C Q) := k
        have k3 : Post C B3 G3 H3 σ pc ((evc ρ2).bind fun z ρ => R.of (b2 g d2 z) ρ) (kS C Q) := by
          cases q3 : ((evc ρ2).bind fun z ρ => R.of (b2 g d2 z) ρ) with
          | ok d' ρ' =>
            rw [q3] at k'
            exact fun B' G' H' fp' u p r => k' B' G' H' fp' (u3.trans u) (fun z => s3.trans (p z)) r
          | err x' ρ' =>
            rw [q3] at k'
            exact fun cls dx B' G' H' fp' u r => k' cls dx B' G' H' fp' (u3.trans u) r
          | no => rw [q3] at k'; exact k'
        refine ⟨ρ2, B3, G3, fp3, r3, (k3.bind (pu1 := pc) (pu2 := true) (by simp)).mono fun d4 B4 G4 H4 fp4 ρ4 b4 _ r4 k v4 hv4 => hr' _ _ _ _ ?_⟩
        obtain ⟨d', e2, k⟩ := Post.of_some k
        refine ⟨B4, d2, d4, d', r4.bh, .s ((hv2.mono u3.b).mono b4.b), .s hv4, e2, ?_⟩
        rw [hg]
        have k4 : Post C B4 G4 H4 σ true (.ok d' ρ4) (kN C .s Q) := Post.mono (show Post C B4 G4 H4 σ true (.ok d' ρ4) (kS C Q) from k) fun d B' G' H' fp' ρ' _ _ _ k v as ow _ _ => by
          cases ow with
          | s h => exact k v h
        exact k4.fin r4
      | false =>
        refine step false e1 fun G3 B3 H3 fp3 u3 s3 r3 v ev => ⟨false, ev, ?_⟩
        rw [if_neg (by decide)]
        have k' : Post C B2 G2 H2 σ pc (.ok (.bool false) ρ2) (kS C Q) := k
        exact k' B3 G3 H3 fp3 u3 (fun _ => s3) r3 _ (.bl false)
    | _ => exact k.elim
/-! ### what is walked -/
/-- an iterator that yields these items, whatever is laid meanwhile -/
structure Walk (K : PySem.W.Frag) (B W : Hp) (J : It) (ds : List D) : Prop where
  go : ∀ i H, Same W H → i < ds.length → J.go i H
  stop : ∀ i H, Same W H → ds.length ≤ i → J.stop i H
  yld : ∀ i H x H' B1, Same B B1 → Same B1 H → Same W H → J.yld i H x H' → i < ds.length → ∃ d B', ds[i]? = some d ∧ Ext B1 H B' H' ∧ Dv K B' x d
def tW (C : Ct) (ev : Env → R (List D)) (pu : Bool) : TI := tEv C ev pu (fun (R : It → Hp → Prop) ds B' G' H' _ _ => ∀ J, Walk C.K B' B' J ds → R J H')
theorem SqL_eq {a : Addr} {vs : List V} (h : B a = some (.lst vs)) (e : Same B H) : SqL K H a vs := .of (e _ _ h)
theorem walk_lst {a : Addr} {vs : List V} {ds : List D} (h : B a = some (.lst vs)) (t : DvAll K B vs ds) : Walk K B B (Itl K a) ds where
  go := fun i H e hi => by
    obtain ⟨v, h1, _⟩ := t.get (List.getElem?_eq_getElem hi)
    exact ⟨vs, v, .of (e _ _ h), h1⟩
  stop := fun i H e hi => ⟨vs, .of (e _ _ h), by rw [t.length]; exact hi⟩
  yld := fun i H x H' B1 b1 e _ y hi => by
    obtain ⟨rfl, y⟩ := y
    have hx := y vs (.of (e _ _ (b1 _ _ h)))
    obtain ⟨d, h1, h2⟩ := t.get' hx
    exact ⟨d, B1, h1, Ext.refl e, h2.mono b1⟩
theorem walk_tup {a : Addr} {vs : List V} {ds : List D} (h : SqT K B a vs) (t : DvAll K B vs ds) : Walk K B B (Itt K a) ds where
  go := fun i H e hi => by
    obtain ⟨v, h1, _⟩ := t.get (List.getElem?_eq_getElem hi)
    exact ⟨vs, v, Le.tup e h, h1⟩
  stop := fun i H e hi => ⟨vs, Le.tup e h, by rw [t.length]; exact hi⟩
  yld := fun i H x H' B1 b1 e _ y hi => by
    obtain ⟨rfl, y⟩ := y
    have hx := y vs (Le.tup e (Le.tup b1 h))
    obtain ⟨d, h1, h2⟩ := t.get' hx
    exact ⟨d, B1, h1, Ext.refl e, h2.mono b1⟩
theorem rngD_get {lo : Int} {hi : Int} {i : Nat} (h : i < (hi - lo).toNat) : (rngD lo hi)[i]? = some (.int (lo + (i : Nat))) := by
  unfold rngD
  rw [List.getElem?_map, List.getElem?_range h]; rfl
theorem rngD_len {lo hi : Int} : (rngD lo hi).length = (hi - lo).toNat := by unfold rngD; simp
theorem walk_rng {lo hi : Int} {n : Nat} (e : n = (hi - lo).toNat) : Walk K B B (Itr lo n) (rngD lo hi) where
  go := fun i H _ hi => by rw [rngD_len] at hi; exact e ▸ hi
  stop := fun i H _ hi => by rw [rngD_len] at hi; exact e ▸ hi
  yld := fun i H x H' B1 b1 e' _ y hi => by
    rw [rngD_len] at hi
    obtain ⟨rfl, rfl⟩ := y
    exact ⟨_, B1, rngD_get hi, Ext.refl e', .int _⟩
theorem SqT.same {a : Addr} {xs ys : List V} {X : Cx} {pins : List (Addr × Obj)} {σ : L2.St} {s : Shared} (I : L2.Inv X pins σ H s) (h : SqT X.K H a xs) (h' : SqT X.K H a ys) : xs = ys := I.tuple_inj h h'
/-- a list or a tuple -/
def iSeq (K : PySem.W.Frag) (tl : TE) : TI := fun σ H R => tl σ H fun x H1 => ∃ a, x = .ref a ∧ ((∃ xs, SqL K H1 a xs ∧ R (Itl K a) H1) ∨ ∃ xs, SqT K H1 a xs ∧ R (Itt K a) H1)
theorem pi_seq {tg l : Expr} {tl : TE} (hl : PE X l tl) : PI X tg l (iSeq X.K tl) := by
  refine ⟨fun pins s σ H R I h => ?_⟩
  refine thn (hl.run pins s σ H _ I h) fun v s1 ⟨x, H1, I1, r1, q1⟩ => ?_
  obtain ⟨a, e, q1⟩ := q1
  subst e
  cases r1
  have fin : ∀ b ∈ [s1.heap.objs.size], FpOk X pins H1 b := fun b hb => by
    have e : b = s1.heap.objs.size := by simpa using hb
    subst e
    exact I1.fpOk (Nat.le_refl _) (I1.hok.fresh (Nat.le_refl _))
  rcases q1 with ⟨xs, hq, q⟩ | ⟨xs, hq, q⟩
  · obtain ⟨its, rv, p, hz⟩ := I1.list hq
    exact wpAny_pyIter_list p.isList ⟨s1.heap.objs.size, [s1.heap.objs.size], _, _, H1, rfl, I1.kept (t' := s1.toks) fun b o e => Heap.get?_push_of_some _ e, turn_list a _, ⟨_, Heap.get?_push_size _ rfl, rfl, rfl⟩, fin, q⟩
  · obtain ⟨its, rv, p, hz⟩ := I1.tuple hq
    exact wpAny_pyIter_tuple (show s1.heap.IsTuple a its.toArray from p) ⟨s1.heap.objs.size, [s1.heap.objs.size], _, _, H1, rfl, I1.kept (t' := s1.toks) fun b o e => Heap.get?_push_of_some _ e, turn_tuple a _, ⟨_, Heap.get?_push_size _ rfl, rfl, rfl⟩, fin, q⟩
theorem PI.imp {tg it : Expr} {t t' : TI} (h : PI X tg it t) (i : ∀ σ H Q, t' σ H Q → t σ H Q) : PI X tg it t' := ⟨fun pins s σ H Q I q => h.run pins s σ H Q I (i σ H Q q)⟩
theorem tw_seq {tg l : Expr} (h : PI X tg l (iSeq C.K (tS C eva pa))) : PI X tg l (tW C (fun ρ => (eva ρ).bind fun d ρ => R.of (itemsD d) ρ) pa) := PI.imp h fun σ H R ⟨ρ, B, G, fp, r, q⟩ => by
  have q : Post C B G H σ pa _ _ := q
  refine ⟨ρ, B, G, fp, r, (q.bind (pu1 := pa) (pu2 := true) (by simp)).mono fun d B1 G1 H1 fp1 ρ1 _ _ r1 k v hv => ?_⟩
  obtain ⟨ds, e1, k⟩ := Post.of_some k
  have k := k B1 G1 H1 fp1 .refl (fun _ => Same.refl _) r1
  cases d with
  | list xs =>
    simp only [itemsD, Option.some.injEq] at e1; subst e1
    cases hv with
    | lst h t => exact ⟨_, rfl, .inl ⟨_, .of (r1.bh _ _ h), k _ (walk_lst h t)⟩⟩
  | tuple xs =>
    simp only [itemsD, Option.some.injEq] at e1; subst e1
    cases hv with
    | tup h t => exact ⟨_, rfl, .inr ⟨_, Le.tup r1.bh h, k _ (walk_tup h t)⟩⟩
  | _ => simp [itemsD] at e1
/-! ranges -/
def tInts (C : Ct) (ev : Env → R (List D)) (pu : Bool) : TA := tEs C ev pu
theorem tw_rng1 {tg e : Expr} (h : PI X tg e (iRng1 (L2.tCons (tS C eva pa) L2.tNil))) : PI X tg e (tW C (fun ρ => (eva ρ).bind fun d ρ => match d with
    | .int n => if n ≤ LIM && decide (-LIM ≤ n) then .ok (rngD 0 n) ρ else .no
    | _ => .no) pa) := PI.imp h fun σ H R ⟨ρ, B, G, fp, r, q⟩ => by
  have q : Post C B G H σ pa _ _ := q
  refine ⟨ρ, B, G, fp, r, (q.bind (pu1 := pa) (pu2 := true) (by simp)).mono fun d B1 G1 H1 fp1 ρ1 _ _ r1 k v hv => ?_⟩
  cases d with
  | int n =>
    dsimp only at k
    split at k
    · rename_i hc
      simp only [Bool.and_eq_true, decide_eq_true_eq] at hc
      obtain rfl := hv.int'
      have h1 := hc.1
      have h2 := hc.2
      unfold LIM at h1 h2
      exact ⟨n, rfl, by omega, by omega, k B1 G1 H1 fp1 .refl (fun _ => Same.refl _) r1 _ (walk_rng (by simp))⟩
    · exact k.elim
  | _ => exact k.elim
theorem tw_rng2 {tg e : Expr} (h : PI X tg e (iRng2 (L2.tCons (tS C eva pa) (L2.tCons (tS C evb pb) L2.tNil)))) : PI X tg e (tW C (fun ρ => (eva ρ).bind fun x ρ => (evb ρ).bind fun y ρ => match x, y with
    | .int i, .int j => if decide (i ≤ LIM) && decide (-LIM ≤ i) && decide (j ≤ LIM) && decide (-LIM ≤ j) then .ok (rngD i j) ρ else .no
    | _, _ => .no) (pa && pb)) := PI.imp h fun σ H R ⟨ρ, B, G, fp, r, q⟩ => by
  have q : Post C B G H σ (pa && pb) _ _ := q
  refine ⟨ρ, B, G, fp, r, (q.bind (pu1 := pa) (pu2 := pb) rfl).mono fun d B1 G1 H1 fp1 ρ1 _ _ r1 k v hv => ?_⟩
  refine ⟨ρ1, B1, G1, fp1, r1, (k.bind (pu1 := pb) (pu2 := true) (by simp)).mono fun d2 B2 G2 H2 fp2 ρ2 _ _ r2 k v2 hv2 => ?_⟩
  cases d with
  | int i =>
    cases d2 with
    | int j =>
      dsimp only at k
      split at k
      · rename_i hc
        simp only [Bool.and_eq_true, decide_eq_true_eq] at hc
        obtain rfl := hv.int'
        obtain rfl := hv2.int'
        obtain ⟨⟨⟨h1, h2⟩, h3⟩, h4⟩ := hc
        unfold LIM at h1 h2 h3 h4
        exact ⟨i, j, rfl, ⟨by omega, by omega, by omega, by omega⟩, k B2 G2 H2 fp2 .refl (fun _ => Same.refl _) r2 _ (walk_rng rfl)⟩
      · exact k.elim
    | _ => exact k.elim
  | _ => exact k.elim
theorem walk_down {i : Int} {n : Nat} : Walk K B B (Itc i (-1) n) ((List.range n).map fun m => PyData.int (i - (m : Nat))) where
  go := fun k H _ hk => by
    have z : k < n := by simpa using hk
    exact z
  stop := fun k H _ hk => by
    have z : n ≤ k := by simpa using hk
    exact z
  yld := fun k H x H' B1 b1 e' _ y hk => by
    have hk' : k < n := by simpa using hk
    obtain ⟨rfl, rfl⟩ := y
    refine ⟨.int (i - (k : Nat)), B1, by rw [List.getElem?_map, List.getElem?_range hk']; rfl, Ext.refl e', ?_⟩
    have : i + (k : Nat) * (-1 : Int) = i - (k : Nat) := by omega
    rw [this]
    exact .int _
theorem tw_rng3 {tg e : Expr} (h : PI X tg e (iRng3 (L2.tCons (tS C eva pa) (L2.tCons (tS C evb pb) (L2.tCons (tS C evc pc) L2.tNil))))) : PI X tg e (tW C (fun ρ => (eva ρ).bind fun x ρ => (evb ρ).bind fun y ρ => (evc ρ).bind fun z ρ => R.of (rng3D x y z) ρ) (pa && (pb && pc))) := PI.imp h fun σ H R ⟨ρ, B, G, fp, r, q⟩ => by
  have q : Post C B G H σ (pa && (pb && pc)) _ _ := q
  refine ⟨ρ, B, G, fp, r, (q.bind (pu1 := pa) (pu2 := pb && pc) rfl).mono fun d B1 G1 H1 fp1 ρ1 _ _ r1 k v hv => ?_⟩
  refine ⟨ρ1, B1, G1, fp1, r1, (k.bind (pu1 := pb) (pu2 := pc) rfl).mono fun d2 B2 G2 H2 fp2 ρ2 b2' _ r2 k v2 hv2 => ?_⟩
  refine ⟨ρ2, B2, G2, fp2, r2, (k.bind (pu1 := pc) (pu2 := true) (by simp)).mono fun d3 B3 G3 H3 fp3 ρ3 _ _ r3 k v3 hv3 => ?_⟩
  obtain ⟨ds, e1, k⟩ := Post.of_some k
  cases d with
  | int i =>
    cases d2 with
    | int j =>
      cases d3 with
      | int c =>
        simp only [rng3D] at e1
        split at e1
        · rename_i hc
          simp only [Bool.and_eq_true, decide_eq_true_eq] at hc
          obtain ⟨⟨⟨⟨rfl, h1⟩, h2⟩, h3⟩, h4⟩ := hc
          unfold LIM at h1 h2 h3 h4
          simp only [Option.some.injEq] at e1
          subst e1
          obtain rfl := hv.int'
          obtain rfl := hv2.int'
          obtain rfl := hv3.int'
          exact ⟨i, j, -1, _, rfl, RgC.neg (by omega) (by omega) (by omega) (by omega), k B3 G3 H3 fp3 .refl (fun _ => Same.refl _) r3 _ walk_down⟩
        · cases e1
      | _ => simp [rng3D] at e1
    | _ => simp [rng3D] at e1
  | _ => simp [rng3D] at e1
end
end TV

/-! V11: stores, comprehensions, records. -/
namespace TV
open PySem PySem.Spec PyProof.Rows L2
mutual
def Tg.slots : Tg → List Nat
  | .v i => [i]
  | .t ts => Tgs.slots ts
def Tgs.slots : Tgs → List Nat
  | .nil => []
  | .cons t ts => Tg.slots t ++ Tgs.slots ts
end
section
variable {C : Ct} {K : PySem.W.Frag} {κ : List Sh} {Z B G H B' G' H' : Hp} {σ : L2.St} {ρ ρ' : Env} {fp fp' : Nat → List Addr}
variable {X : Cx} {a b c : Expr} {pos : Pos} {ev eva evb evc : Env → R D} {pa pb pc : Bool}
/-- a slot is stored -/
theorem Rel.store (r : Rel K κ Z B G H ρ σ fp) {i : Nat} {s : Sh} {v : V} {d : D} {as : List Addr} (hk : κ[i]? = some s) (ow : Ow K B Z H s d v as) (nd : as.Nodup) (out : ∀ a ∈ as, G a = none ∧ ∀ j, a ∉ fp j) :
    Rel K κ Z B G H (ρ.set i (some d)) (σ.set i (some v)) (fun j => if j = i then as else fp j) := by
  have r0 := r.drop i
  have r1 : Rel K κ Z B G H (ρ.set i none) (σ.set i (some v)) (fun j => if j = i then [] else fp j) := ⟨r0.bg, r0.gh, r0.zg, by rw [List.length_set, List.length_set]; exact r.len, fun j d' e => by
    have hj : j ≠ i := fun z => by
      subst z
      by_cases hl : j < ρ.length
      · rw [List.getElem?_set_self hl] at e; cases e
      · rw [List.getElem?_eq_none (by simpa using hl)] at e; cases e
    obtain ⟨v', s', h1, h2, h3⟩ := r0.at_ j d' e
    exact ⟨v', s', by rw [List.getElem?_set_ne (Ne.symm hj)]; exact h1, h2, h3⟩, r0.nd, r0.dj, r0.out⟩
  by_cases hl : i < σ.length
  · have r2 := r1.put (i := i) (s := s) (v := v) (d := d) (as := as) hk (by rw [List.getElem?_set_self hl]) ow nd (Same.refl _) r1.bg r1.gh r1.zg (fun j hj a ha => ?_) (fun a ha => ⟨(out a ha).1, ow.inH a ha⟩)
    · rw [List.set_set] at r2
      have e : (fun j => if j = i then as else (fun j => if j = i then [] else fp j) j) = fun j => if j = i then as else fp j := by
        funext j
        by_cases hj : j = i <;> simp [hj]
      rw [e] at r2
      exact r2
    · rw [if_neg hj] at ha
      exact ⟨(r.out j a ha).1, fun z => (out a z).2 j ha, fun o e => e⟩
  · have hl2 : ¬ i < ρ.length := by rw [r.len]; exact hl
    have e1 : σ.set i (some v) = σ := List.set_eq_of_length_le (by omega)
    have e2 : ρ.set i (some d) = ρ := List.set_eq_of_length_le (by omega)
    have e3 : ρ.set i none = ρ := List.set_eq_of_length_le (by omega)
    rw [e1, e2]
    refine ⟨r.bg, r.gh, r.zg, r.len, fun j d' e => ?_, fun j => ?_, fun j k hjk a ha hb => ?_, fun j a ha => ?_⟩
    · have hj : j ≠ i := fun z => by subst z; rw [List.getElem?_eq_none (by omega)] at e; cases e
      obtain ⟨v', s', h1, h2, h3⟩ := r.at_ j d' e
      exact ⟨v', s', h1, h2, by rw [if_neg hj]; exact h3⟩
    · try dsimp only
      split
      · exact nd
      · exact r.nd j
    · try dsimp only at ha hb
      split at ha
      · split at hb
        · omega
        · exact (out a ha).2 k hb
      · split at hb
        · exact (out a hb).2 j ha
        · exact r.dj j k hjk a ha hb
    · try dsimp only at ha
      split at ha
      · exact ⟨(out a ha).1, ow.inH a ha⟩
      · exact r.out j a ha
/-- a target takes shared data -/
def TgOk (C : Ct) (g : TG) (tg : Tg) : Prop := ∀ {v : V} {d : D} {ρ ρ' : Env} {σ : L2.St} {B G H : Hp} {fp : Nat → List Addr} {Q : L2.St → Hp → Prop}, Dv C.K B v d → Rel C.K C.κ C.Z B G H ρ σ fp → bindT tg d ρ = some ρ' →
  (∀ σ' fp', Rel C.K C.κ C.Z B G H ρ' σ' fp' → σ'.length = σ.length → (∀ j, j ∉ tg.slots → σ'[j]? = σ[j]?) → Q σ' H) → g v σ H Q
def TgsOk (C : Ct) (g : TGs) (tg : Tgs) : Prop := ∀ {vs : List V} {ds : List D} {ρ ρ' : Env} {σ : L2.St} {B G H : Hp} {fp : Nat → List Addr} {Q : L2.St → Hp → Prop}, DvAll C.K B vs ds → Rel C.K C.κ C.Z B G H ρ σ fp → bindTs tg ds ρ = some ρ' →
  (∀ σ' fp', Rel C.K C.κ C.Z B G H ρ' σ' fp' → σ'.length = σ.length → (∀ j, j ∉ tg.slots → σ'[j]? = σ[j]?) → Q σ' H) → g vs σ H Q
theorem tg_v {i : Nat} (hk : C.κ[i]? = some .s) : TgOk C (gName i) (.v i) := fun {v d ρ ρ' σ B G H fp Q} hv r e q => by
  simp only [bindT, Option.some.injEq] at e
  subst e
  refine q _ _ (r.store hk (.s hv) List.nodup_nil (fun a ha => by cases ha)) (by simp) fun j hj => ?_
  have hj : i ≠ j := fun z => hj (by simp [Tg.slots, z])
  exact List.getElem?_set_ne hj
theorem tgs_nil : TgsOk C gNil .nil := fun {vs ds ρ ρ' σ B G H fp Q} hv r e q => by
  cases hv with
  | nil =>
    simp only [bindTs, Option.some.injEq] at e
    subst e
    exact ⟨rfl, q σ fp r rfl fun _ _ => rfl⟩
  | cons _ _ => simp [bindTs] at e
theorem tgs_cons {g : TG} {gs : TGs} {t : Tg} {ts : Tgs} (h : TgOk C g t) (hs : TgsOk C gs ts) : TgsOk C (gCons g gs) (.cons t ts) := fun {vs ds ρ ρ' σ B G H fp Q} hv r e q => by
  cases hv with
  | nil => simp [bindTs] at e
  | cons h1 h2 =>
    simp only [bindTs] at e
    split at e
    · rename_i ρ1 e1
      refine ⟨_, _, rfl, h h1 r e1 fun σ1 fp1 r1 l1 k1 => hs h2 r1 e fun σ2 fp2 r2 l2 k2 => q σ2 fp2 r2 (l2.trans l1) fun j hj => ?_⟩
      simp only [Tgs.slots, List.mem_append, not_or] at hj
      rw [k2 j hj.2, k1 j hj.1]
    · cases e
def Tgs.len : Tgs → Nat
  | .nil => 0
  | .cons _ ts => ts.len + 1
theorem bindTs_len : ∀ {ts : Tgs} {ds : List D} {ρ ρ' : Env}, bindTs ts ds ρ = some ρ' → ds.length = ts.len
  | .nil, [], _, _, _ => rfl
  | .nil, _ :: _, _, _, e => by simp [bindTs] at e
  | .cons t ts, [], _, _, e => by simp [bindTs] at e
  | .cons t ts, d :: ds, ρ, ρ', e => by
    simp only [bindTs] at e
    split at e
    · simp [Tgs.len, bindTs_len e]
    · cases e
theorem tg_t {gs : TGs} {ts : Tgs} {n : Nat} (hn : n = ts.len) (hs : TgsOk C gs ts) : TgOk C (gTup C.K n gs) (.t ts) := fun {v d ρ ρ' σ B G H fp Q} hv r e q => by
  cases d with
  | tuple ds =>
    simp only [bindT] at e
    cases hv with
    | tup h t => exact ⟨_, _, rfl, Le.tup r.bh h, by rw [t.length, bindTs_len e, hn], hs t r e q⟩
  | _ => simp [bindT] at e
/-! ### comprehensions -/
theorem Rel.wipe (r : Rel K κ Z B G H ρ σ fp) : ∀ vs : List Nat, ∃ fp', Rel K κ Z B G H (wipeE ρ vs) (L2.wipe σ vs) fp' ∧ ∀ i a, a ∈ fp' i → a ∈ fp i
  | [] => ⟨fp, r, fun _ _ h => h⟩
  | v :: vs => by
    obtain ⟨fp1, r1, h1⟩ := Rel.wipe r vs
    have r2 := r1.drop v
    refine ⟨fun j => if j = v then [] else fp1 j, ⟨r2.bg, r2.gh, r2.zg, ?_, fun j d e => ?_, r2.nd, r2.dj, r2.out⟩, fun i a ha => ?_⟩
    · show ((wipeE ρ vs).set v none).length = ((L2.wipe σ vs).set v none).length
      rw [List.length_set, List.length_set]; exact r1.len
    · have e : ((wipeE ρ vs).set v none)[j]? = some (some d) := e
      have hj : j ≠ v := fun z => by
        subst z
        by_cases hl : j < (wipeE ρ vs).length
        · rw [List.getElem?_set_self hl] at e; cases e
        · rw [List.getElem?_eq_none (by simpa using hl)] at e; cases e
      obtain ⟨v', s', g1, g2, g3⟩ := r2.at_ j d e
      exact ⟨v', s', by show ((L2.wipe σ vs).set v none)[j]? = _; rw [List.getElem?_set_ne (Ne.symm hj)]; exact g1, g2, g3⟩
    · try dsimp only at ha
      split at ha
      · cases ha
      · exact h1 i a ha
theorem wipeE_len : ∀ vs : List Nat, (wipeE ρ vs).length = ρ.length
  | [] => rfl
  | v :: vs => by show ((wipeE ρ vs).set v none).length = _; rw [List.length_set, wipeE_len vs]
theorem backE_len {ρ0 : Env} : ∀ vs : List Nat, (backE ρ0 ρ vs).length = ρ.length
  | [] => rfl
  | v :: vs => by show ((backE ρ0 ρ vs).set v _).length = _; rw [List.length_set, backE_len vs]
theorem backE_in {ρ0 : Env} {j : Nat} : ∀ {vs : List Nat}, j ∈ vs → j < ρ.length → (backE ρ0 ρ vs)[j]? = some (ρ0[j]?.join)
  | v :: vs, hj, hl => by
    show ((backE ρ0 ρ vs).set v (ρ0[v]?.join))[j]? = _
    by_cases e : v = j
    · subst e; rw [List.getElem?_set_self (by rw [backE_len]; exact hl)]
    · rw [List.getElem?_set_ne e]
      exact backE_in ((List.mem_cons.mp hj).resolve_left fun z => e z.symm) hl
theorem backE_out {ρ0 : Env} {j : Nat} : ∀ {vs : List Nat}, j ∉ vs → (backE ρ0 ρ vs)[j]? = ρ[j]?
  | [], _ => rfl
  | v :: vs, hj => by
    simp only [List.mem_cons, not_or] at hj
    show ((backE ρ0 ρ vs).set v _)[j]? = _
    rw [List.getElem?_set_ne (fun z => hj.1 z.symm)]
    exact backE_out hj.2
theorem wipe_in {j : Nat} : ∀ {vs : List Nat}, j ∈ vs → (L2.wipe σ vs)[j]? ≠ none → (L2.wipe σ vs)[j]? = some none
  | v :: vs, hj, hn => by
    by_cases e : v = j
    · subst e
      have h : (L2.wipe σ (v :: vs)) = (L2.wipe σ vs).set v none := rfl
      rw [h] at hn ⊢
      by_cases hl : v < (L2.wipe σ vs).length
      · rw [List.getElem?_set_self hl]
      · rw [List.getElem?_eq_none (by simpa using hl)] at hn; exact absurd rfl hn
    · have h : (L2.wipe σ (v :: vs)) = (L2.wipe σ vs).set v none := rfl
      rw [h, List.getElem?_set_ne e] at hn ⊢
      exact wipe_in ((List.mem_cons.mp hj).resolve_left fun z => e z.symm) hn
/-- the block is left: the slots outside as it left them, its own as they were -/
theorem Rel.back {ρ0 : Env} {B0 G0 H0 : Hp} {fp0 : Nat → List Addr} {vs : List Nat} (r0 : Rel K κ Z B0 G0 H0 ρ0 σ fp0) (b : Same B0 B) (hvs : ∀ v ∈ vs, κ[v]? = some .s) (r : Rel K κ Z B G H ρ (L2.wipe σ vs) fp) :
    Rel K κ Z B G H (backE ρ0 ρ vs) σ (fun j => if j ∈ vs then [] else fp j) := by
  have lw : (L2.wipe σ vs).length = σ.length := wipe_length σ vs
  refine ⟨r.bg, r.gh, r.zg, by rw [backE_len, r.len, lw], fun j d e => ?_, fun j => ?_, fun i j hij a ha hb => ?_, fun j a ha => ?_⟩
  · by_cases hj : j ∈ vs
    · have hl : j < ρ.length := by
        have := (List.getElem?_eq_some_iff.mp e).1
        rw [backE_len] at this; exact this
      rw [backE_in hj hl] at e
      have e : ρ0[j]?.join = some d := Option.some.inj e
      have e2 : ρ0[j]? = some (some d) := by
        cases q : ρ0[j]? with
        | none => rw [q] at e; cases e
        | some o => rw [q] at e; cases o with
          | none => cases e
          | some d' => cases e; rfl
      obtain ⟨v, s, h1, h2, h3⟩ := r0.at_ j d e2
      rw [hvs j hj] at h2; cases h2
      refine ⟨v, .s, h1, hvs j hj, ?_⟩
      rw [if_pos hj]
      generalize fp0 j = as at h3
      cases h3 with
      | s h3 => exact .s (h3.mono b)
    · rw [backE_out hj] at e
      obtain ⟨v, s, h1, h2, h3⟩ := r.at_ j d e
      refine ⟨v, s, ?_, h2, by rw [if_neg hj]; exact h3⟩
      have := wipe_out (σ := σ) hj
      rw [this] at h1
      exact h1
  · try dsimp only
    split
    · exact List.nodup_nil
    · exact r.nd j
  · try dsimp only at ha hb
    split at ha
    · cases ha
    · split at hb
      · cases hb
      · exact r.dj i j hij a ha hb
  · try dsimp only at ha
    split at ha
    · cases ha
    · exact r.out j a ha
/-- a new list is held beside -/
theorem Rel.beside (r : Rel K κ Z B G H ρ σ fp) {D : Addr} {o : HO} (hG : G D = none) (hf : ∀ i, D ∉ fp i) : Rel K κ Z B G (upd H D o) ρ σ fp := by
  refine ⟨r.bg, fun a u e => ?_, r.zg, r.len, fun j d e => ?_, r.nd, r.dj, fun i a ha => ?_⟩
  · rw [upd_ne fun z => by rw [z, hG] at e; cases e]; exact r.gh _ _ e
  · obtain ⟨v, s, h1, h2, h3⟩ := r.at_ j d e
    exact ⟨v, s, h1, h2, h3.mono (Same.refl _) (Same.refl _) fun a ha u e => by rw [upd_ne fun z => hf j (by rw [← z]; exact ha)]; exact e⟩
  · obtain ⟨g, u, e⟩ := r.out i a ha
    exact ⟨g, u, by rw [upd_ne fun z => hf i (by rw [← z]; exact ha)]; exact e⟩
/-- D guarded -/
theorem Rel.guard (r : Rel K κ Z B G H ρ σ fp) {D : Addr} (hG : G D = none) (hf : ∀ i, D ∉ fp i) : Rel K κ Z B (ovr G H [D]) H ρ σ fp := by
  refine ⟨r.bg.trans (same_ovr fun a ha => by simp at ha; subst ha; exact hG), ovr_le r.gh, r.zg.trans (same_ovr fun a ha => by simp at ha; subst ha; exact hG), r.len, r.at_, r.nd, r.dj, fun i a ha => ?_⟩
  obtain ⟨g, o⟩ := r.out i a ha
  exact ⟨by rw [ovr_out fun z => hf i (by simp at z; subst z; exact ha)]; exact g, o⟩
/-- .. and let go -/
theorem Rel.unguard (r : Rel K κ Z B G H ρ σ fp) {D : Addr} (hB : B D = none) (hZ : Z D = none) : Rel K κ Z B (hide G [D]) H ρ σ fp := by
  refine ⟨fun a o e => ?_, fun a o e => ?_, fun a o e => ?_, r.len, r.at_, r.nd, r.dj, fun i a ha => ?_⟩
  · rw [hide_out fun z => by simp at z; subst z; rw [hB] at e; cases e]; exact r.bg _ _ e
  · by_cases hd : a ∈ [D]
    · rw [hide_in hd] at e; cases e
    · rw [hide_out hd] at e; exact r.gh _ _ e
  · rw [hide_out fun z => by simp at z; subst z; rw [hZ] at e; cases e]; exact r.zg _ _ e
  · obtain ⟨g, o⟩ := r.out i a ha
    refine ⟨?_, o⟩
    by_cases hd : a ∈ [D]
    · exact hide_in hd
    · rw [hide_out hd]; exact g
/-- within a comprehension nothing is raised -/
def Ct.blk (C : Ct) : Ct := { C with W := fun _ _ _ _ => False }
/-- a turn's tests: none, or one -/
structure Body (C : Ct) (tt : TT) (te : TE) (body : Env → R (Option D)) (pu : Bool) : Prop where
  run : ∀ {ρ ρ' : Env} {o : Option D} {σ : L2.St} {B G H : Hp} {fp : Nat → List Addr} {Qy : V → Hp → Prop} {Qn : Hp → Prop}, Rel C.K C.κ C.Z B G H ρ σ fp → body ρ = .ok o ρ' →
    (∀ B' G' H' fp', Up B G B' G' → (pu = true → Same H H') → Rel C.K C.κ C.Z B' G' H' ρ' σ fp' → match o with
      | some d => ∀ v, Dv C.K B' v d → Qy v H'
      | none => Qn H') → tt σ H fun b H3 => if b = true then te σ H3 Qy else Qn H3
theorem body_all : Body C tYes (tS C eva pa) (allD eva) pa where
  run := fun {ρ ρ' o σ B G H fp Qy Qn} r e q => by
    show (if true = true then tS C eva pa σ H Qy else Qn H)
    rw [if_pos rfl]
    refine ⟨ρ, B, G, fp, r, ?_⟩
    unfold allD at e
    cases q1 : eva ρ with
    | ok x ρ1 =>
      rw [q1, R.bind_ok] at e
      simp only [R.ok.injEq] at e
      obtain ⟨rfl, rfl⟩ := e
      exact fun B' G' H' fp' u p r' => q B' G' H' fp' u p r'
    | err x ρ1 => rw [q1] at e; cases e
    | no => rw [q1] at e; cases e
theorem body_if : Body C (tBo C evc pc) (tS C eva pa) (ifD evc eva) (pc && pa) where
  run := fun {ρ ρ' o σ B G H fp Qy Qn} r e q => by
    refine ⟨ρ, B, G, fp, r, ?_⟩
    unfold ifD at e
    cases q1 : evc ρ with
    | ok x ρ1 =>
      rw [q1, R.bind_ok] at e
      cases x with
      | bool b =>
        cases b with
        | true =>
          dsimp only at e
          intro B1 G1 H1 fp1 u1 p1 r1
          refine ⟨true, rfl, ?_⟩
          show (if true = true then tS C eva pa σ H1 Qy else Qn H1)
          rw [if_pos rfl]
          refine ⟨ρ1, B1, G1, fp1, r1, ?_⟩
          cases q2 : eva ρ1 with
          | ok y ρ2 =>
            rw [q2, R.bind_ok] at e
            simp only [R.ok.injEq] at e
            obtain ⟨rfl, rfl⟩ := e
            exact fun B' G' H' fp' u p r' => q B' G' H' fp' (u1.trans u) (fun z => by
              rw [Bool.and_eq_true] at z
              exact (p1 z.1).trans (p z.2)) r'
          | err x ρ2 => rw [q2] at e; cases e
          | no => rw [q2] at e; cases e
        | false =>
          dsimp only at e
          simp only [R.ok.injEq] at e
          obtain ⟨rfl, rfl⟩ := e
          intro B1 G1 H1 fp1 u1 p1 r1
          refine ⟨false, rfl, ?_⟩
          show (if false = true then tS C eva pa σ H1 Qy else Qn H1)
          rw [if_neg (by decide)]
          exact q B1 G1 H1 fp1 u1 (fun z => by
            rw [Bool.and_eq_true] at z
            exact p1 z.1) r1
      | _ => cases e
    | err x ρ1 => rw [q1] at e; cases e
    | no => rw [q1] at e; cases e
theorem lcF_len {body : D → Env → R (Option D)} : ∀ {ds : List D} {ρ ρ' : Env} {r : List D}, lcF body ds ρ = .ok r ρ' → r.length ≤ ds.length
  | [], ρ, ρ', r, e => by simp only [lcF, R.ok.injEq] at e; obtain ⟨rfl, _⟩ := e; simp
  | d :: ds, ρ, ρ', r, e => by
    simp only [lcF] at e
    cases q : body d ρ with
    | ok o ρ1 =>
      rw [q, R.bind_ok] at e
      cases q2 : lcF body ds ρ1 with
      | ok r1 ρ2 =>
        rw [q2, R.bind_ok] at e
        simp only [R.ok.injEq] at e
        obtain ⟨rfl, _⟩ := e
        have := lcF_len q2
        cases o <;> simp <;> omega
      | err x ρ2 => rw [q2] at e; cases e
      | no => rw [q2] at e; cases e
    | err x ρ2 => rw [q] at e; cases e
    | no => rw [q] at e; cases e
theorem lc_turns {vs : List Nat} {tg : Tg} {g : TG} {tt : TT} {te : TE} {body : Env → R (Option D)} {pb : Bool} (hvs : ∀ v ∈ vs, C.κ[v]? = some .s) (htg : ∀ j ∈ tg.slots, j ∈ vs) (hg : TgOk C.blk g tg) (hb : Body C.blk tt te body pb)
    {σ : L2.St} {Q : VK} {ds : List D} {B1 G1 W1 H1 : Hp} {fp1 : Nat → List Addr} {ρ1 : Env} {J : It} (r1 : Rel C.K C.κ C.Z B1 G1 H1 ρ1 σ fp1) (k : Post C B1 G1 H1 σ pb (lcB vs tg body ds ρ1) (kN C (.l .s) Q)) (hW : Same W1 G1) (wk : Walk C.K B1 W1 J ds) {D : Addr} (hD : H1 D = none) :
    ∃ W : Nat → Nat → Hp → Prop, (∃ m, W 0 m (upd H1 D (.lst []))) ∧ ∀ i m H, W i m H →
  (J.stop i H ∧ Q (.ref D) H) ∨ (J.go i H ∧ ∃ Nx : Hp → Prop, (∀ H', Nx H' → ∃ m', m' < m ∧ W (i + 1) m' H') ∧ ∀ x H', J.yld i H x H' → g x (L2.wipe σ vs) H' fun σ2 H2 => L2.wipe σ2 vs = L2.wipe σ vs ∧ tt σ2 H2 fun b H3 =>
    if b = true then te σ2 H3 fun y H4 => ∃ acc, H4 D = some (.lst acc) ∧ acc.length < sizeLine ∧ Nx (upd H4 D (.lst (acc ++ [y]))) else Nx H3) := by
  unfold lcB at k
  split at k
  case isFalse => exact k.elim
  rename_i hlim
  cases ef : lcF (lcT vs tg body) ds (wipeE ρ1 vs) with
  | err x ρx => rw [ef] at k; exact k.elim
  | no => rw [ef] at k; exact k.elim
  | ok res ρe =>
  rw [ef] at k
  have k : Post C B1 G1 H1 σ pb (.ok (.list res) (backE ρ1 ρe vs)) (kN C (.l .s) Q) := k
  generalize hF : lcT vs tg body = F at ef
  obtain ⟨fpw, rw0, hfpw⟩ := r1.wipe vs
  have D0 : G1 D = none := r1.gh.free hD
  have Z0 : C.Z D = none := r1.zg.free D0
  have Df : ∀ i, D ∉ fp1 i := fun i z => by obtain ⟨_, o, e⟩ := r1.out i D z; rw [hD] at e; cases e
  refine ⟨fun i m H => ∃ ρc B2 G2 fp2 ra ri acc, m = ds.length - i ∧ i ≤ ds.length ∧ Up B1 G1 B2 G2 ∧ (pb = true → Same H1 H) ∧ Rel C.K C.κ C.Z B2 G2 H ρc (L2.wipe σ vs) fp2 ∧ H D = some (.lst acc) ∧ DvAll C.K B2 acc ra ∧ G2 D = none ∧ (∀ i, D ∉ fp2 i) ∧
    lcF F (ds.drop i) ρc = .ok ri ρe ∧ res = ra ++ ri ∧ ra.length ≤ i, ⟨ds.length, wipeE ρ1 vs, B1, G1, fpw, [], res, [], by simp, Nat.zero_le _, .refl, fun _ => same_upd hD _, rw0.beside D0 (fun i z => Df i (hfpw i _ z)), upd_same, .nil, D0, fun i z => Df i (hfpw i _ z), by simpa using ef, by simp, by simp⟩, ?_⟩
  rintro i m H2 ⟨ρc, B2, G2, fp2, ra, ri, acc, rfl, hi, u2, p2, r2, hacc, tacc, gD, fD, eF, eres, hra⟩
  have bD : B2 D = none := r2.bg.free gD
  by_cases hlt : i < ds.length
  · refine .inr ⟨wk.go i H2 ((hW.trans u2.g).trans r2.gh) hlt, fun H' => ∃ m', m' < ds.length - i ∧ ∃ ρc B2 G2 fp2 ra ri acc, m' = ds.length - (i + 1) ∧ i + 1 ≤ ds.length ∧ Up B1 G1 B2 G2 ∧ (pb = true → Same H1 H') ∧ Rel C.K C.κ C.Z B2 G2 H' ρc (L2.wipe σ vs) fp2 ∧ H' D = some (.lst acc) ∧ DvAll C.K B2 acc ra ∧ G2 D = none ∧ (∀ i, D ∉ fp2 i) ∧
      lcF F (ds.drop (i + 1)) ρc = .ok ri ρe ∧ res = ra ++ ri ∧ ra.length ≤ i + 1, fun H' hN => hN, fun x H' y => ?_⟩
    obtain ⟨d, B3, hd, x3, hx⟩ := wk.yld i H2 x H' B2 u2.b r2.bh ((hW.trans u2.g).trans r2.gh) y hlt
    have edrop : ds.drop i = d :: ds.drop (i + 1) := by
      have hd2 : ds[i] = d := by
        have := List.getElem?_eq_getElem hlt
        rw [hd] at this
        exact (Option.some.inj this).symm
      rw [← hd2]
      exact List.drop_eq_getElem_cons hlt
    rw [edrop] at eF
    simp only [lcF] at eF
    cases eb : F d ρc with
    | err x ρx => rw [eb] at eF; cases eF
    | no => rw [eb] at eF; cases eF
    | ok o ρ4 =>
    rw [eb, R.bind_ok] at eF
    cases er : lcF F (ds.drop (i + 1)) ρ4 with
    | err x ρx => rw [er] at eF; cases eF
    | no => rw [er] at eF; cases eF
    | ok rj ρ5 =>
    rw [er, R.bind_ok] at eF
    simp only [R.ok.injEq] at eF
    obtain ⟨eri, e5⟩ := eF
    subst e5
    rw [← hF] at eb
    unfold lcT at eb
    cases et : bindT tg d ρc with
    | none => rw [et] at eb; cases eb
    | some ρt =>
    rw [et] at eb
    dsimp only at eb
    cases ey : body ρt with
    | err x ρx => rw [ey] at eb; cases eb
    | no => rw [ey] at eb; cases eb
    | ok o' ρ6 =>
    rw [ey, R.bind_ok] at eb
    simp only [R.ok.injEq] at eb
    obtain ⟨rfl, rfl⟩ := eb
    obtain ⟨r3, u3⟩ := r2.ext x3
    have h3D : H' D = some (.lst acc) := x3.h _ _ hacc
    have b3D : B3 D = none := by
      cases z : B3 D with
      | none => rfl
      | some w =>
        rcases x3.new _ _ z with z | z
        · rw [bD] at z; cases z
        · rw [hacc] at z; cases z
    have g3D : gext G2 B3 D = none := by unfold gext; rw [b3D]; exact gD
    have rg3 := r3.guard g3D fD
    refine hg hx rg3 et fun σt fpt rt lt kt => ?_
    have hwipe : L2.wipe σt vs = L2.wipe σ vs := by
      apply List.ext_getElem?
      intro n
      by_cases hj : n ∈ vs
      · have l1 : (L2.wipe σt vs).length = (L2.wipe σ vs).length := by rw [wipe_length, lt]
        by_cases hjl : n < (L2.wipe σt vs).length
        · rw [wipe_in hj (by rw [List.getElem?_eq_getElem hjl]; simp), wipe_in hj (by rw [List.getElem?_eq_getElem (by omega)]; simp)]
        · rw [List.getElem?_eq_none (by omega), List.getElem?_eq_none (by omega)]
      · rw [wipe_out hj]
        exact kt n fun z => hj (htg n z)
    refine ⟨hwipe, hb.run rt ey fun B4 G4 H4 fp4 u4 p4 r4 => ?_⟩
    have gD4 : ovr (gext G2 B3) H' [D] D = some (.lst acc) := by rw [ovr_in (by simp)]; exact h3D
    have hG4 : G4 D = some (.lst acc) := u4.g _ _ gD4
    have hH4 : H4 D = some (.lst acc) := r4.gh _ _ hG4
    have hB4 : B4 D = none := by
      cases z : B4 D with
      | none => rfl
      | some w => exact absurd b3D (u4.gd D (by rw [gD4]; simp) (by rw [z]; simp))
    have fD4 : ∀ n, D ∉ fp4 n := fun n z => by
      have := (r4.out n D z).1
      rw [hG4] at this; cases this
    have r5 := r4.unguard hB4 Z0
    have u5 : Up B3 (gext G2 B3) B4 (hide G4 [D]) := by
      have ne : ∀ a, gext G2 B3 a ≠ none → a ∉ [D] := fun a h z => by
        simp at z; subst z; exact h g3D
      refine ⟨u4.b, fun a o e => ?_, fun a h1 h2 => u4.gd a ?_ h2⟩
      · have ha := ne a (by rw [e]; simp)
        rw [hide_out ha]
        exact u4.g _ _ (by rw [ovr_out ha]; exact e)
      · rw [ovr_out (ne a h1)]; exact h1
    have u6 : Up B1 G1 B4 (hide G4 [D]) := (u2.trans u3).trans u5
    obtain ⟨fp6, r6, h6⟩ := r5.wipe vs
    rw [hwipe] at r6
    have fD6 : ∀ n, D ∉ fp6 n := fun n z => fD4 n (h6 n _ z)
    have hd0 : hide G4 [D] D = none := hide_in (by simp)
    cases o' with
    | none =>
      dsimp only at eri
      subst eri
      exact ⟨_, by omega, _, B4, _, fp6, ra, rj, acc, rfl, hlt, u6, fun z => (p2 z).trans (x3.h.trans (p4 z)), r6, hH4, (tacc.mono x3.b).mono u4.b, hd0, fD6, er, eres, by omega⟩
    | some dy =>
      dsimp only at eri
      subst eri
      intro y hy
      refine ⟨acc, hH4, ?_, ⟨_, by omega, _, B4, _, fp6, ra ++ [dy], rj, acc ++ [y], rfl, hlt, u6, fun z => ?_, r6.beside hd0 fD6, upd_same, ((tacc.mono x3.b).mono u4.b).append (.cons hy .nil), hd0, fD6, er, by rw [eres]; simp, by simp; omega⟩⟩
      · rw [tacc.length, sizeLine_eq]
        unfold LIM at hlim
        omega
      · intro a w e
        rw [upd_ne fun q => by rw [q, hD] at e; cases e]
        exact ((p2 z).trans (x3.h.trans (p4 z))) a w e
  · have hie : i = ds.length := by omega
    subst hie
    rw [List.drop_length] at eF
    simp only [lcF, R.ok.injEq] at eF
    obtain ⟨rfl, rfl⟩ := eF
    rw [List.append_nil] at eres
    subst eres
    refine .inl ⟨wk.stop _ H2 ((hW.trans u2.g).trans r2.gh) (Nat.le_refl _), ?_⟩
    have rb := r1.back u2.b hvs r2
    refine k B2 G2 H2 _ u2 p2 rb (.ref D) [D] (.l hacc (.of tacc)) (by simp) fun a ha => ?_
    have ha : a = D := by simpa using ha
    subst ha
    refine ⟨gD, fun j hj => ?_⟩
    try dsimp only at hj
    split at hj
    · cases hj
    · exact fD j hj
/-- [e for tg in w if c] -/
theorem rd_lc {vs : List Nat} {evw : Env → R (List D)} {tg : Tg} {g : TG} {tt : TT} {te : TE} {body : Env → R (Option D)} {pb : Bool} (hvs : ∀ v ∈ vs, C.κ[v]? = some .s) (htg : ∀ j ∈ tg.slots, j ∈ vs) (hg : TgOk C.blk g tg) (hb : Body C.blk tt te body pb)
    (σ : L2.St) (H : Hp) (Q : VK) : tN C (lcD vs tg evw body) (pa && pb) (.l .s) σ H Q → L2.tLc (tW C evw pa) g tt te vs σ H Q := fun ⟨ρ, B, G, fp, r, q⟩ => by
  have q : Post C B G H σ (pa && pb) _ _ := q
  refine ⟨ρ, B, G, fp, r, (q.bind (pu1 := pa) (pu2 := pb) rfl).mono fun ds B1 G1 H1 fp1 ρ1 _ _ r1 k J wk D hD => ?_⟩
  exact lc_turns hvs htg hg hb r1 k r1.bg wk hD
theorem te_lc {e : Expr} {vs : List Nat} {evw : Env → R (List D)} {tg : Tg} {g : TG} {tt : TT} {te : TE} {body : Env → R (Option D)} {pb : Bool} (hvs : ∀ v ∈ vs, C.κ[v]? = some .s) (htg : ∀ j ∈ tg.slots, j ∈ vs) (hg : TgOk C.blk g tg) (hb : Body C.blk tt te body pb)
    (h : PE X e (L2.tLc (tW C evw pa) g tt te vs)) : PE X e (tN C (lcD vs tg evw body) (pa && pb) (.l .s)) := PE.imp h (rd_lc hvs htg hg hb)
theorem te_lcp {e : Expr} {i : Nat} {vs : List Nat} {tg : Tg} {g : TG} {tt : TT} {te : TE} {body : Env → R (Option D)} {pb : Bool} (hk : C.κ[i]? = some (.l .s)) (hvs : ∀ v ∈ vs, C.κ[v]? = some .s) (htg : ∀ j ∈ tg.slots, j ∈ vs) (hg : TgOk C.blk g tg) (hb : Body C.blk tt te body pb)
    (h : PE X e (L2.tLc (iSeq C.K (tVar i)) g tt te vs)) : PE X e (tN C (lcpD i vs tg body) pb (.l .s)) := PE.imp h fun σ H Q ⟨ρ, B, G, fp, r, q⟩ => by
  have q : Post C B G H σ pb (lcpD i vs tg body ρ) (kN C (.l .s) Q) := q
  unfold lcpD at q
  cases e1 : gv ρ i with
  | none => rw [e1] at q; exact q.elim
  | some d =>
    rw [e1] at q
    obtain ⟨v, s, h1, h2, h3⟩ := r.at_ i d (gv_some e1)
    rw [hk] at h2; cases h2
    have rd := r.drop i
    have outi := r.out i
    have dji := r.dj i
    generalize fp i = as at h3 outi dji
    cases h3 with
    | l hH t =>
      obtain ⟨tv, rfl⟩ := t.all
      rename_i ds a vals
      dsimp only at q
      have Ga : G a = none := (outi a (by simp)).1
      have Ba : B a = none := r.bg.free Ga
      have Za : C.Z a = none := r.zg.free Ga
      have fa : ∀ j, a ∉ (fun j => if j = i then [] else fp j) j := fun j hj => by
        try dsimp only at hj
        split at hj
        · cases hj
        · rename_i hji
          exact dji j (fun z => hji z.symm) a (by simp) hj
      have r1 := rd.guard Ga fa
      refine ⟨.ref a, h1, a, rfl, .inl ⟨vals, .of hH, fun D hD => ?_⟩⟩
      refine lc_turns (ds := ds) (W1 := fun b => if b = a then some (.lst vals) else none) hvs htg hg hb r1 ?_ ?_ ?_ hD
      · cases hlc : lcB vs tg body ds (ρ.set i none) with
        | err x ρx =>
          exfalso
          unfold lcB at hlc
          split at hlc
          · cases hx : (lcF (lcT vs tg body) ds (wipeE (ρ.set i none) vs)) with
            | ok a b => rw [hx] at hlc; cases hlc
            | err a b => rw [hx] at hlc; cases hlc
            | no => rw [hx] at hlc; cases hlc
          · cases hlc
        | no => rw [hlc] at q; exact q.elim
        | ok res ρe =>
          rw [hlc] at q
          intro B' G' H' fp' u p r'
          have hG' : G' a = some (.lst vals) := u.g _ _ (by rw [ovr_in (by simp)]; exact hH)
          have hB' : B' a = none := by
            cases z : B' a with
            | none => rfl
            | some w => exact absurd Ba (u.gd a (by rw [ovr_in (by simp), hH]; simp) (by rw [z]; simp))
          have hH' : H' a = some (.lst vals) := r'.gh _ _ hG'
          have fa' : ∀ j, a ∉ fp' j := fun j z => by
            have := (r'.out j a z).1
            rw [hG'] at this; cases this
          have r2 := r'.unguard hB' Za
          have u2 : Up B G B' (hide G' [a]) := by
            have ne : ∀ b, G b ≠ none → b ∉ [a] := fun b hn z => by
              simp at z; subst z; exact hn Ga
            refine ⟨u.b, fun b o e => ?_, fun b hn hm => u.gd b ?_ hm⟩
            · have hb := ne b (by rw [e]; simp)
              rw [hide_out hb]
              exact u.g _ _ (by rw [ovr_out hb]; exact e)
            · rw [ovr_out (ne b hn)]; exact hn
          have hide0 : ∀ b, G' b = none → hide G' [a] b = none := fun b hb => by
            by_cases hm : b ∈ [a]
            · exact hide_in hm
            · rw [hide_out hm]; exact hb
          have r3 := r2.put (i := i) (s := .l .s) (v := .ref a) (d := .list ds) (as := [a]) hk h1 (.l hH' (.of (tv.mono u.b))) (by simp) (Same.refl _) r2.bg r2.gh r2.zg
            (fun j hj b hb => ⟨(r2.out j b hb).1, fun z => by simp at z; subst z; exact fa' j hb, fun o e => e⟩) (fun b hb => by simp at hb; subst hb; exact ⟨hide_in (by simp), _, hH'⟩)
          intro v as ow nd out
          refine q B' (hide G' [a]) H' _ u2 p r3 v as ow nd fun b hb => ⟨hide0 b (out b hb).1, fun j hj => ?_⟩
          try dsimp only at hj
          split at hj
          · simp at hj; subst hj
            have := (out _ hb).1
            rw [hG'] at this; cases this
          · exact (out b hb).2 j hj
      · intro b o e
        try dsimp only at e
        split at e
        · rename_i hb
          subst hb; cases e
          rw [ovr_in (by simp)]; exact hH
        · cases e
      · have at_ : ∀ {H : Hp}, Same (fun b => if b = a then some (HO.lst vals) else none) H → H a = some (.lst vals) := fun e => e _ _ (by simp)
        refine ⟨fun k H e hk => ?_, fun k H e hk => ?_, fun k H x H' B1 b1 e w y hk => ?_⟩
        · obtain ⟨v, z, _⟩ := tv.get (List.getElem?_eq_getElem hk)
          exact ⟨vals, v, .of (at_ e), z⟩
        · exact ⟨vals, .of (at_ e), by rw [tv.length]; exact hk⟩
        · obtain ⟨rfl, y⟩ := y
          obtain ⟨d, z1, z2⟩ := tv.get' (y vals (.of (at_ w)))
          exact ⟨d, B1, z1, Ext.refl e, z2.mono b1⟩
end
end TV

/-! V12: records; statements. -/
namespace TV
open PySem PySem.Spec PyProof.Rows L2
section
variable {C : Ct} {K : PySem.W.Frag} {κ : List Sh} {Z B G H B' G' H' : Hp} {σ : L2.St} {ρ ρ' : Env} {fp fp' : Nat → List Addr}
variable {X : Cx} {a b c : Expr} {pos : Pos} {ev eva evb evc : Env → R D} {pa pb pc pu : Bool}
theorem Rel.guardL (r : Rel K κ Z B G H ρ σ fp) {as : List Addr} (h : ∀ a ∈ as, G a = none ∧ ∀ i, a ∉ fp i) : Rel K κ Z B (ovr G H as) H ρ σ fp := by
  have hs : Same G (ovr G H as) := same_ovr fun a ha => (h a ha).1
  refine ⟨r.bg.trans hs, ovr_le r.gh, r.zg.trans hs, r.len, r.at_, r.nd, r.dj, fun i a ha => ?_⟩
  obtain ⟨g, o⟩ := r.out i a ha
  exact ⟨by rw [ovr_out fun z => (h a z).2 i ha]; exact g, o⟩
theorem Rel.unguardL (r : Rel K κ Z B G H ρ σ fp) {as : List Addr} (hB : ∀ a ∈ as, B a = none) (hZ : ∀ a ∈ as, Z a = none) : Rel K κ Z B (hide G as) H ρ σ fp := by
  refine ⟨fun a o e => ?_, fun a o e => ?_, fun a o e => ?_, r.len, r.at_, r.nd, r.dj, fun i a ha => ?_⟩
  · rw [hide_out fun z => by rw [hB a z] at e; cases e]; exact r.bg _ _ e
  · by_cases hd : a ∈ as
    · rw [hide_in hd] at e; cases e
    · rw [hide_out hd] at e; exact r.gh _ _ e
  · rw [hide_out fun z => by rw [hZ a z] at e; cases e]; exact r.zg _ _ e
  · obtain ⟨g, o⟩ := r.out i a ha
    refine ⟨?_, o⟩
    by_cases hd : a ∈ as
    · exact hide_in hd
    · rw [hide_out hd]; exact g
/-- behind something held: what is held is as it was -/
structure Held (B G H : Hp) (fp : Nat → List Addr) (H0 : Hp) (as : List Addr) : Prop where
  h : ∀ a ∈ as, H a = H0 a
  g : ∀ a ∈ as, G a ≠ none
  b : ∀ a ∈ as, B a = none
  f : ∀ a ∈ as, ∀ i, a ∉ fp i
theorem held_of {as : List Addr} (hG : ∀ a ∈ as, G a = none) (hH : ∀ a ∈ as, ∃ o, H a = some o) (bg : Same B G) (u : Up B (ovr G H as) B' G') (r : Rel K κ Z B' G' H' ρ σ fp) : Held B' G' H' fp H as ∧ Up B G B' (hide G' as) := by
  have key : ∀ a ∈ as, ∃ o, H a = some o ∧ G' a = some o := fun a ha => by
    obtain ⟨o, e⟩ := hH a ha
    exact ⟨o, e, u.g _ _ (by rw [ovr_in ha]; exact e)⟩
  have hB : ∀ a ∈ as, B' a = none := fun a ha => by
    cases z : B' a with
    | none => rfl
    | some w =>
      obtain ⟨o, e, _⟩ := key a ha
      have := u.gd a (by rw [ovr_in ha, e]; simp) (by rw [z]; simp)
      exact absurd (bg.free (hG a ha)) this
  refine ⟨⟨fun a ha => ?_, fun a ha => ?_, hB, fun a ha i z => ?_⟩, u.b, fun a o e => ?_, fun a h1 h2 => u.gd a ?_ h2⟩
  · obtain ⟨o, e, g⟩ := key a ha
    rw [e]; exact r.gh _ _ g
  · obtain ⟨o, e, g⟩ := key a ha
    rw [g]; simp
  · obtain ⟨o, e, g⟩ := key a ha
    have := (r.out i a z).1
    rw [g] at this; cases this
  · have ha : a ∉ as := fun z => by rw [hG a z] at e; cases e
    rw [hide_out ha]
    exact u.g _ _ (by rw [ovr_out ha]; exact e)
  · have ha : a ∉ as := fun z => h1 (hG a z)
    rw [ovr_out ha]; exact h1
theorem Post.hold {α : Type} {r : R α} {k : α → Hp → Hp → Hp → (Nat → List Addr) → Env → Prop} {as : List Addr} (h : Post C B G H σ pu r k) (hG : ∀ a ∈ as, G a = none) (hH : ∀ a ∈ as, ∃ o, H a = some o) (bg : Same B G) (zg : Same C.Z G) :
    Post C B (ovr G H as) H σ pu r fun x B' G' H' fp' ρ' => k x B' (hide G' as) H' fp' ρ' ∧ Held B' G' H' fp' H as := by
  have hZ : ∀ a ∈ as, C.Z a = none := fun a ha => zg.free (hG a ha)
  cases r with
  | ok x ρ' =>
    intro B' G' H' fp' u p r'
    obtain ⟨hd, u'⟩ := held_of hG hH bg u r'
    exact ⟨h B' _ H' fp' u' p (r'.unguardL hd.b hZ), hd⟩
  | err x ρ' =>
    intro cls dx B' G' H' fp' u r'
    obtain ⟨hd, u'⟩ := held_of hG hH bg u r'
    exact h cls dx B' _ H' fp' u' (r'.unguardL hd.b hZ)
  | no => exact h
theorem Post.bigger {α : Type} {r : R α} {k : α → Hp → Hp → Hp → (Nat → List Addr) → Env → Prop} (h : Post C B G H σ pu r k) (s : Same H H') : Post C B G H' σ pu r k := by
  cases r with
  | ok x ρ' => exact fun B' G' H2 fp' u p r' => h B' G' H2 fp' u (fun z => s.trans (p z)) r'
  | err x ρ' => exact h
  | no => exact h
/-- the pairs of a record's display -/
inductive RecR (C : Ct) : List (Str × Bool) → (Env → R (List D)) → Bool → List (TE × TE) → Prop where
  | nil : RecR C [] (fun ρ => .ok [] ρ) true []
  | cons {k : Str} {b : Bool} {ks : List (Str × Bool)} {eva : Env → R D} {evs : Env → R (List D)} {pa pb : Bool} {trs : List (TE × TE)} : RecR C ks evs pb trs →
      RecR C ((k, b) :: ks) (fun ρ => (eva ρ).bind fun d ρ => (evs ρ).bind fun ds ρ => .ok (d :: ds) ρ) (pa && pb) ((tC (.str k), tN C eva pa (fSh b)) :: trs)
theorem rec_run {ks : List (Str × Bool)} {evs : Env → R (List D)} {trs : List (TE × TE)} (h : RecR C ks evs pu trs) : ∀ {σ : L2.St} {B G H : Hp} {ρ : Env} {fp : Nat → List Addr} {Q : List (V × V) → Hp → Prop}, Rel C.K C.κ C.Z B G H ρ σ fp →
    Post C B G H σ pu (evs ρ) (fun ds B' G' H' fp' _ => ∀ kvs as, OwF C.K B' C.Z H' ks ds kvs as → as.Nodup → (∀ a ∈ as, G' a = none ∧ ∀ i, a ∉ fp' i) → Q (kvs.map fun kv => (kV kv.1, kv.2)) H') → tPairs trs σ H Q := by
  induction h with
  | nil => exact fun {σ B G H ρ fp Q} r q => q B G H fp .refl (fun _ => Same.refl _) r [] [] .nil List.nodup_nil (fun _ ha => by cases ha)
  | cons _ ih =>
    rename_i k b ks eva evs pa pb trs _
    intro σ B G H ρ fp Q r q
    show tN C eva pa (fSh b) σ H fun y H2 => tPairs trs σ H2 fun ps H3 => Q ((.str k, y) :: ps) H3
    refine ⟨ρ, B, G, fp, r, (q.bind (pu1 := pa) (pu2 := pb) rfl).mono fun d B1 G1 H1 fp1 ρ1 _ _ r1 kk v as1 ow1 nd1 out1 => ?_⟩
    have hin := ow1.inH
    have kk := ((kk.bind (pu1 := pb) (pu2 := true) (by simp)).hold (as := as1) (fun a ha => (out1 a ha).1) hin r1.bg r1.zg)
    refine ih (r1.guardL out1) (kk.mono fun ds B2 G2 H2 fp2 ρ2 u2 _ r2 ⟨k2, hd⟩ kvs as ow nd out => ?_)
    have r3 := r2.unguardL hd.b (fun a ha => r1.zg.free (out1 a ha).1)
    have k3 := k2 B2 _ H2 fp2 .refl (fun _ => Same.refl _) r3
    refine k3 ((.inr k, v) :: kvs) (as1 ++ as) (.cons (ow1.mono u2.b (Same.refl _) fun a ha o e => by rw [hd.h a ha]; exact e) ow) ?_ fun a ha => ?_
    · rw [List.nodup_append]
      exact ⟨nd1, nd, fun x hx y hy z => hd.g x hx (by rw [z]; exact (out y hy).1)⟩
    · rcases List.mem_append.mp ha with ha | ha
      · exact ⟨hide_in ha, hd.f a ha⟩
      · exact ⟨by rw [hide_out fun z => hd.g a z (out a ha).1]; exact (out a ha).1, (out a ha).2⟩
theorem mergeK_new : ∀ {more kvs : List (Key × V)}, ((kvs ++ more).map (·.1)).Nodup → mergeK kvs more = kvs ++ more
  | [], kvs, _ => by simp [mergeK]
  | (k, v) :: r, kvs, h => by
    have hn : valV kvs k = none := by
      have hk : ∀ q ∈ kvs, q.1 ≠ k := fun q hq e => by
        rw [List.map_append, List.nodup_append] at h
        exact h.2.2 q.1 (List.mem_map.mpr ⟨q, hq, rfl⟩) k (by simp) e
      unfold valV
      rw [List.find?_eq_none.mpr (fun q hq => by simpa using hk q hq)]
      rfl
    show mergeK (putK kvs k v) r = _
    rw [putK_new v hn]
    rw [mergeK_new (by simpa using h)]
    simp
theorem te_rec {e : Expr} {ks : List (Str × Bool)} {evs : Env → R (List D)} {trs : List (TE × TE)} (h15 : ks.length ≤ 15) (hnd : (ks.map (·.1)).Nodup) (hR : RecR C ks evs pu trs) (h : PE X e (L2.tDisp trs)) :
    PE X e (tN C (fun ρ => (evs ρ).bind fun ds ρ => .ok (.tuple ds) ρ) false (.r ks)) := PE.imp h fun σ H Q ⟨ρ, B, G, fp, r, q⟩ => by
  have q : Post C B G H σ false _ _ := q
  intro p hp
  have hGp : G p = none := r.gh.free hp
  have hfp : ∀ i, p ∉ fp i := fun i z => by obtain ⟨_, o, e⟩ := r.out i p z; rw [hp] at e; cases e
  have r1 := r.beside (o := .dK []) hGp hfp
  have q1 := ((q.bind (pu1 := pu) (pu2 := false) (by simp)).bigger (H' := upd H p (.dK [])) (same_upd hp _)).hold (as := [p]) (fun a ha => by simp at ha; subst ha; exact hGp) (fun a ha => by simp at ha; subst ha; exact ⟨_, upd_same⟩) r.bg r.zg
  refine rec_run hR (r1.guardL (as := [p]) fun a ha => by simp at ha; subst ha; exact ⟨hGp, hfp⟩) (q1.mono fun ds B2 G2 H2 fp2 ρ2 u2 _ r2 ⟨k2, hd⟩ kvs as ow nd out => ?_)
  have hpp : p ∈ [p] := by simp
  have hkeys := ow.keys
  have knd : (kvs.map (·.1)).Nodup := by
    rw [hkeys.1]
    have z := nodup_inr hnd
    rw [List.map_map] at z
    exact z
  refine ⟨by rw [hd.h p hpp]; exact upd_same, kvs, rfl, by rw [hkeys.2.2]; exact h15, ?_⟩
  rw [mergeK_new (kvs := []) (by simpa using knd), List.nil_append]
  have pas : p ∉ as := fun z => hd.g p hpp (out p z).1
  have r3 := (r2.unguardL hd.b (fun a ha => by simp at ha; subst ha; exact r.zg.free hGp)).beside (o := .dK kvs) (hide_in hpp) (fun i => hd.f p hpp i)
  refine k2 B2 _ _ fp2 .refl (fun z => by cases z) r3 (.ref p) (p :: as) (.r upd_same (ow.mono (Same.refl _) (Same.refl _) fun a ha o e => by rw [upd_ne fun z => pas (by rw [← z]; exact ha)]; exact e)) (List.nodup_cons.mpr ⟨pas, nd⟩) fun a ha => by
    rcases List.mem_cons.mp ha with e | ha2
    · rw [e]; exact ⟨hide_in hpp, hd.f p hpp⟩
    · exact ⟨by
        rw [hide_out fun z => pas (by rw [← List.mem_singleton.mp z]; exact ha2)]
        exact (out a ha2).1, (out a ha2).2⟩
end
end TV

/-! V13: statements. -/
namespace TV
open PySem PySem.Spec PyProof.Rows L2
/-- the slots that are never stored to -/
def Fx (C : Ct) (σ : L2.St) : Prop := ∀ p ∈ C.fix, σ[p.1]? = some (some p.2)
/-- what a statement is to reach -/
def PostX (C : Ct) (B G H : Hp) (f : Fl) (D : Ends) : Prop := match f with
  | .nx ρ' => ∀ σ' B' G' H' fp', Up B G B' G' → Rel C.K C.κ C.Z B' G' H' ρ' σ' fp' → Fx C σ' → D.nx σ' H'
  | .ct ρ' => ∀ σ' B' G' H' fp', Up B G B' G' → Rel C.K C.κ C.Z B' G' H' ρ' σ' fp' → Fx C σ' → D.ct σ' H'
  | .brk ρ' => ∀ σ' B' G' H' fp', Up B G B' G' → Rel C.K C.κ C.Z B' G' H' ρ' σ' fp' → Fx C σ' → D.bk σ' H'
  | .ret d ρ' => ∀ v σ' B' G' H' fp' as, Up B G B' G' → Rel C.K C.κ C.Z B' G' H' ρ' σ' fp' → Fx C σ' → Ow C.K B' C.Z H' C.ret d v as → as.Nodup → (∀ a ∈ as, G' a = none ∧ ∀ i, a ∉ fp' i) → D.rt v H'
  | .err x ρ' => ∀ cls dx σ' B' G' H' fp', Up B G B' G' → Rel C.K C.κ C.Z B' G' H' ρ' σ' fp' → Fx C σ' → C.EX x cls dx B' H' → C.W cls dx σ' H'
  | .no => False
/-- a statement's reading -/
def tX (C : Ct) (ex : Env → Fl) : TS := fun D σ H => ∃ ρ B G fp, Rel C.K C.κ C.Z B G H ρ σ fp ∧ Fx C σ ∧ PostX C B G H (ex ρ) D
section
variable {C : Ct} {K : PySem.W.Frag} {κ : List Sh} {Z B G H B' G' H' : Hp} {σ : L2.St} {ρ ρ' : Env} {fp fp' : Nat → List Addr}
variable {X : Cx} {a b c : Expr} {pos : Pos} {ev eva evb evc : Env → R PyData} {pa pb pc pu : Bool} {D : Ends} {ex exa exb : Env → Fl}
theorem PS.imp {st : Stmt} {t t' : TS} (h : PS X st t) (i : ∀ D σ H, t' D σ H → t D σ H) : PS X st t' := ⟨fun pins s σ H D I q => h.run pins s σ H D I (i D σ H q)⟩
theorem PSs.imp {st : List Stmt} {t t' : TS} (h : PSs X st t) (i : ∀ D σ H, t' D σ H → t D σ H) : PSs X st t' := ⟨fun pins s σ H D I q => h.run pins s σ H D I (i D σ H q)⟩
/-- from an expression on -/
theorem PostX.fl {α : Type} {r : R α} {g : α → Env → Fl} (h : PostX C B G H (r.fl g) D) (fx : Fx C σ) (pu : Bool) : Post C B G H σ pu r fun a B1 G1 H1 _ ρ1 => PostX C B1 G1 H1 (g a ρ1) D := by
  cases r with
  | ok a ρ1 =>
    intro B1 G1 H1 fp1 u p r1
    have h : PostX C B G H (g a ρ1) D := h
    cases q : g a ρ1 with
    | nx ρ2 => rw [q] at h; exact fun σ' B' G' H' fp' u' => h σ' B' G' H' fp' (u.trans u')
    | ct ρ2 => rw [q] at h; exact fun σ' B' G' H' fp' u' => h σ' B' G' H' fp' (u.trans u')
    | brk ρ2 => rw [q] at h; exact fun σ' B' G' H' fp' u' => h σ' B' G' H' fp' (u.trans u')
    | ret d ρ2 => rw [q] at h; exact fun v σ' B' G' H' fp' as u' => h v σ' B' G' H' fp' as (u.trans u')
    | err x ρ2 => rw [q] at h; exact fun cls dx σ' B' G' H' fp' u' => h cls dx σ' B' G' H' fp' (u.trans u')
    | no => rw [q] at h; exact h
  | err x ρ1 => exact fun cls dx B' G' H' fp' u r' e => h cls dx σ B' G' H' fp' u r' fx e
  | no => exact h
theorem PostX.up {B1 G1 H1 : Hp} {f : Fl} (h : PostX C B G H f D) (u : Up B G B1 G1) : PostX C B1 G1 H1 f D := by
  cases f with
  | nx ρ2 => exact fun σ' B' G' H' fp' u' => h σ' B' G' H' fp' (u.trans u')
  | ct ρ2 => exact fun σ' B' G' H' fp' u' => h σ' B' G' H' fp' (u.trans u')
  | brk ρ2 => exact fun σ' B' G' H' fp' u' => h σ' B' G' H' fp' (u.trans u')
  | ret d ρ2 => exact fun v σ' B' G' H' fp' as u' => h v σ' B' G' H' fp' as (u.trans u')
  | err x ρ2 => exact fun cls dx σ' B' G' H' fp' u' => h cls dx σ' B' G' H' fp' (u.trans u')
  | no => exact h
/-- one statement behind another -/
theorem PostX.thn {f : Fl} {g : Env → Fl} (h : PostX C B G H (f.thn g) D) : PostX C B G H f { D with nx := fun σ' H' => tX C g D σ' H' } := by
  cases f with
  | nx ρ1 => exact fun σ' B' G' H' fp' u r fx => ⟨ρ1, B', G', fp', r, fx, (show PostX C B G H (g ρ1) D from h).up u⟩
  | ct ρ2 => exact h
  | brk ρ2 => exact h
  | ret d ρ2 => exact h
  | err x ρ2 => exact h
  | no => exact h
theorem tx_seq {sts : List Stmt} (h : PSs X sts (tSeq (tX C exa) (tX C exb))) : PSs X sts (tX C fun ρ => (exa ρ).thn exb) := PSs.imp h fun D σ H ⟨ρ, B, G, fp, r, fx, q⟩ => ⟨ρ, B, G, fp, r, fx, q.thn⟩
theorem tx_nil {sts : List Stmt} (h : PSs X sts tNext) : PSs X sts (tX C .nx) := PSs.imp h fun D σ H ⟨ρ, B, G, fp, r, fx, q⟩ => q σ B G H fp .refl r fx
theorem tx_pass {st : Stmt} (h : PS X st tNext) : PS X st (tX C .nx) := PS.imp h fun D σ H ⟨ρ, B, G, fp, r, fx, q⟩ => q σ B G H fp .refl r fx
theorem tx_brk {st : Stmt} (h : PS X st tBreak) : PS X st (tX C .brk) := PS.imp h fun D σ H ⟨ρ, B, G, fp, r, fx, q⟩ => q σ B G H fp .refl r fx
theorem tx_ct {st : Stmt} (h : PS X st tCont) : PS X st (tX C .ct) := PS.imp h fun D σ H ⟨ρ, B, G, fp, r, fx, q⟩ => q σ B G H fp .refl r fx
theorem tx_retN {st : Stmt} (hr : C.ret = .s) (h : PS X st tRetN) : PS X st (tX C fun ρ => .ret .none ρ) := PS.imp h fun D σ H ⟨ρ, B, G, fp, r, fx, q⟩ =>
  q .non σ B G H fp [] .refl r fx (by rw [hr]; exact .s .non) List.nodup_nil (fun _ ha => by cases ha)
theorem tx_ret {st : Stmt} {sh : Sh} (hr : C.ret = sh) (h : PS X st (L2.tRet (tN C ev pu sh))) : PS X st (tX C fun ρ => (ev ρ).fl .ret) := PS.imp h fun D σ H ⟨ρ, B, G, fp, r, fx, q⟩ =>
  ⟨ρ, B, G, fp, r, (q.fl fx pu).mono fun d B' G' H' fp' ρ' u _ r' k v as ow nd out => k v σ B' G' H' fp' as .refl r' fx (by rw [hr]; exact ow) nd out⟩
theorem tx_ex {st : Stmt} (h : PS X st (L2.tDrop (tS C ev pu))) : PS X st (tX C fun ρ => (ev ρ).fl fun _ ρ => .nx ρ) := PS.imp h fun D σ H ⟨ρ, B, G, fp, r, fx, q⟩ =>
  ⟨ρ, B, G, fp, r, (q.fl fx pu).mono fun d B' G' H' fp' ρ' u _ r' k v hv => k σ B' G' H' fp' .refl r' fx⟩
theorem tx_if {st : Stmt} (h : PS X st (L2.tIfS (tBo C evc pc) (tX C exa) (tX C exb))) : PS X st (tX C fun ρ => (evc ρ).fl fun x ρ => match x with
    | .bool true => exa ρ
    | .bool false => exb ρ
    | _ => .no) := PS.imp h fun D σ H ⟨ρ, B, G, fp, r, fx, q⟩ =>
  ⟨ρ, B, G, fp, r, (q.fl fx pc).mono fun d B' G' H' fp' ρ' u _ r' k => by
    cases d with
    | bool b =>
      refine ⟨b, rfl, ?_⟩
      cases b with
      | true => exact ⟨ρ', B', G', fp', r', fx, k⟩
      | false => exact ⟨ρ', B', G', fp', r', fx, k⟩
    | _ => exact k.elim⟩
theorem Fx.keep {σ' : L2.St} {ss : List Nat} (fx : Fx C σ) (h : ∀ p ∈ C.fix, p.1 ∉ ss) (k : ∀ j, j ∉ ss → σ'[j]? = σ[j]?) : Fx C σ' := fun p hp => by rw [k p.1 (h p hp)]; exact fx p hp
/-- target = shared -/
theorem tx_asg {st : Stmt} {g : TG} {tg : Tg} (hf : ∀ p ∈ C.fix, p.1 ∉ tg.slots) (hg : TgOk C g tg) (h : PS X st (L2.tAsg (tS C ev pu) g)) : PS X st (tX C fun ρ => (ev ρ).fl fun d ρ => Fl.of (bindT tg d ρ)) := PS.imp h fun D σ H ⟨ρ, B, G, fp, r, fx, q⟩ =>
  ⟨ρ, B, G, fp, r, (q.fl fx pu).mono fun d B' G' H' fp' ρ' u _ r' k v hv => by
    cases e : bindT tg d ρ' with
    | none => rw [e] at k; exact k.elim
    | some ρ2 =>
      rw [e] at k
      exact hg hv r' e fun σ2 fp2 r2 _ k2 => k σ2 B' G' H' fp2 .refl r2 (fx.keep hf k2)⟩
/-- name = natural -/
theorem tx_set {st : Stmt} {i : Nat} {sh : Sh} (hf : ∀ p ∈ C.fix, p.1 ≠ i) (hk : C.κ[i]? = some sh) (h : PS X st (L2.tAsg (tN C ev pu sh) (gName i))) : PS X st (tX C fun ρ => (ev ρ).fl fun d ρ => Fl.of (bindT (.v i) d ρ)) := PS.imp h fun D σ H ⟨ρ, B, G, fp, r, fx, q⟩ =>
  ⟨ρ, B, G, fp, r, (q.fl fx pu).mono fun d B' G' H' fp' ρ' u _ r' k v as ow nd out => k _ B' G' H' _ .refl (r'.store hk ow nd out) (fx.keep (ss := [i]) (fun p hp => by simpa using hf p hp) fun j hj => List.getElem?_set_ne (fun z => hj (by simp [z])))⟩
/-- several names, several naturals: their footprints beside one another -/
inductive ParR (C : Ct) : List Sh → (Env → R (List PyData)) → TA → Prop where
  | nil : ParR C [] (fun ρ => .ok [] ρ) L2.tNil
  | cons {sh : Sh} {shs : List Sh} {eva : Env → R PyData} {evs : Env → R (List PyData)} {pa : Bool} {t : TA} : ParR C shs evs t → ParR C (sh :: shs) (fun ρ => (eva ρ).bind fun d ρ => (evs ρ).bind fun ds ρ => .ok (d :: ds) ρ) (L2.tCons (tN C eva pa sh) t)
/-- values beside one another -/
inductive OwL (K : PySem.W.Frag) (B Z H : Hp) : List Sh → List PyData → List V → List (List Addr) → Prop where
  | nil : OwL K B Z H [] [] [] []
  | cons {s : Sh} {d : PyData} {v : V} {as : List Addr} {ss : List Sh} {ds : List PyData} {vs : List V} {fs : List (List Addr)} : Ow K B Z H s d v as → OwL K B Z H ss ds vs fs → OwL K B Z H (s :: ss) (d :: ds) (v :: vs) (as :: fs)
theorem par_run {shs : List Sh} {evs : Env → R (List PyData)} {t : TA} (h : ParR C shs evs t) : ∀ {σ : L2.St} {B G H : Hp} {ρ : Env} {fp : Nat → List Addr} {Q : List V → Hp → Prop}, Rel C.K C.κ C.Z B G H ρ σ fp →
    Post C B G H σ false (evs ρ) (fun ds B' G' H' fp' _ => ∀ vs fs, OwL C.K B' C.Z H' shs ds vs fs → fs.flatten.Nodup → (∀ a ∈ fs.flatten, G' a = none ∧ ∀ i, a ∉ fp' i) → Q vs H') → t σ H Q := by
  induction h with
  | nil => exact fun {σ B G H ρ fp Q} r q => q B G H fp .refl (fun z => by cases z) r [] [] .nil List.nodup_nil (fun _ ha => by cases ha)
  | cons _ ih =>
    rename_i sh shs eva evs pa t _
    intro σ B G H ρ fp Q r q
    refine ⟨ρ, B, G, fp, r, (q.bind (pu1 := pa) (pu2 := false) (by simp)).mono fun d B1 G1 H1 fp1 ρ1 _ _ r1 kk v as1 ow1 nd1 out1 => ?_⟩
    have kk := ((kk.bind (pu1 := false) (pu2 := true) (by simp)).hold (as := as1) (fun a ha => (out1 a ha).1) ow1.inH r1.bg r1.zg)
    refine ih (r1.guardL out1) (kk.mono fun ds B2 G2 H2 fp2 ρ2 u2 _ r2 ⟨k2, hd⟩ vs fs ow nd out => ?_)
    have r3 := r2.unguardL hd.b (fun a ha => r1.zg.free (out1 a ha).1)
    have k3 := k2 B2 _ H2 fp2 .refl (fun _ => Same.refl _) r3
    refine k3 (v :: vs) (as1 :: fs) (.cons (ow1.mono u2.b (Same.refl _) fun a ha o e => by rw [hd.h a ha]; exact e) ow) ?_ fun a ha => ?_
    · rw [List.flatten_cons, List.nodup_append]
      exact ⟨nd1, nd, fun x hx y hy z => hd.g x hx (by rw [z]; exact (out y hy).1)⟩
    · rw [List.flatten_cons] at ha
      rcases List.mem_append.mp ha with ha | ha
      · exact ⟨hide_in ha, hd.f a ha⟩
      · exact ⟨by rw [hide_out fun z => hd.g a z (out a ha).1]; exact (out a ha).1, (out a ha).2⟩
/-- names stored from the left -/
theorem store_all : ∀ {is : List Nat} {shs : List Sh} {ds : List PyData} {vs : List V} {fs : List (List Addr)} {σ : L2.St} {ρ ρ' : Env} {fp : Nat → List Addr}, is.map (fun i => C.κ[i]?) = shs.map some → OwL C.K B C.Z H shs ds vs fs → fs.flatten.Nodup →
    (∀ a ∈ fs.flatten, G a = none ∧ ∀ i, a ∉ fp i) → Rel C.K C.κ C.Z B G H ρ σ fp → bindL is ds ρ = some ρ' → ∃ σ' fp', Rel C.K C.κ C.Z B G H ρ' σ' fp' ∧ σ' = (is.zip vs).foldl (fun s q => s.set q.1 (some q.2)) σ ∧ is.length = vs.length
  | [], [], _, _, _, σ, ρ, ρ', fp, _, .nil, _, _, r, e => by
    simp only [bindL, Option.some.injEq] at e; subst e
    exact ⟨σ, fp, r, rfl, rfl⟩
  | i :: is, sh :: shs, d :: ds, v :: vs, as :: fs, σ, ρ, ρ', fp, hk, .cons ow t, nd, out, r, e => by
    simp only [List.map_cons, List.cons.injEq] at hk
    rw [List.flatten_cons, List.nodup_append] at nd
    simp only [bindL] at e
    have r1 := r.store hk.1 ow nd.1 (fun a ha => out a (by rw [List.flatten_cons]; exact List.mem_append_left _ ha))
    obtain ⟨σ', fp', h1, h2, h3⟩ := store_all hk.2 t nd.2.1 (fun a ha => ⟨(out a (by rw [List.flatten_cons]; exact List.mem_append_right _ ha)).1, fun j hj => by
      try dsimp only at hj
      split at hj
      · exact nd.2.2 a hj a ha rfl
      · exact (out a (by rw [List.flatten_cons]; exact List.mem_append_right _ ha)).2 j hj⟩) r1 e
    exact ⟨σ', fp', h1, by rw [h2]; rfl, by simp [h3]⟩
  | [], _ :: _, _, _, _, _, _, _, _, hk, _, _, _, _, _ => by simp at hk
  | _ :: _, [], _, _, _, _, _, _, _, hk, _, _, _, _, _ => by simp at hk
theorem fold_keep : ∀ {is : List Nat} {vs : List V} {σ : L2.St} {j : Nat}, j ∉ is → ((is.zip vs).foldl (fun s q => s.set q.1 (some q.2)) σ)[j]? = σ[j]?
  | [], _, _, _, _ => rfl
  | _ :: _, [], _, _, _ => rfl
  | i :: is, v :: vs, σ, j, h => by
    simp only [List.mem_cons, not_or] at h
    simp only [List.zip_cons_cons, List.foldl_cons]
    rw [fold_keep h.2, List.getElem?_set_ne (fun z => h.1 z.symm)]
theorem tx_par {st : Stmt} {is : List Nat} {shs : List Sh} {evs : Env → R (List PyData)} {t : TA} (hf : ∀ p ∈ C.fix, p.1 ∉ is) (hk : is.map (fun i => C.κ[i]?) = shs.map some) (hp : ParR C shs evs t)
    (h : PS X st fun D σ H => t σ H fun vs H1 => is.length = vs.length → (is.zip vs).length = is.length → D.nx ((is.zip vs).foldl (fun s q => s.set q.1 (some q.2)) σ) H1) :
    PS X st (tX C fun ρ => (evs ρ).fl fun ds ρ => Fl.of (bindL is ds ρ)) := PS.imp h fun D σ H ⟨ρ, B, G, fp, r, fx, q⟩ =>
  par_run hp r ((q.fl fx false).mono fun ds B' G' H' fp' ρ' u _ r' k vs fs ow nd out hl _ => by
    cases e : bindL is ds ρ' with
    | none => rw [e] at k; exact k.elim
    | some ρ2 =>
      rw [e] at k
      obtain ⟨σ2, fp2, h1, h2, _⟩ := store_all hk ow nd out r' e
      subst h2
      exact k _ B' G' H' fp2 .refl h1 (fx.keep hf fun j hj => fold_keep hj))
end
end TV

/-! V14: loops; what is done to places. -/
namespace TV
open PySem PySem.Spec PyProof.Rows L2
section
variable {C : Ct} {K : PySem.W.Frag} {κ : List Sh} {Z B G H B' G' H' : Hp} {σ : L2.St} {ρ ρ' : Env} {fp fp' : Nat → List Addr}
variable {X : Cx} {a b c : Expr} {pos : Pos} {ev eva evb evc : Env → R PyData} {pa pb pc pu : Bool} {exa exb : Env → Fl}
theorem tx_for {st : Stmt} {evw : Env → R (List PyData)} {g : TG} {tg : Tg} (hf : ∀ p ∈ C.fix, p.1 ∉ tg.slots) (hg : TgOk C g tg) (h : PS X st (L2.tFor (tW C evw pa) g (tX C exb))) :
    PS X st (tX C fun ρ => (evw ρ).fl fun ds ρ => forF (forT tg exb) ds ρ) := PS.imp h fun DE σ H ⟨ρ, B, G, fp, r, fx, q⟩ => by
  refine ⟨ρ, B, G, fp, r, (q.fl fx pa).mono fun ds B1 G1 H1 fp1 ρ1 u1 _ r1 k J wk => ?_⟩
  refine ⟨fun i m σ H => ∃ ρ B G fp, m = ds.length - i ∧ i ≤ ds.length ∧ Up B1 G1 B G ∧ Rel C.K C.κ C.Z B G H ρ σ fp ∧ Fx C σ ∧ PostX C B G H (forF (forT tg exb) (ds.drop i) ρ) DE, ⟨ds.length, ρ1, B1, G1, fp1, by simp, Nat.zero_le _, .refl, r1, fx, by simpa using k⟩, ?_⟩
  rintro i m σ2 H2 ⟨ρ2, B2, G2, fp2, rfl, hi, u2, r2, fx2, k2⟩
  by_cases hlt : i < ds.length
  · refine .inr ⟨wk.go i H2 (u2.b.trans r2.bh) hlt, fun σ' H' => ∃ m', m' < ds.length - i ∧ ∃ ρ B G fp, m' = ds.length - (i + 1) ∧ i + 1 ≤ ds.length ∧ Up B1 G1 B G ∧ Rel C.K C.κ C.Z B G H' ρ σ' fp ∧ Fx C σ' ∧ PostX C B G H' (forF (forT tg exb) (ds.drop (i + 1)) ρ) DE, fun σ' H' hN => hN, fun x H' y => ?_⟩
    obtain ⟨d, B3, hd, x3, hx⟩ := wk.yld i H2 x H' B2 u2.b r2.bh (u2.b.trans r2.bh) y hlt
    have edrop : ds.drop i = d :: ds.drop (i + 1) := by
      have hd2 : ds[i] = d := by
        have := List.getElem?_eq_getElem hlt
        rw [hd] at this
        exact (Option.some.inj this).symm
      rw [← hd2]
      exact List.drop_eq_getElem_cons hlt
    rw [edrop] at k2
    obtain ⟨r3, u3⟩ := r2.ext x3
    have k3 := k2.up (B1 := B3) (G1 := gext G2 B3) (H1 := H') u3
    simp only [forF] at k3
    cases et : bindT tg d ρ2 with
    | none => unfold forT at k3; rw [et] at k3; exact k3.elim
    | some ρt =>
      have e1 : forT tg exb d ρ2 = exb ρt := by unfold forT; rw [et]
      rw [e1] at k3
      refine hg hx r3 et fun σt fpt rt _ kt => ⟨ρt, B3, _, fpt, rt, fx2.keep hf kt, ?_⟩
      have again : ∀ {ρ4 : Env}, PostX C B3 (gext G2 B3) H' (forF (forT tg exb) (ds.drop (i + 1)) ρ4) DE → ∀ σ' B' G' H5 fp', Up B3 (gext G2 B3) B' G' → Rel C.K C.κ C.Z B' G' H5 ρ4 σ' fp' → Fx C σ' →
          ∃ m', m' < ds.length - i ∧ ∃ ρ B G fp, m' = ds.length - (i + 1) ∧ i + 1 ≤ ds.length ∧ Up B1 G1 B G ∧ Rel C.K C.κ C.Z B G H5 ρ σ' fp ∧ Fx C σ' ∧ PostX C B G H5 (forF (forT tg exb) (ds.drop (i + 1)) ρ) DE :=
        fun {ρ4} k4 σ' B' G' H5 fp' u4 r4 fx4 => ⟨_, by omega, ρ4, B', G', fp', rfl, hlt, (u2.trans u3).trans u4, r4, fx4, k4.up u4⟩
      cases eb : exb ρt with
      | nx ρ4 => rw [eb] at k3; exact again k3
      | ct ρ4 => rw [eb] at k3; exact again k3
      | brk ρ4 => rw [eb] at k3; exact k3
      | ret d ρ4 => rw [eb] at k3; exact k3
      | err x ρ4 => rw [eb] at k3; exact k3
      | no => rw [eb] at k3; exact k3
  · have hie : i = ds.length := by omega
    subst hie
    rw [List.drop_length] at k2
    exact .inl ⟨wk.stop _ H2 (u2.b.trans r2.bh) (Nat.le_refl _), k2 σ2 B2 G2 H2 fp2 .refl r2 fx2⟩
theorem tx_whl {st : Stmt} {n : Nat} (h : PS X st (L2.tWhile (tBo C evc pc) (tX C exb))) : PS X st (tX C (whlF evc exb n)) := PS.imp h fun DE σ H ⟨ρ, B, G, fp, r, fx, q⟩ => by
  refine ⟨fun m σ H => ∃ ρ B G fp, Rel C.K C.κ C.Z B G H ρ σ fp ∧ Fx C σ ∧ PostX C B G H (whlF evc exb m ρ) DE, ⟨n, ρ, B, G, fp, r, fx, q⟩, ?_⟩
  rintro m σ2 H2 ⟨ρ2, B2, G2, fp2, r2, fx2, k2⟩
  cases m with
  | zero => exact k2.elim
  | succ m =>
    simp only [whlF] at k2
    refine ⟨ρ2, B2, G2, fp2, r2, (k2.fl fx2 pc).mono fun d B3 G3 H3 fp3 ρ3 _ _ r3 k => ?_⟩
    cases d with
    | bool bb =>
      refine ⟨bb, rfl, ?_⟩
      cases bb with
      | false => exact k σ2 B3 G3 H3 fp3 .refl r3 fx2
      | true =>
        refine ⟨fun σ' H' => ∃ m', m' < m + 1 ∧ ∃ ρ B G fp, Rel C.K C.κ C.Z B G H' ρ σ' fp ∧ Fx C σ' ∧ PostX C B G H' (whlF evc exb m' ρ) DE, fun σ' H' hN => hN, ρ3, B3, G3, fp3, r3, fx2, ?_⟩
        dsimp only at k
        have again : ∀ {ρ4 : Env}, PostX C B3 G3 H3 (whlF evc exb m ρ4) DE → ∀ σ' B' G' H5 fp', Up B3 G3 B' G' → Rel C.K C.κ C.Z B' G' H5 ρ4 σ' fp' → Fx C σ' →
            ∃ m', m' < m + 1 ∧ ∃ ρ B G fp, Rel C.K C.κ C.Z B G H5 ρ σ' fp ∧ Fx C σ' ∧ PostX C B G H5 (whlF evc exb m' ρ) DE := fun {ρ4} k4 σ' B' G' H5 fp' u4 r4 fx4 => ⟨m, by omega, ρ4, B', G', fp', r4, fx4, k4.up u4⟩
        cases eb : exb ρ3 with
        | nx ρ4 => rw [eb] at k; exact again k
        | ct ρ4 => rw [eb] at k; exact again k
        | brk ρ4 => rw [eb] at k; exact k
        | ret d ρ4 => rw [eb] at k; exact k
        | err x ρ4 => rw [eb] at k; exact k
        | no => rw [eb] at k; exact k
    | _ => exact k.elim
/-! ### append, extend, stores -/
theorem tx_app {st : Stmt} {p : Pl} (hp : plOk C.κ p = true) (hs : p.isV = true ∨ pa = true) (h : PS X st (L2.tDrop (tBM C.K "list" rAppend (tPl p) (L2.tCons (tS C eva pa) L2.tNil)))) : PS X st (tX C (appD p eva)) := PS.imp h fun DE σ H ⟨ρ, B, G, fp, r, fx, q⟩ => by
  unfold appD at q
  split at q
  · rename_i ds0 e0
    obtain ⟨b0, vs0, hb0, h0, t0, _⟩ := r.focus hp e0
    refine ⟨b0, hb0, .inl ⟨rfl, vs0, .of h0⟩, ρ, B, G, fp, r, ?_⟩
    refine (q.fl fx pa).mono fun d B1 G1 H1 fp1 ρ1 _ p1 r1 k v hv => ?_
    try dsimp only at k
    split at k
    · rename_i ds e1
      split at k
      · rename_i hlim
        obtain ⟨b, vs, hb, h1, t, h2⟩ := r1.focus hp e1
        have hbb : b0 = b := PlV.same (hs.imp id p1) hb0 hb
        subst hbb
        obtain ⟨fp2, r2⟩ := h2 (t.append (.cons hv .nil))
        exact ⟨b0, vs, v, rfl, rfl, h1, by rw [t.length, sizeLine_eq]; unfold LIM at hlim; omega, k σ B1 G1 _ fp2 .refl r2 fx⟩
      · exact k.elim
    · exact k.elim
  · exact q.elim
theorem tx_ext {st : Stmt} {p : Pl} (hp : plOk C.κ p = true) (hs : p.isV = true ∨ pa = true) (h : PS X st (L2.tDrop (tBM C.K "list" rExtend (tPl p) (L2.tCons (tP C eva pa) L2.tNil)))) : PS X st (tX C (extD p eva)) := PS.imp h fun DE σ H ⟨ρ, B, G, fp, r, fx, q⟩ => by
  unfold extD at q
  split at q
  · rename_i ds0 e0
    obtain ⟨b0, vs0, hb0, h0, t0, _⟩ := r.focus hp e0
    refine ⟨b0, hb0, .inl ⟨rfl, vs0, .of h0⟩, ρ, B, G, fp, r, ?_⟩
    refine (q.fl fx pa).mono fun d B1 G1 H1 fp1 ρ1 _ p1 r1 k v hv => ?_
    try dsimp only at k
    split at k
    · rename_i ds xs e1
      split at k
      · rename_i hlim
        obtain ⟨b, vs, hb, h1, t, h2⟩ := r1.focus hp e1
        have hbb : b0 = b := PlV.same (hs.imp id p1) hb0 hb
        subst hbb
        obtain ⟨c, us, rfl, h3, t3⟩ := hv.list r1.bh
        obtain ⟨fp2, r2⟩ := h2 (t.append t3)
        exact ⟨b0, c, vs, us, rfl, rfl, h1, h3, by rw [t.length, t3.length, sizeLine_eq]; unfold LIM at hlim; omega, k σ B1 G1 _ fp2 .refl r2 fx⟩
      · exact k.elim
    · exact k.elim
  · exact q.elim
theorem tx_setI {st : Stmt} {p : Pl} (hp : plOk C.κ p = true) (hs : p.isV = true ∨ pa = true) (h : PS X st (L2.tAsg (tS C ev pu) (L2.gSub (tPl p) (tS C eva pa) rSetL))) : PS X st (tX C (setID p eva ev)) := PS.imp h fun DE σ H ⟨ρ, B, G, fp, r, fx, q⟩ => by
  unfold setID at q
  refine ⟨ρ, B, G, fp, r, (q.fl fx pu).mono fun dv B0 G0 H0 fp0 ρ0 _ _ r0 k v hv => ?_⟩
  try dsimp only at k
  split at k
  · rename_i ds0 e0
    obtain ⟨b0, vs0, hb0, h0, t0, _⟩ := r0.focus hp e0
    refine ⟨b0, hb0, ρ0, B0, G0, fp0, r0, ?_⟩
    refine (k.fl fx pa).mono fun d B1 G1 H1 fp1 ρ1 u1 p1 r1 k w hw => ?_
    try dsimp only at k
    split at k
    · rename_i ds i e1
      split at k
      · rename_i j ej
        obtain ⟨b, vs, hb, h1, t, h2⟩ := r1.focus hp e1
        have hbb : b0 = b := PlV.same (hs.imp id p1) hb0 hb
        subst hbb
        obtain rfl := hw.int'
        obtain ⟨fp2, r2⟩ := h2 (DvAll.set (hv.mono u1.b) j t)
        exact ⟨b0, vs, i, j, rfl, rfl, h1, by rw [t.length]; exact ej, k σ B1 G1 _ fp2 .refl r2 fx⟩
      · exact k.elim
    · exact k.elim
  · exact k.elim
theorem tx_setF {st : Stmt} {i j : Nat} {k : Str} {b : Bool} {ks : List (Str × Bool)} (hk : C.κ[i]? = some (.r ks)) (hj : ks[j]? = some (k, b)) (hnd : (ks.map (·.1)).Nodup) (h15 : ks.length ≤ 15)
    (h : PS X st (L2.sDPut (tVar i) (tC (.str k)) (tN C ev pu (fSh b)))) : PS X st (tX C (setFD i j ev)) := PS.imp h fun DE σ H ⟨ρ, B, G, fp, r, fx, q⟩ => by
  unfold setFD at q
  refine ⟨ρ, B, G, fp, r, (q.fl fx pu).mono fun d B1 G1 H1 fp1 ρ1 _ _ r1 kk v as ow nd out => ?_⟩
  try dsimp only at kk
  split at kk
  case h_2 => exact kk.elim
  rename_i dr hgv
  split at kk
  case isFalse => exact kk.elim
  rename_i hjl
  obtain ⟨w, s, h1, h2, ow1⟩ := r1.at_ i _ (gv_get hgv)
  rw [hk] at h2; cases h2
  have nd1 := r1.nd i
  have ho := r1.out i
  have hdj := r1.dj
  generalize hfp : fp1 i = fi at ow1 nd1 ho
  cases ow1 with
  | r hd t =>
    rename_i a kvs as0
    obtain ⟨k', b', v0, l, m, rr, g1, g2, g3, g4, g5⟩ := t.split (List.getElem?_eq_getElem hjl)
    rw [hj] at g1; cases g1
    have hkeys := t.keys
    have knd : (kvs.map (·.1)).Nodup := by
      rw [hkeys.1]
      have z := nodup_inr hnd
      rw [List.map_map] at z
      exact z
    subst g3
    have aas : a ∉ as := fun z => (out a z).2 i (by rw [hfp]; simp)
    have alr : ∀ x ∈ l ++ rr, x ≠ a := fun x hx z => by
      subst z
      rw [List.nodup_cons] at nd1
      exact nd1.1 (by rcases List.mem_append.mp hx with q | q <;> simp [q])
    have new := g5 (B' := B1) (H' := upd H1 a (.dK (kvs.set j (.inr k, v)))) (d' := d) (v' := v) (m' := as) (Same.refl _) (fun x hx o e => by rw [upd_ne (alr x hx)]; exact e)
      (ow.mono (Same.refl _) (Same.refl _) fun x hx o e => by rw [upd_ne fun z => aas (by rw [← z]; exact hx)]; exact e)
    have asl : ∀ x ∈ as, x ∉ a :: (l ++ m ++ rr) := fun x hx z => (out x hx).2 i (by rw [hfp]; exact z)
    refine ⟨.ref a, h1, a, _, rfl, DPut.k (k := .inr k) hd (by rw [hkeys.2.2, sizeLine_eq]; omega), ?_⟩
    rw [putK_at knd g2]
    have hGa : ∀ x ∈ a :: (l ++ m ++ rr), G1 x = none ∧ ∃ o, H1 x = some o := ho
    refine kk σ B1 G1 _ _ .refl (r1.put (s := .r ks) (as := a :: (l ++ as ++ rr)) hk h1 (.r upd_same new) ?_ (Same.refl _) r1.bg (fun x o e => ?_) r1.zg (fun j' hj' x hx => ⟨(r1.out j' x hx).1, fun z => ?_, fun o e => ?_⟩) (fun x hx => ?_)) fx
    · simp only [List.nodup_cons, List.nodup_append, List.mem_append, not_or] at nd1 ⊢
      obtain ⟨⟨⟨n1, _⟩, n2⟩, ⟨n3, n4, n5⟩, n6, n7⟩ := nd1
      refine ⟨⟨⟨n1, aas⟩, n2⟩, ⟨n3, nd, fun x hx y hy z => ?_⟩, n6, fun x hx y hy z => ?_⟩
      · subst z; exact asl x hy (by simp [hx])
      · subst z
        rcases hx with hx | hx
        · exact n7 x (.inl hx) x hy rfl
        · exact asl x hx (by simp [hy])
    · rw [upd_ne fun z => by rw [z, (hGa a (by simp)).1] at e; cases e]; exact r1.gh _ _ e
    · rcases List.mem_cons.mp z with z | z
      · exact hdj j' i hj' x hx (by rw [hfp, z]; simp)
      · simp only [List.mem_append] at z
        rcases z with (z | z) | z
        · exact hdj j' i hj' x hx (by rw [hfp]; simp [z])
        · exact (out x z).2 j' hx
        · exact hdj j' i hj' x hx (by rw [hfp]; simp [z])
    · rw [upd_ne fun z => hdj j' i hj' x hx (by rw [hfp, z]; simp)]; exact e
    · by_cases hxa : x = a
      · subst hxa; exact ⟨(hGa x (by simp)).1, _, upd_same⟩
      · rw [upd_ne hxa]
        have hx := (List.mem_cons.mp hx).resolve_left hxa
        simp only [List.mem_append] at hx
        rcases hx with (z | z) | z
        · exact hGa x (by simp [z])
        · exact ⟨(out x z).1, ow.inH x z⟩
        · exact hGa x (by simp [z])
/-! ### dicts with ints as keys -/
theorem isK_kD {q : Key} {d : D} {k : Int} : isK k (kD q, d) = decide (q = .inl k) := by
  cases q with
  | inl j => simp [isK, kD]
  | inr x => simp [isK, kD]
theorem OwD.find {K : PySem.W.Frag} {B : Hp} {kvs : List (Key × V)} {ps : List (D × D)} (h : OwD K B kvs ps) (k : Int) :
    (∃ v d, valV kvs (.inl k) = some v ∧ dfindD ps k = some d ∧ Dv K B v d) ∨ (valV kvs (.inl k) = none ∧ dfindD ps k = none) := by
  induction h with
  | nil => exact .inr ⟨rfl, rfl⟩
  | cons hv _ ih =>
    rename_i q v d kvs ps _
    unfold dfindD
    rw [isK_kD]
    by_cases e : q = .inl k
    · exact .inl ⟨v, d, valV_pos (p := (q, v)) e, by rw [decide_eq_true e]; rfl, hv⟩
    · rw [valV_neg (p := (q, v)) e, decide_eq_false e]
      exact ih
theorem OwD.put {K : PySem.W.Frag} {B : Hp} {kvs : List (Key × V)} {ps : List (D × D)} (h : OwD K B kvs ps) (k : Int) {v : V} {d : D} (hv : Dv K B v d) : OwD K B (putK kvs (.inl k) v) (dputD ps k d) := by
  have ha : (kvs.any fun kv => decide (kv.1 = .inl k)) = ps.any (isK k) := by
    induction h with
    | nil => rfl
    | cons _ _ ih => rw [List.any_cons, List.any_cons, ih, isK_kD]
  unfold putK dputD
  rw [ha]
  split
  · rename_i hc
    clear hc
    clear ha
    induction h with
    | nil => exact .nil
    | cons h1 _ ih =>
      rename_i q v1 d1 kvs ps _
      rw [List.map_cons, List.map_cons, isK_kD]
      by_cases e : q = .inl k
      · rw [decide_eq_true e]
        simp only [e, if_true]
        exact .cons hv ih
      · rw [decide_eq_false e]
        simp only [e, if_false]
        exact .cons h1 ih
  · rename_i hc
    clear hc
    clear ha
    induction h with
    | nil => exact .cons (k := .inl k) hv .nil
    | cons h1 _ ih => exact .cons h1 ih
theorem gdict_at {C : Ct} {B G H : Hp} {ρ : Env} {σ : L2.St} {fp : Nat → List Addr} (r : Rel C.K C.κ C.Z B G H ρ σ fp) {i : Nat} {ps : List (D × D)} (hk : C.κ[i]? = some (.r [])) (e : gdict ρ i = some ps) :
    ∃ a kvs, σ[i]? = some (some (.ref a)) ∧ H a = some (.dK kvs) ∧ OwD C.K B kvs ps ∧ fp i = [a] := by
  unfold gdict at e
  obtain ⟨d, e1, e2⟩ := Option.bind_eq_some_iff.mp e
  obtain ⟨v, s, h1, h2, h3⟩ := r.at_ i d (gv_some e1)
  rw [hk] at h2; cases h2
  generalize hfp : fp i = as at h3
  cases h3 with
  | r hd t =>
    cases t with
    | nil =>
      cases e2
      exact ⟨_, _, h1, hd, .nil, rfl⟩
  | d hd t =>
    cases e2
    exact ⟨_, _, h1, hd, t, rfl⟩
theorem te_dget {e : Expr} {i : Nat} {eva evb : Env → R D} {pa pb : Bool} (hk : C.κ[i]? = some (.r [])) (h : PE X e (L2.tDGet2 (tVar i) (tS C eva pa) (tS C evb pb))) : PE X e (tS C (dgetD i eva evb) (pa && pb)) := PE.imp h fun σ H Q ⟨ρ, B, G, fp, r, q⟩ => by
  have q : Post C B G H σ (pa && pb) (dgetD i eva evb ρ) (kS C Q) := q
  unfold dgetD at q
  cases e0 : gdict ρ i with
  | none => rw [e0] at q; exact q.elim
  | some ps0 =>
    rw [e0] at q
    obtain ⟨a, kvs0, h1, h2, _, _⟩ := gdict_at r hk e0
    refine ⟨.ref a, h1, a, rfl, .inl ⟨kvs0, .inl h2⟩, ρ, B, G, fp, r, ?_⟩
    refine (Post.bind (pu1 := pa) (pu2 := pb) q rfl).mono fun d1 B1 G1 H1 fp1 ρ1 _ _ r1 k v1 hv1 => ?_
    refine ⟨ρ1, B1, G1, fp1, r1, (k.bind (pu1 := pb) (pu2 := true) (by simp)).mono fun d2 B2 G2 H2 fp2 ρ2 b2 _ r2 k v2 hv2 => ?_⟩
    cases e2 : gdict ρ2 i with
    | none => rw [e2] at k; exact k.elim
    | some ps =>
    rw [e2] at k
    cases d1 with
    | int key =>
      dsimp only at k
      obtain ⟨a', kvs, g1, g2, g3, _⟩ := gdict_at r2 hk e2
      rw [h1] at g1; cases g1
      obtain rfl := hv1.int'
      refine ⟨_, DGet.k (k := .inl key) g2, ?_⟩
      rcases g3.find key with ⟨v, d, z1, z2, z3⟩ | ⟨z1, z2⟩
      · rw [z1]
        rw [z2] at k
        exact k B2 G2 H2 fp2 .refl (fun _ => Same.refl _) r2 v z3
      · rw [z1]
        rw [z2] at k
        exact k B2 G2 H2 fp2 .refl (fun _ => Same.refl _) r2 v2 hv2
    | _ => exact k.elim
theorem tx_dset {st : Stmt} {i : Nat} (hk : C.κ[i]? = some (.r [])) (h : PS X st (L2.sDPut (tVar i) (tS C eva pa) (tS C ev pu))) : PS X st (tX C (dsetD i eva ev)) := PS.imp h fun DE σ H ⟨ρ, B, G, fp, r, fx, q⟩ => by
  unfold dsetD at q
  refine ⟨ρ, B, G, fp, r, (q.fl fx pu).mono fun dv B0 G0 H0 fp0 ρ0 _ _ r0 k v hv => ?_⟩
  try dsimp only at k
  split at k
  · rename_i ps0 e0
    obtain ⟨a, kvs0, h1, h2, _, _⟩ := gdict_at r0 hk e0
    refine ⟨.ref a, h1, ρ0, B0, G0, fp0, r0, ?_⟩
    refine (k.fl fx pa).mono fun d B1 G1 H1 fp1 ρ1 u1 p1 r1 k w hw => ?_
    try dsimp only at k
    split at k
    · rename_i ps key e1
      split at k
      · rename_i hlim
        obtain ⟨a', kvs, g1, g2, g3, g4⟩ := gdict_at r1 hk e1
        rw [h1] at g1; cases g1
        obtain rfl := hw.int'
        have Ga := (r1.out i a (by rw [g4]; simp)).1
        refine ⟨a, _, rfl, DPut.k (k := .inl key) g2 (by rw [g3.length, sizeLine_eq]; unfold LIM at hlim; omega), ?_⟩
        refine k σ B1 G1 _ _ .refl (r1.put (s := .r []) (as := [a]) hk h1 (.d upd_same (g3.put key (hv.mono u1.b))) (by simp) (Same.refl _) r1.bg (fun x o e => ?_) r1.zg (fun j hj x hx => ⟨(r1.out j x hx).1, fun z => ?_, fun o e => ?_⟩) (fun x hx => ?_)) fx
        · rw [upd_ne fun z => by rw [z, Ga] at e; cases e]; exact r1.gh _ _ e
        · simp at z; subst z; exact r1.dj j i hj _ hx (by rw [g4]; simp)
        · rw [upd_ne fun z => r1.dj j i hj x hx (by rw [g4, z]; simp)]; exact e
        · simp at hx; subst hx; exact ⟨Ga, _, upd_same⟩
      · exact k.elim
    · exact k.elim
  · exact k.elim
theorem te_dnew {e : Expr} (h : PE X e L2.tDNewK) : PE X e (tN C (fun ρ => .ok (.dict []) ρ) true (.r [])) := PE.imp h fun σ H Q ⟨ρ, B, G, fp, r, q⟩ p hp => by
  have q : Post C B G H σ true (.ok (.dict []) ρ) (kN C (.r []) Q) := q
  have hG : G p = none := r.gh.free hp
  have hf : ∀ i, p ∉ fp i := fun i z => by obtain ⟨_, o, e⟩ := r.out i p z; rw [hp] at e; cases e
  exact q B G _ fp .refl (fun _ => same_upd hp _) (r.beside hG hf) (.ref p) [p] (.d upd_same .nil) (by simp) (fun a ha => by simp at ha; subst ha; exact ⟨hG, hf⟩)
theorem te_addO {e : Expr} {i : Nat} {f : D → D → Option D} {sh : Sh} {r : R2} {evb : Env → R D} {pb : Bool} (hk : C.κ[i]? = some (.l .s)) (h : PE X e (tOp r (tVar i) (tP C evb pb))) (hr : ∀ x y H Q, RX2 C.K sh f x y H Q → r x y H Q) :
    PE X e (tN C (addOD f i evb) pb sh) := PE.imp h fun σ H Q ⟨ρ, B, G, fp, R0, q⟩ => by
  have q : Post C B G H σ pb (addOD f i evb ρ) (kN C sh Q) := q
  unfold addOD at q
  cases e0 : gv ρ i with
  | none => rw [e0] at q; exact q.elim
  | some d0 =>
    rw [e0] at q
    cases d0 with
    | list ds0 =>
      dsimp only at q
      obtain ⟨v0, s0, h1, _, _⟩ := R0.at_ i _ (gv_some e0)
      refine ⟨v0, h1, ρ, B, G, fp, R0, (Post.bind (pu1 := pb) (pu2 := true) q (by simp)).mono fun d2 B2 G2 H2 fp2 ρ2 _ _ r2 k v2 hv2 => hr _ _ _ _ ?_⟩
      cases e2 : gv ρ2 i with
      | none => rw [e2] at k; exact k.elim
      | some d =>
        rw [e2] at k
        cases d with
        | list ds =>
          dsimp only at k
          obtain ⟨v, s, g1, g2, g3⟩ := r2.at_ i _ (gv_some e2)
          rw [h1] at g1; cases g1
          rw [hk] at g2; cases g2
          generalize fp2 i = as at g3
          cases g3 with
          | l hH t =>
            obtain ⟨d', e1, k⟩ := Post.of_some k
            exact ⟨B2, .list ds, d2, d', r2.bh, .inr ⟨_, _, _, rfl, rfl, hH, t.all.1⟩, hv2, e1, k.fin r2⟩
        | _ => exact k.elim
    | _ => exact q.elim
end
end TV

/-! V15: fields; ranges as lists; reversed lists. -/
namespace TV
open PySem PySem.Spec PyProof.Rows L2
section
variable {X : Cx} {C : Ct} {a b c : Expr} {pos : Pos} {ev eva evb evc : Env → R D} {pa pb pc : Bool}
variable {K : PySem.W.Frag} {κ : List Sh} {Z B G H B' G' H' : Hp} {σ : L2.St} {ρ ρ' : Env} {fp fp' : Nat → List Addr}
/-- where a field stands -/
theorem Rel.fld (r : Rel K κ Z B G H ρ σ fp) {i j : Nat} {k : Str} {b : Bool} {ks : List (Str × Bool)} {d : D} (hk : κ[i]? = some (.r ks)) (hj : ks[j]? = some (k, b)) (hnd : (ks.map (·.1)).Nodup) (e : getPl ρ (.f i j k) = some d) :
    ∃ a v as, σ[i]? = some (some (.ref a)) ∧ DGet H a (.str k) (some v) ∧ Ow K B Z H (fSh b) d v as := by
  simp only [getPl] at e
  split at e
  · rename_i dr hgv
    obtain ⟨v, s, h1, h2, ow⟩ := r.at_ i _ (gv_get hgv)
    rw [hk] at h2; cases h2
    generalize hf : fp i = as at ow
    cases ow with
    | r h t =>
      rename_i a kvs as
      obtain ⟨k', b', w, l, m, rr, g1, g2, g3, g4, _⟩ := t.split e
      rw [hj] at g1; cases g1
      have hkeys := t.keys.1
      have knd : (kvs.map (·.1)).Nodup := by
        rw [hkeys]
        have z := nodup_inr hnd
        rw [List.map_map] at z
        exact z
      refine ⟨a, w, m, h1, ?_, g4⟩
      have hv : valV kvs (.inr k) = some w := valV_at knd g2
      rw [← hv]
      exact DGet.k (k := .inr k) h
  · cases e
theorem te_fldS {o ix : Expr} {i j : Nat} {k : Str} {ks : List (Str × Bool)} (hu : X.A.units + 1 < cLine) (ho : PE X o (tVar i)) (hi : PE X ix (tC (.str k))) (hs : NoSl ix) (hk : C.κ[i]? = some (.r ks)) (hj : ks[j]? = some (k, false)) (hnd : (ks.map (·.1)).Nodup) :
    PE X (.Subscript o ix pos) (tS C (fun ρ => R.of (getPl ρ (.f i j k)) ρ) true) := PE.imp (pe_dget hu ho hi hs) fun σ H Q ⟨ρ, B, G, fp, r, q⟩ => by
  obtain ⟨d, e1, q⟩ := Post.of_some q
  obtain ⟨a, v, as, h1, h2, ow⟩ := r.fld hk hj hnd e1
  cases ow with
  | s h3 => exact ⟨.ref a, h1, a, v, rfl, h2, q B G H fp .refl (fun _ => Same.refl _) r v h3⟩
theorem te_fldP {o ix : Expr} {i j : Nat} {k : Str} {ks : List (Str × Bool)} (hu : X.A.units + 1 < cLine) (ho : PE X o (tVar i)) (hi : PE X ix (tC (.str k))) (hs : NoSl ix) (hk : C.κ[i]? = some (.r ks)) (hj : ks[j]? = some (k, true)) (hnd : (ks.map (·.1)).Nodup) :
    PE X (.Subscript o ix pos) (tP C (fun ρ => R.of (getPl ρ (.f i j k)) ρ) true) := PE.imp (pe_dget hu ho hi hs) fun σ H Q ⟨ρ, B, G, fp, r, q⟩ => by
  obtain ⟨d, e1, q⟩ := Post.of_some q
  obtain ⟨a, v, as, h1, h2, ow⟩ := r.fld hk hj hnd e1
  refine ⟨.ref a, h1, a, v, rfl, h2, q B G H fp .refl (fun _ => Same.refl _) r v ?_⟩
  have ow : Ow C.K B C.Z H (.l .s) d v as := ow
  cases ow with
  | l h t => exact .inr ⟨_, _, _, rfl, rfl, h, t.all.1⟩
/-! ### list(range(e)), tuple(range(e)) -/
theorem rgV_dv {lo hi : Int} : DvAll K B (rgV lo hi) (rngD lo hi) := by
  have key : ∀ l : List Nat, DvAll K B (l.map fun i => V.int (lo + (i : Nat))) (l.map fun i => PyData.int (lo + (i : Nat))) := fun l => by
    induction l with
    | nil => exact .nil
    | cons x l ih => exact .cons (.int _) ih
  exact key _
theorem te_lRng {e : Expr} (h : PE X e (tLstRg (tRg1 (tS C eva pa)))) : PE X e (tN C (fun ρ => (eva ρ).bind fun d ρ => R.of (b1 .lRng d) ρ) pa (.l .s)) := PE.imp h fun σ H Q ⟨ρ, B, G, fp, R0, q⟩ => by
  have q : Post C B G H σ pa _ _ := q
  refine ⟨ρ, B, G, fp, R0, (q.bind (pu1 := pa) (pu2 := true) (by simp)).mono fun d B1 G1 H1 fp1 ρ1 _ _ r1 k v hv => ?_⟩
  obtain ⟨d', e1, k⟩ := Post.of_some k
  cases d with
  | int n =>
    simp only [b1] at e1
    split at e1
    · rename_i hc
      simp only [Bool.and_eq_true, decide_eq_true_eq] at hc
      cases e1
      obtain rfl := hv.int'
      have h1 := hc.1
      have h2 := hc.2
      unfold LIM at h1 h2
      refine ⟨n, rfl, ⟨by omega, by omega, by omega, by omega, by omega⟩, fun q hq => ?_⟩
      exact PostV.newL (k.fin r1) r1.bh rgV_dv hq
    · cases e1
  | _ => simp [b1] at e1
theorem te_tRng {e : Expr} (h : PE X e (tTupRg (tRg1 (tS C eva pa)))) : PE X e (tN C (fun ρ => (eva ρ).bind fun d ρ => R.of (b1 .tRng d) ρ) pa .s) := PE.imp h fun σ H Q ⟨ρ, B, G, fp, R0, q⟩ => by
  have q : Post C B G H σ pa _ _ := q
  refine ⟨ρ, B, G, fp, R0, (q.bind (pu1 := pa) (pu2 := true) (by simp)).mono fun d B1 G1 H1 fp1 ρ1 _ _ r1 k v hv => ?_⟩
  obtain ⟨d', e1, k⟩ := Post.of_some k
  cases d with
  | int n =>
    simp only [b1] at e1
    split at e1
    · rename_i hc
      simp only [Bool.and_eq_true, decide_eq_true_eq] at hc
      cases e1
      obtain rfl := hv.int'
      have h1 := hc.1
      have h2 := hc.2
      unfold LIM at h1 h2
      refine ⟨n, rfl, ⟨by omega, by omega, by omega, by omega, by omega⟩, fun q hq => ?_⟩
      exact PostV.newT (k.fin r1) r1.bh rgV_dv hq
    · cases e1
  | _ => simp [b1] at e1
/-- xs[-2::-1] -/
theorem rv2_bounds (n : Nat) : sliceBounds (some (-2)) none (some (-1)) n = (max (-1) (min (-2 + (n : Int)) ((n : Int) - 1)), -1, -1) := rfl
theorem pick_rv2 (its : List Value) : slicePick its.toArray (some (-2)) none (some (-1)) = its.dropLast.reverse.toArray := by
  have hb : sliceBounds (some (-2)) none (some (-1)) its.toArray.size = (if its.length = 0 then -1 else (its.length : Int) - 2, -1, -1) := by
    rw [rv2_bounds, List.size_toArray]
    refine Prod.ext ?_ rfl
    show max (-1) (min (-2 + (its.length : Int)) ((its.length : Int) - 1)) = if its.length = 0 then -1 else (its.length : Int) - 2
    split <;> omega
  unfold slicePick
  rw [hb]
  show ((sliceRange (if its.length = 0 then -1 else (its.length : Int) - 2) (-1) (-1)).filterMap (its.toArray[·]?)).toArray = _
  have hr : sliceRange (if its.length = 0 then -1 else (its.length : Int) - 2) (-1) (-1) = (List.range (its.length - 1)).reverse := by
    rw [← PySem.W.krv_range, ← PySem.W.krv_sliceRange]
    congr 1
    split <;> omega
  rw [hr, List.filterMap_reverse]
  congr 2
  have ha : (List.range (its.length - 1)).filterMap (its.dropLast.toArray[·]?) = its.dropLast := by
    have h := PySem.W.krv_all its.dropLast.toArray
    rw [List.size_toArray, List.length_dropLast] at h
    exact h
  conv => rhs; rw [← ha]
  have key : ∀ l : List Nat, (∀ i ∈ l, i < its.length - 1) → l.filterMap (its.toArray[·]?) = l.filterMap (its.dropLast.toArray[·]?) := fun l => by
    induction l with
    | nil => intro _; rfl
    | cons i l ih =>
      intro h
      have hi := h i List.mem_cons_self
      have e : its.toArray[i]? = its.dropLast.toArray[i]? := by rw [List.getElem?_toArray, List.getElem?_toArray, List.dropLast_eq_take, List.getElem?_take_of_lt hi]
      simp only [List.filterMap_cons, e, ih fun j hj => h j (List.mem_cons_of_mem _ hj)]
  exact key _ fun i hi => List.mem_range.mp hi
def tRv2 (K : PySem.W.Frag) (te : TE) : TE := fun σ H Q => te σ H fun x H1 => ∃ a xs, x = .ref a ∧ SqL K H1 a xs ∧ ∀ p, H1 p = none → Q (.ref p) (upd H1 p (.lst xs.dropLast.reverse))
theorem dropLast_rel : ∀ {vs : List V} {us : List Value}, Vals vs us → Vals vs.dropLast us.dropLast
  | _, _, .nil => .nil
  | _, _, .cons _ .nil => .nil
  | _, _, .cons h (.cons h2 t) => .cons h (dropLast_rel (.cons h2 t))
theorem pe_rv2 {e : Expr} {te : TE} {k k0 : Nat} {p1 p2 p3 q1 q2 pos : Pos} (he : PE X e te) : PE X (.Subscript e (.Slice (some (.UnaryOp .USub (.Constant (.int 2) k0 q1) q2)) none (some (.UnaryOp .USub (.Constant (.int 1) k p1) p2)) p3) pos) (tRv2 X.K te) := ⟨fun pins s σ H Q I h => by
  refine Subscript_ (thn (he.run pins s σ H _ I h) fun v s1 ⟨x, H1, I1, r1, b, xs, ex, hx, q⟩ => ?_)
  subst ex; cases r1
  have neg : ∀ (n : Int) {k : Nat} {p1 p2 : Pos}, PO X (some (.UnaryOp .USub (.Constant (.int n) k p1) p2)) (tPart (tUn (rU fun i => .int (-i)) (tC (.int n)))) := fun n {_ _ _} => po_some (pe_un un_neg pe_int)
  refine wpAny_Slice (thn ((neg 2).run pins s1 σ H1 (fun o H2 => o = some (-2) ∧ H2 = H1) I1 ⟨2, rfl, -2, rfl, rfl, rfl⟩) fun vl s2 ⟨l, H2, I2, pl, el, e2⟩ => ?_)
  subst el; subst e2
  refine thn (po_none.run pins s2 σ H2 (fun o H3 => o = none ∧ H3 = H2) I2 ⟨rfl, rfl⟩) fun vu s3 ⟨u, H3, I3, pu, eu, e3⟩ => ?_
  subst eu; subst e3
  refine thn ((neg 1).run pins s3 σ H3 (fun o H4 => o = some (-1) ∧ H4 = H3) I3 ⟨1, rfl, -1, rfl, rfl, rfl⟩) fun vs s4 ⟨o, H4, I4, ps, eo, e4⟩ => ?_
  subst eo; subst e4
  have I5 : Inv X pins σ H4 { s4 with heap := s4.heap.push { cls := .type "slice", data := .fields #[vl, vu, vs] } } := I4.kept (t' := s4.toks) fun _ _ z => Heap.get?_push_of_some _ z
  obtain ⟨its, r, ht, hz⟩ := I5.list hx
  have hlen := r.length
  refine tail_any (ops := [.ref b, .ref s4.heap.objs.size]) ht.isList.typeIs (PySem.slot_list_getitem.lookup) ?_ (by with_unfolding_all rfl)
  refine wpAny_getItem_list_slice ht.isList (Heap.IsSliceOf.new _ vl vu vs) pl pu ps (by decide) ?_ (by rw [List.size_toArray]; omega)
  rw [pick_rv2]
  exact ⟨.ref _, _, I5.laid (t' := s4.toks) (o := .lst xs.dropLast.reverse) (fun _ _ z => Heap.get?_push_of_some _ z) (Nat.le_refl _) ⟨by rw [List.length_reverse, List.length_dropLast]; omega, _, 0, (dropLast_rel r).reverse, Heap.get?_push_size _ rfl⟩, rfl, q _ (I5.hok.fresh (Nat.le_refl _))⟩⟩
/-- xs[::-1] -/
theorem te_rev {e : Expr} (h : PE X e (tRevL C.K (tZ C eva pa))) : PE X e (tN C (fun ρ => (eva ρ).bind fun d ρ => R.of (b1 .rev d) ρ) pa (.l .s)) := PE.imp h fun σ H Q ⟨ρ, B, G, fp, R0, q⟩ => by
  have q : Post C B G H σ pa _ _ := q
  refine ⟨ρ, B, G, fp, R0, (q.bind (pu1 := pa) (pu2 := true) (by simp)).mono fun d B1 G1 H1 fp1 ρ1 _ _ r1 k v hv => ?_⟩
  obtain ⟨d', e1, k⟩ := Post.of_some k
  cases d with
  | list ds =>
    simp only [b1, Option.some.injEq] at e1
    subst e1
    obtain ⟨a, vs, rfl, h1, t⟩ := hv.list r1.bh
    refine ⟨a, vs, rfl, h1, fun p hp => ?_⟩
    exact PostV.newL (k.fin r1) r1.bh t.reverse hp
  | _ => simp [b1] at e1
theorem te_rv2 {e : Expr} (h : PE X e (tRv2 C.K (tZ C eva pa))) : PE X e (tN C (fun ρ => (eva ρ).bind fun d ρ => R.of (b1 .rv2 d) ρ) pa (.l .s)) := PE.imp h fun σ H Q ⟨ρ, B, G, fp, R0, q⟩ => by
  have q : Post C B G H σ pa _ _ := q
  refine ⟨ρ, B, G, fp, R0, (q.bind (pu1 := pa) (pu2 := true) (by simp)).mono fun d B1 G1 H1 fp1 ρ1 _ _ r1 k v hv => ?_⟩
  obtain ⟨d', e1, k⟩ := Post.of_some k
  cases d with
  | list ds =>
    simp only [b1, Option.some.injEq] at e1
    subst e1
    obtain ⟨a, vs, rfl, h1, t⟩ := hv.list r1.bh
    refine ⟨a, vs, rfl, h1, fun p hp => ?_⟩
    exact PostV.newL (k.fin r1) r1.bh t.dropLast.reverse hp
  | _ => simp [b1] at e1
end
end TV
/-! V15 goes on: sorted(set(..)) of tuples of ints. -/
namespace TV
open PySem PySem.Spec PyProof.Rows L2
theorem code_inj {Bd : Int} : ∀ {x y : List Int}, x.length = y.length → TS.Bd Bd x → TS.Bd Bd y → TS.code Bd x = TS.code Bd y → x = y
  | [], [], _, _, _, _ => rfl
  | a :: x, b :: y, hl, hx, hy, e => by
    have hl2 : x.length = y.length := by simpa using hl
    clear hl
    rcases Int.lt_trichotomy a b with h | h | h
    · have := TS.code_lt hl2 hx.tail hy.tail h
      omega
    · subst h
      have e2 : a * Bd ^ x.length + TS.code Bd x = a * Bd ^ y.length + TS.code Bd y := e
      rw [hl2] at e2
      rw [code_inj hl2 hx.tail hy.tail (by omega)]
    · have := TS.code_lt hl2.symm hy.tail hx.tail h
      omega
  | [], _ :: _, hl, _, _, _ => by simp at hl
  | _ :: _, [], hl, _, _, _ => by simp at hl
/-- strictly rising lists of the same members are equal -/
theorem rising_eq {α : Type} (c : α → Int) : ∀ {xs ys : List α}, xs.Pairwise (fun a b => c a < c b) → ys.Pairwise (fun a b => c a < c b) → (∀ a, a ∈ xs ↔ a ∈ ys) → xs = ys
  | [], [], _, _, _ => rfl
  | [], y :: ys, _, _, h => by have := (h y).mpr List.mem_cons_self; cases this
  | x :: xs, [], _, _, h => by have := (h x).mp List.mem_cons_self; cases this
  | x :: xs, y :: ys, hx, hy, h => by
    rw [List.pairwise_cons] at hx hy
    have exy : x = y := by
      rcases List.mem_cons.mp ((h x).mp List.mem_cons_self) with e | h1
      · exact e
      · rcases List.mem_cons.mp ((h y).mpr List.mem_cons_self) with e | h2
        · exact e.symm
        · have := hx.1 y h2
          have := hy.1 x h1
          omega
    subst exy
    refine congrArg (x :: ·) (rising_eq c hx.2 hy.2 fun a => ⟨fun ha => ?_, fun ha => ?_⟩)
    · rcases List.mem_cons.mp ((h a).mp (List.mem_cons_of_mem _ ha)) with e | z
      · subst e; have := hx.1 a ha; omega
      · exact z
    · rcases List.mem_cons.mp ((h a).mpr (List.mem_cons_of_mem _ ha)) with e | z
      · subst e; have := hy.1 a ha; omega
      · exact z
theorem insT_mem {x a : List Int} : ∀ {ys : List (List Int)}, a ∈ insT x ys ↔ a = x ∨ a ∈ ys
  | [] => by simp [insT]
  | y :: ys => by
    unfold insT
    split
    · rename_i e
      subst e
      simp
    · split
      · simp
      · rw [List.mem_cons, insT_mem, List.mem_cons]
        constructor
        · rintro (h | h | h)
          · exact .inr (.inl h)
          · exact .inl h
          · exact .inr (.inr h)
        · rintro (h | h | h)
          · exact .inr (.inl h)
          · exact .inl h
          · exact .inr (.inr h)
theorem setT_mem {a : List Int} : ∀ {xs : List (List Int)}, a ∈ setT xs ↔ a ∈ xs
  | [] => by simp [setT]
  | x :: xs => by unfold setT; rw [insT_mem, setT_mem, List.mem_cons]
theorem insT_rise {x : List Int} {d : Nat} (hx : x.length = d ∧ TS.Bd SB x) : ∀ {ys : List (List Int)}, (∀ y ∈ ys, y.length = d ∧ TS.Bd SB y) → ys.Pairwise (fun a b => TS.code SB a < TS.code SB b) → (insT x ys).Pairwise fun a b => TS.code SB a < TS.code SB b
  | [], _, _ => by simp [insT]
  | y :: ys, hm, h => by
    unfold insT
    split
    · exact h
    · rename_i hne
      have hy := hm y List.mem_cons_self
      split
      · rename_i hlt
        rw [List.pairwise_cons] at h ⊢
        refine ⟨fun a ha => ?_, List.pairwise_cons.mpr h⟩
        rcases List.mem_cons.mp ha with e | ha
        · subst e; exact hlt
        · exact Int.lt_trans hlt (h.1 a ha)
      · rename_i hnl
        have hlt : TS.code SB y < TS.code SB x := by
          rcases Int.lt_trichotomy (TS.code SB x) (TS.code SB y) with z | z | z
          · exact absurd z hnl
          · exact absurd (code_inj (hx.1.trans hy.1.symm) hx.2 hy.2 z) hne
          · exact z
        rw [List.pairwise_cons] at h ⊢
        refine ⟨fun a ha => ?_, insT_rise hx (fun z hz => hm z (List.mem_cons_of_mem _ hz)) h.2⟩
        rcases insT_mem.mp ha with e | ha
        · subst e; exact hlt
        · exact h.1 a ha
theorem setT_rise {d : Nat} : ∀ {xs : List (List Int)}, (∀ y ∈ xs, y.length = d ∧ TS.Bd SB y) → (setT xs).Pairwise fun a b => TS.code SB a < TS.code SB b
  | [], _ => by simp [setT]
  | x :: xs, h => by
    unfold setT
    exact insT_rise (h x List.mem_cons_self) (fun y hy => h y (List.mem_cons_of_mem _ (setT_mem.mp hy))) (setT_rise fun y hy => h y (List.mem_cons_of_mem _ hy))
theorem okT_ok {d : Nat} {xs : List (List Int)} (h : okT d xs = true) : 1 ≤ d ∧ ∀ x ∈ xs, x.length = d ∧ TS.Bd SB x := by
  unfold okT at h
  rw [Bool.and_eq_true, decide_eq_true_eq] at h
  refine ⟨h.1, fun x hx => ?_⟩
  have := List.all_eq_true.mp h.2 x hx
  rw [Bool.and_eq_true, decide_eq_true_eq] at this
  refine ⟨this.1, fun m hm => ?_⟩
  have := List.all_eq_true.mp this.2 m hm
  simpa using this
theorem Ext.trans {B H B1 H1 B2 H2 : Hp} (x : Ext B H B1 H1) (y : Ext B1 H1 B2 H2) : Ext B H B2 H2 := ⟨x.b.trans y.b, x.h.trans y.h, y.bh, fun a o e => by
  rcases y.new a o e with z | z
  · exact x.new a o z
  · exact .inr (x.h.free z)⟩
theorem PostV.later {K : PySem.W.Frag} {B H B1 H1 : Hp} {sh : Sh} {d : D} {Q : VK} (h : PostV K B H sh d Q) (x : Ext B H B1 H1) : PostV K B1 H1 sh d Q := fun v H' B' as y ow nd out =>
  h v H' B' as (x.trans y) ow nd fun a ha => ⟨x.h.free (out a ha).1, (out a ha).2⟩
theorem dv_ints {K : PySem.W.Frag} {B : Hp} : ∀ {vs : List V} {ds : List D} {is : List Int}, DvAll K B vs ds → intsD ds = some is → vs = is.map V.int ∧ ds = is.map .int
  | [], [], is, .nil, e => by simp [intsD] at e; subst e; exact ⟨rfl, rfl⟩
  | v :: vs, d :: ds, is, .cons h t, e => by
    cases d with
    | int i =>
      simp only [intsD] at e
      cases q : intsD ds with
      | none => rw [q] at e; cases e
      | some r =>
        rw [q] at e
        cases e
        obtain ⟨h1, h2⟩ := dv_ints t q
        obtain rfl := h.int'
        exact ⟨by rw [h1]; rfl, by rw [h2]; rfl⟩
    | _ => simp [intsD] at e
theorem dv_intss {K : PySem.W.Frag} {B : Hp} : ∀ {vs : List V} {ds : List D} {xs : List (List Int)}, DvAll K B vs ds → intssD ds = some xs → ∃ ks : List (Addr × List Int), vs = ks.map (fun p => V.ref p.1) ∧ ks.map (·.2) = xs ∧ ∀ p ∈ ks, SqT K B p.1 (p.2.map V.int)
  | [], [], xs, .nil, e => by simp [intssD] at e; subst e; exact ⟨[], rfl, rfl, fun _ h => by cases h⟩
  | v :: vs, d :: ds, xs, .cons h t, e => by
    cases d with
    | tuple ys =>
      simp only [intssD] at e
      cases q1 : intsD ys with
      | none => rw [q1] at e; cases e
      | some is =>
        rw [q1] at e
        dsimp only at e
        cases q : intssD ds with
        | none => rw [q] at e; cases e
        | some r =>
          rw [q] at e
          cases e
          obtain ⟨ks, h1, h2, h3⟩ := dv_intss t q
          cases h with
          | tup hs ht =>
            rename_i a ws
            obtain ⟨w1, _⟩ := dv_ints ht q1
            refine ⟨(a, is) :: ks, by rw [h1]; rfl, by simp [h2], fun p hp => ?_⟩
            rcases List.mem_cons.mp hp with z | hp
            · subst z; rw [← w1]; exact hs
            · exact h3 p hp
    | _ => simp [intssD] at e
section
variable {X : Cx} {C : Ct} {ev : Env → R D} {pu : Bool}
theorem te_setT {e : Expr} {Pg : Program} {w : World} (h : PE X e (tCB (rSortedT C.K Pg w) (L2.tCons (tCB (rSetOfT C.K Pg w) (L2.tCons (tZ C ev pu) L2.tNil)) L2.tNil))) : PE X e (tN C (fun ρ => (ev ρ).bind fun d ρ => R.of (b1 .setT d) ρ) pu (.l .s)) := PE.imp h fun σ H Q ⟨ρ, B, G, fp, R0, q⟩ => by
  have q : Post C B G H σ pu _ _ := q
  refine ⟨ρ, B, G, fp, R0, (q.bind (pu1 := pu) (pu2 := true) (by simp)).mono fun d B1 G1 H1 fp1 ρ1 _ _ r1 k v hv => ?_⟩
  obtain ⟨d', e1, k⟩ := Post.of_some k
  cases d with
  | list ds =>
    simp only [b1] at e1
    split at e1
    · rename_i xs hxs
      split at e1
      · rename_i hc
        cases e1
        rw [Bool.and_eq_true, decide_eq_true_eq] at hc
        obtain ⟨hd, hm⟩ := okT_ok hc.2
        obtain ⟨a, vs, rfl, h1, t⟩ := hv.list r1.bh
        obtain ⟨ks, rfl, h2, h3⟩ := dv_intss t hxs
        have hl : ks.length < 64 := by
          have := t.length
          rw [List.length_map] at this
          omega
        refine ⟨a, ks, rfl, h1, fun p hp => Le.tup r1.bh (h3 p hp), hl, fun s L hs l1 l2 => ?_⟩
        have x1 : Ext B1 H1 B1 (upd H1 s (SetTO Pg w s L)) := Ext.newH r1.bh hs _
        have mem2 : ∀ p ∈ L, p.2 ∈ xs := fun p hp => by rw [← h2]; exact List.mem_map.mpr ⟨p, l1 p hp, rfl⟩
        refine ⟨s, L, hdL xs, SB, rfl, upd_same, fun p hp => Le.tup x1.bh (h3 p (l1 p hp)), hd, fun p hp => hm _ (mem2 p hp), fun L' p pm nd _ pw hp => ?_⟩
        have key : L'.map (·.2) = setT xs := by
          refine rising_eq (TS.code SB) ?_ (setT_rise hm) fun b => ?_
          · rw [List.pairwise_map]
            have nd2 := List.pairwise_map.mp nd
            refine (pw.and nd2).imp_of_mem fun {q r} hq hr z => ?_
            rcases Int.lt_or_eq_of_le z.1 with y | y
            · exact y
            · have h3 := hm _ (mem2 q (pm.mem_iff.mp hq))
              have h4 := hm _ (mem2 r (pm.mem_iff.mp hr))
              exact absurd (code_inj (h3.1.trans h4.1.symm) h3.2 h4.2 y) z.2
          · rw [setT_mem]
            constructor
            · intro hb
              obtain ⟨q, hq, rfl⟩ := List.mem_map.mp hb
              exact mem2 q (pm.mem_iff.mp hq)
            · intro hb
              rw [← h2] at hb
              obtain ⟨q, hq, rfl⟩ := List.mem_map.mp hb
              obtain ⟨r, hr, e⟩ := List.mem_map.mp (l2 q hq)
              exact List.mem_map.mpr ⟨r, pm.mem_iff.mpr hr, e⟩
        have all : ∀ M : List (Addr × List Int), (∀ q ∈ M, SqT C.K B1 q.1 (q.2.map V.int)) → DvAll C.K B1 (M.map fun q => V.ref q.1) ((M.map (·.2)).map tI) := fun M => by
          induction M with
          | nil => exact fun _ => .nil
          | cons q M ih =>
            intro hM
            refine .cons (.tup (hM q List.mem_cons_self) ?_) (ih fun r hr => hM r (List.mem_cons_of_mem _ hr))
            show DvAll C.K B1 (q.2.map V.int) (q.2.map PyData.int)
            generalize q.2 = is
            induction is with
            | nil => exact .nil
            | cons i is ihi => exact .cons (.int i) ihi
        have dv : DvAll C.K B1 (L'.map fun q => V.ref q.1) ((setT xs).map tI) := by
          rw [← key]
          exact all L' fun q hq => h3 q (l1 q (pm.mem_iff.mp hq))
        exact PostV.newL ((k.fin r1).later x1) x1.bh dv hp
      · cases e1
    · cases e1
  | _ => simp [b1] at e1
end
end TV
/-! V26: enumerate of lists and tuples, zip. -/
namespace TV
open PySem
open AutoSeq1 (wpAny_loadPart')
set_option maxHeartbeats 1000000 in
theorem meets_enumT (p : Addr) (its : Array Value) (m : Nat) (dct : Option Addr) (sl : Array (Option Value)) :
    Meets (Builtin.«enumerate.__new__» ⟨[.type "enumerate", .ref p], []⟩) (fun _ R t => t.heap.get? p = some { cls := .type "tuple", dict := dct, data := .seq its m, slots := sl } ∧
      R (.ok (.ret (.ref (t.heap.push { cls := .type "tuple_iterator", data := .fields #[.ref p, .int 0 0] }).objs.size)))
        { t with heap := (t.heap.push { cls := .type "tuple_iterator", data := .fields #[.ref p, .int 0 0] }).push { cls := .type "enumerate", data := .fields #[.none, .bool false, .ref t.heap.objs.size, rawInt 0, .none, .none] } }) :=
  .of_wp fun prog w A R t h => by
    obtain ⟨hp, gs, dr, tk, osn⟩ := t
    obtain ⟨at_, h⟩ := h
    have sub := sub_enumerate
    have isT : Heap.IsTuple (Shared.heap ⟨hp, gs, dr, tk, osn⟩) p its := ⟨_, at_, rfl, m, rfl⟩
    wp_walk using wpAny_loadPart' at_
    refine wpAny_stack_any fun st => wpAny_pure ?_
    split
    · rename_i cv _ _ _ _ _
      cases (cv == Value.type "enumerate")
      · wp_walk using wpAny_loadPart' at_, wpAny_pyIter_tuple isT
        exact ⟨_, rfl, h⟩
      · wp_walk using wpAny_loadPart' at_, wpAny_pyIter_tuple isT
        exact ⟨_, rfl, h⟩
    · wp_walk using wpAny_loadPart' at_, wpAny_pyIter_tuple isT
      exact ⟨_, rfl, h⟩
section
variable {prog : Program} {w : World} {A : Around} {E : Value → Shared → Prop} {s : Shared}
theorem call_enumT {p : Addr} {its : Array Value} {Q : Value → Shared → Prop} (isT : s.heap.IsTuple p its)
    (h : ∀ h2, IsEnum h2 (s.heap.objs.size + 1) s.heap.objs.size 0 .none → h2.IsTupleIter s.heap.objs.size p 0 → (∀ b o, s.heap.get? b = some o → h2.get? b = some o) → Q (.ref (s.heap.objs.size + 1)) { s with heap := h2 }) :
    wpAny (model prog w) A (call (.type "enumerate") [.ref p]) Q E s := by
  obtain ⟨⟨cl, dct, dt, sl⟩, at_, hcl, m, hdt⟩ := isT
  replace hcl : cl = .type "tuple" := hcl
  replace hdt : dt = .seq its m := hdt
  subst hcl hdt
  refine callType_new F.called_enumerate (by decide) (F.typeCall_enumerate_1 _) (F.newCall_enumerate_1 _) (fun ob => F.args_object_init_2 ob _) F.entry_enumerate_new (meets_enumT p its m dct sl) ⟨at_, ?_⟩
  have sz : (s.heap.push { cls := .type "tuple_iterator", data := .fields #[.ref p, .int 0 0] }).objs.size = s.heap.objs.size + 1 := Heap.size_push ..
  show _ ∧ _
  rw [sz]
  have en : IsEnum ((s.heap.push { cls := .type "tuple_iterator", data := .fields #[.ref p, .int 0 0] }).push { cls := .type "enumerate", data := .fields #[.none, .bool false, .ref s.heap.objs.size, rawInt 0, .none, .none] }) (s.heap.objs.size + 1) s.heap.objs.size 0 .none := by
    have z := Heap.get?_push_size (s.heap.push { cls := .type "tuple_iterator", data := .fields #[.ref p, .int 0 0] }) (o := { cls := .type "enumerate", data := .fields #[.none, .bool false, .ref s.heap.objs.size, rawInt 0, .none, .none] }) rfl
    rw [sz] at z; exact z
  exact ⟨⟨_, en, rfl⟩, h _ en ⟨_, Heap.get?_push_of_some _ (Heap.get?_push_size _ rfl), rfl, rfl⟩ fun b o x => Heap.get?_push_of_some _ (Heap.get?_push_of_some _ x)⟩
/-- a tuple's iterator, drawn from -/
theorem draws_tup {it p : Addr} {its : Array Value} (hh : A.handled = none) (hne : p ≠ it) : Draws prog w A it [it, p] its.size (fun i x => its[i]? = some x) (fun i h => h.IsTupleIter it p i ∧ h.IsTuple p its) where
  live := fun i h st => let ⟨⟨o, ho, _⟩, _⟩ := st; ⟨o, ho⟩
  frame := fun i h h' st k => by
    obtain ⟨a, ⟨o, ho, r⟩⟩ := st
    exact ⟨a.at fun o e => k it (by simp) o e, ⟨o, k p (by simp) o ho, r⟩⟩
  item := fun i s Q E hi st hQ => by
    refine RZ.nextOf_tuple_item st.1 st.2 (x := its[i]) (by simp [hi]) fun h' hit sb => ?_
    obtain ⟨o, ho, r⟩ := st.2
    exact hQ _ h' s.toks (by simp [hi]) ⟨hit, ⟨o, (sb.2 p hne).trans ho, r⟩⟩ sb
  done := fun s Q E st hE => RZ.nextOf_tuple_end hh st.1 st.2 (by simp) hE
end
end TV
namespace TV
open PySem PySem.Spec PyProof.Rows L2
/-- the tuple at p as it stands at each turn, each item in a new pair -/
def IteT (K : PySem.W.Frag) (p : Addr) : It :=
  ⟨fun i H => ∃ xs x, SqT K H p xs ∧ xs[i]? = some x, fun i H v H' => ∃ t x, v = .ref t ∧ H t = none ∧ H' = upd H t (.tup [.int (i : Nat), x]) ∧ ∀ xs, SqT K H p xs → xs[i]? = some x, fun i H => ∃ xs, SqT K H p xs ∧ xs.length ≤ i⟩
theorem turn_enumT {P : Program} {w : World} {K : PySem.W.Frag} {elts : List Expr} {kk : Nat} {tpos : Pos} (p e it : Addr) :
    Turn P w K (.Tuple elts kk tpos) (IteT K p) [e, it] e (fun i h => (∃ old, IsEnum h e it ((i : Nat) : Int) old) ∧ h.IsTupleIter it p i ∧ e ≠ it) where
  mem := by simp
  obj := fun i h st b hb => by
    obtain ⟨⟨old, en⟩, ⟨o, ho, hc, hd⟩, _⟩ := st
    have hb : b = e ∨ b = it := by simpa using hb
    rcases hb with z | z
    · subst z; exact ⟨_, en, fun v q => nomatch q⟩
    · subst z; exact ⟨o, ho, fun v q => by rw [hd] at q; cases q⟩
  keep := fun i h h' st k => let ⟨⟨old, en⟩, hi, hne⟩ := st; ⟨⟨old, k e (by simp) _ en⟩, hi.at fun o q => k it (by simp) o q, hne⟩
  item := by
    intro X hP hw hK hc i pins s σ H E I hf st hg
    subst hP hw hK
    obtain ⟨⟨old, en⟩, hit, hne⟩ := st
    obtain ⟨xs, x, hq, hx⟩ := hg
    obtain ⟨its, rv, pt, hz⟩ := I.tuple hq
    obtain ⟨u, hu, ru⟩ := rv.get hx
    have el : e < s.heap.objs.size := Heap.lt_size en
    have il : it < s.heap.objs.size := by obtain ⟨_, q, _⟩ := hit; exact Heap.lt_size q
    have pt2 : s.heap.IsTuple p its.toArray := pt
    have pne : p ≠ it := fun z => by
      obtain ⟨o1, h1, h2, _⟩ := hit
      obtain ⟨o2, g1, g2, _⟩ := pt2
      rw [z, h1] at g1
      cases g1
      rw [h2] at g2
      exact absurd g2 (by decide)
    have pne2 : e ≠ p := fun z => by
      obtain ⟨o2, g1, g2, _⟩ := pt2
      rw [← z, en] at g1
      cases g1
      exact absurd (show Value.type "enumerate" = Value.type "tuple" from g2) (by decide)
    refine wpAny_pyNext_enum_itemD (draws_tup (I.ok.hd hc) pne) en ⟨hit, pt2⟩ (by simpa using (List.getElem?_eq_some_iff.mp hu).1) hne (by simp [hne, pne2]) fun y h2 tk hy ho st2 hT hsz hk => ?_
    obtain rfl : y = u := by
      have hy : its.toArray[i]? = some y := hy
      rw [List.getElem?_toArray, hu] at hy
      exact (Option.some.inj hy).symm
    refine ⟨_, rfl, wpAny_letOwnedTupleGo_enum (s := { s with heap := h2, toks := tk + 1 }) ho fun h3 en3 sb => ?_⟩
    have hT2 : h3.get? s.heap.objs.size = some { cls := .type "tuple", data := .seq #[.int i tk, y] } := (sb.2 _ (Nat.ne_of_gt el)).trans hT
    have new : ObjOk X.prog X.w (upd H s.heap.objs.size (.tup [.int (i : Nat), x])) h3 s.heap.objs.size (.tup [.int (i : Nat), x]) :=
      ⟨by show 2 ≤ sizeLine; decide, [.int i tk, y], .cons ⟨_, rfl⟩ (.cons ru .nil), ⟨_, hT2, rfl, _, rfl⟩⟩
    have I1 : Inv X pins σ (upd H s.heap.objs.size (.tup [.int (i : Nat), x])) { s with heap := h3, toks := tk + 1 } :=
      I.turnedNew (ch := [e, it]) (fun b ob hb q => (sb.2 b (fun z => hb (by simp [z]))).trans (hk b ob (fun z => hb (by simp [z])) (fun z => hb (by simp [z])) q)) hf (Nat.le_refl _) new
    refine ⟨.ref s.heap.objs.size, _, I1, rfl, ⟨_, x, rfl, I.hok.fresh (Nat.le_refl _), rfl, fun ys hy => by rw [I.tuple_inj hy hq]; exact hx⟩, ⟨⟨y, ?_⟩, st2.1.at fun o q => (sb.2 it (Ne.symm hne)).trans q, hne⟩, fun b hb => ?_⟩
    · have e1 : ((i + 1 : Nat) : Int) = (i : Int) + 1 := by omega
      rw [e1]; exact en3
    · have hbl : b < s.heap.objs.size := by
        have hb : b = e ∨ b = it := by simpa using hb
        rcases hb with z | z <;> (rw [z]; assumption)
      rw [upd_ne (Nat.ne_of_lt hbl)]
      exact (hf b hb).1
  done := by
    intro X hP hw hK hc i pins s σ H E I hf st hg
    subst hP hw hK
    obtain ⟨⟨old, en⟩, hit, hne⟩ := st
    obtain ⟨xs, hq, hx⟩ := hg
    obtain ⟨its, rv, pt, hz⟩ := I.tuple hq
    obtain ⟨f0, f1, f2, f3, f4, f5⟩ := hf it (by simp)
    have hl := rv.length
    have pt2 : s.heap.IsTuple p its.toArray := pt
    have D : Draws X.prog X.w X.A.in1 it [it, p] i (fun _ _ => False) (fun j h => j = i ∧ h.IsTupleIter it p i ∧ h.IsTuple p its.toArray) :=
      { live := fun j h z => let ⟨o, ho, _⟩ := z.2.1; ⟨o, ho⟩
        frame := fun j h h' z k => ⟨z.1, z.2.1.at fun o e => k it (by simp) o e, let ⟨o, ho, r⟩ := z.2.2; ⟨o, k p (by simp) o ho, r⟩⟩
        item := fun j s Q E hj z => absurd z.1 (by omega)
        done := fun s Q E z hE => RZ.nextOf_tuple_end (I.ok.hd hc) z.2.1 z.2.2 (by simp; omega) hE }
    exact wpAny_pyNext_enum_endD D en ⟨rfl, hit, pt2⟩ fun h' eb => ⟨rfl, I.turned (t' := s.toks) (fun b o hb q => eb b o hb q) f0 f1 f3 f4 f5⟩
  self := fun A i s Q E st h => let ⟨⟨_, en⟩, _⟩ := st; wpAny_pyIter_enum en h
def iEnumA (K : PySem.W.Frag) (ta : TA) : TI := fun σ H R => ta σ H fun vs H1 => ∃ a, vs = [.ref a] ∧ ((∃ xs, SqL K H1 a xs ∧ R (Ite K a) H1) ∨ ∃ xs, SqT K H1 a xs ∧ R (IteT K a) H1)
theorem pi_enumA {X : Cx} {e : Expr} {ta : TA} {p pos tpos : Pos} {elts : List Expr} {kk : Nat} (hg : Gl X "enumerate") (hm : X.mg "enumerate" = none) (ha : PA X [e] ta) (hs : starEach [e] X.env = [(false, eval e X.env)]) :
    PI X (.Tuple elts kk tpos) (.Call (.Name "enumerate" p) [e] [] pos) (iEnumA X.K ta) := by
  refine ⟨fun pins s σ H Rr I h => ?_⟩
  refine Call_ (ld_blt I hg hm boot_enumerate (PyProof.Rows.callWith_type1 (thn (ha.run pos pins s σ H _ I h) fun us t1 ⟨vs, H1, I1, rl, q1⟩ => ?_) hs rfl))
  obtain ⟨a, rfl, q⟩ := q1
  have two : ∀ b ∈ [t1.heap.objs.size + 1, t1.heap.objs.size], FpOk X pins H1 b := fun b hb => by
    have hb : b = t1.heap.objs.size + 1 ∨ b = t1.heap.objs.size := by simpa using hb
    have low : t1.heap.objs.size ≤ b := by omega
    exact I1.fpOk low (I1.hok.fresh low)
  cases rl with
  | cons r0 rr =>
    cases rr
    cases r0
    rcases q with ⟨xs, hq, q⟩ | ⟨xs, hq, q⟩
    · obtain ⟨its, rv, pl, _⟩ := I1.list hq
      exact call_enumerate_list pl.isList fun h2 en it _ kp => wpAny_pyIter_enum en
        ⟨t1.heap.objs.size + 1, [t1.heap.objs.size + 1, t1.heap.objs.size], _, _, H1, rfl, I1.kept (t' := t1.toks) kp, turn_enum a (t1.heap.objs.size + 1) t1.heap.objs.size, ⟨⟨.none, en⟩, it, Nat.succ_ne_self _⟩, two, q⟩
    · obtain ⟨its, rv, pt, _⟩ := I1.tuple hq
      exact call_enumT (show t1.heap.IsTuple a its.toArray from pt) fun h2 en it kp => wpAny_pyIter_enum en
        ⟨t1.heap.objs.size + 1, [t1.heap.objs.size + 1, t1.heap.objs.size], _, _, H1, rfl, I1.kept (t' := t1.toks) kp, turn_enumT a (t1.heap.objs.size + 1) t1.heap.objs.size, ⟨⟨.none, en⟩, it, Nat.succ_ne_self _⟩, two, q⟩
section
variable {X : Cx} {C : Ct} {K : PySem.W.Frag} {B H : Hp} {eva evb : Env → R D} {pa pb : Bool}
theorem enumD_get {ds : List D} {k : Nat} {d : D} (h : ds[k]? = some d) : (enumD ds)[k]? = some (.tuple [.int (k : Nat), d]) := by
  unfold enumD
  rw [List.getElem?_map, List.getElem?_zipIdx, h]
  simp
theorem enumD_len {ds : List D} : (enumD ds).length = ds.length := by unfold enumD; simp
theorem dv_pair {B1 : Hp} {t : Addr} {v1 v2 : V} {d1 d2 : D} (e : Same B1 H) (hn : H t = none) (h1 : Dv K B1 v1 d1) (h2 : Dv K B1 v2 d2) : Ext B1 H (upd B1 t (.tup [v1, v2])) (upd H t (.tup [v1, v2])) ∧ Dv K (upd B1 t (.tup [v1, v2])) (.ref t) (.tuple [d1, d2]) := by
  have sb : Same B1 (upd B1 t (.tup [v1, v2])) := same_upd (e.free hn) _
  exact ⟨Ext.new1 e hn _, .tup (.of upd_same) (.cons (h1.mono sb) (.cons (h2.mono sb) .nil))⟩
theorem walk_enumL {a : Addr} {vs : List V} {ds : List D} (h : B a = some (.lst vs)) (t : DvAll K B vs ds) : Walk K B B (Ite K a) (enumD ds) where
  go := fun k H e hk => by
    rw [enumD_len] at hk
    obtain ⟨v, h1, _⟩ := t.get (List.getElem?_eq_getElem hk)
    exact ⟨vs, v, SqL_eq h e, h1⟩
  stop := fun k H e hk => ⟨vs, SqL_eq h e, by rw [enumD_len] at hk; rw [t.length]; exact hk⟩
  yld := fun k H x H' B1 b1 e' _ y hk => by
    rw [enumD_len] at hk
    obtain ⟨T, w, rfl, hT, rfl, hw⟩ := y
    have hd := List.getElem?_eq_getElem hk
    obtain ⟨v, h1, h2⟩ := t.get hd
    have := hw vs (SqL_eq h (b1.trans e'))
    rw [h1] at this
    cases this
    obtain ⟨x1, x2⟩ := dv_pair (K := K) e' hT (.int (k : Nat)) (h2.mono b1)
    exact ⟨_, _, enumD_get hd, x1, x2⟩
theorem walk_enumT {a : Addr} {vs : List V} {ds : List D} (h : SqT K B a vs) (t : DvAll K B vs ds) : Walk K B B (IteT K a) (enumD ds) where
  go := fun k H e hk => by
    rw [enumD_len] at hk
    obtain ⟨v, h1, _⟩ := t.get (List.getElem?_eq_getElem hk)
    exact ⟨vs, v, Le.tup e h, h1⟩
  stop := fun k H e hk => ⟨vs, Le.tup e h, by rw [enumD_len] at hk; rw [t.length]; exact hk⟩
  yld := fun k H x H' B1 b1 e' _ y hk => by
    rw [enumD_len] at hk
    obtain ⟨T, w, rfl, hT, rfl, hw⟩ := y
    have hd := List.getElem?_eq_getElem hk
    obtain ⟨v, h1, h2⟩ := t.get hd
    have := hw vs (Le.tup (b1.trans e') h)
    rw [h1] at this
    cases this
    obtain ⟨x1, x2⟩ := dv_pair (K := K) e' hT (.int (k : Nat)) (h2.mono b1)
    exact ⟨_, _, enumD_get hd, x1, x2⟩
theorem tw_enum {tg e : Expr} (h : PI X tg e (iEnumA C.K (L2.tCons (tS C eva pa) L2.tNil))) : PI X tg e (tW C (fun ρ => (eva ρ).bind fun d ρ => R.of ((itemsD d).map enumD) ρ) pa) := PI.imp h fun σ H Rr ⟨ρ, B, G, fp, r, q⟩ => by
  have q : Post C B G H σ pa _ _ := q
  refine ⟨ρ, B, G, fp, r, (q.bind (pu1 := pa) (pu2 := true) (by simp)).mono fun d B1 G1 H1 fp1 ρ1 _ _ r1 k v hv => ?_⟩
  obtain ⟨es, e1, k⟩ := Post.of_some k
  have k := k B1 G1 H1 fp1 .refl (fun _ => Same.refl _) r1
  cases d with
  | list ds =>
    simp only [itemsD, Option.map_some, Option.some.injEq] at e1
    subst e1
    cases hv with
    | lst h0 t => exact ⟨_, rfl, .inl ⟨_, SqL_eq h0 r1.bh, k _ (walk_enumL h0 t)⟩⟩
  | tuple ds =>
    simp only [itemsD, Option.map_some, Option.some.injEq] at e1
    subst e1
    cases hv with
    | tup h0 t => exact ⟨_, rfl, .inr ⟨_, Le.tup r1.bh h0, k _ (walk_enumT h0 t)⟩⟩
  | _ => simp [itemsD] at e1
/-! ### zip -/
theorem zipD_get {as bs : List D} {k : Nat} {a b : D} (h1 : as[k]? = some a) (h2 : bs[k]? = some b) : (zipD as bs)[k]? = some (.tuple [a, b]) := by
  unfold zipD
  rw [List.getElem?_map, List.getElem?_zip_eq_some (z := (a, b)) |>.mpr ⟨h1, h2⟩]
  rfl
theorem zipD_len {as bs : List D} : (zipD as bs).length = min as.length bs.length := by unfold zipD; rw [List.length_map, List.length_zip]
theorem walk_zipL {a b : Addr} {vs us : List V} {ds es : List D} (h : B a = some (.lst vs)) (t : DvAll K B vs ds) (h2 : B b = some (.lst us)) (t2 : DvAll K B us es) : Walk K B B (Itz K a b) (zipD ds es) where
  go := fun k H e hk => by
    rw [zipD_len] at hk
    obtain ⟨v, q1, _⟩ := t.get (List.getElem?_eq_getElem (show k < ds.length by omega))
    obtain ⟨u, q2, _⟩ := t2.get (List.getElem?_eq_getElem (show k < es.length by omega))
    exact ⟨vs, us, v, u, SqL_eq h e, SqL_eq h2 e, q1, q2⟩
  stop := fun k H e hk => ⟨vs, us, SqL_eq h e, SqL_eq h2 e, by rw [zipD_len] at hk; rw [t.length, t2.length]; omega⟩
  yld := fun k H x H' B1 b1 e' _ y hk => by
    rw [zipD_len] at hk
    obtain ⟨W, w1, w2, rfl, hW, rfl, q1, q2⟩ := y
    have g1 := List.getElem?_eq_getElem (show k < ds.length by omega)
    have g2 := List.getElem?_eq_getElem (show k < es.length by omega)
    obtain ⟨v, p1, p2⟩ := t.get g1
    obtain ⟨u, p3, p4⟩ := t2.get g2
    have z1 := q1 vs (SqL_eq h (b1.trans e'))
    have z2 := q2 us (SqL_eq h2 (b1.trans e'))
    rw [p1] at z1; cases z1
    rw [p3] at z2; cases z2
    obtain ⟨x1, x2⟩ := dv_pair (K := K) e' hW (p2.mono b1) (p4.mono b1)
    exact ⟨_, _, zipD_get g1 g2, x1, x2⟩
theorem walk_zipT {a b : Addr} {vs us : List V} {ds es : List D} (h : SqT K B a vs) (t : DvAll K B vs ds) (h2 : SqT K B b us) (t2 : DvAll K B us es) : Walk K B B (RZ.ItzT K a b) (zipD ds es) where
  go := fun k H e hk => by
    rw [zipD_len] at hk
    obtain ⟨v, q1, _⟩ := t.get (List.getElem?_eq_getElem (show k < ds.length by omega))
    obtain ⟨u, q2, _⟩ := t2.get (List.getElem?_eq_getElem (show k < es.length by omega))
    exact ⟨vs, us, v, u, Le.tup e h, Le.tup e h2, q1, q2⟩
  stop := fun k H e hk => ⟨vs, us, Le.tup e h, Le.tup e h2, by rw [zipD_len] at hk; rw [t.length, t2.length]; omega⟩
  yld := fun k H x H' B1 b1 e' _ y hk => by
    rw [zipD_len] at hk
    obtain ⟨W, w1, w2, rfl, hW, rfl, q1, q2⟩ := y
    have g1 := List.getElem?_eq_getElem (show k < ds.length by omega)
    have g2 := List.getElem?_eq_getElem (show k < es.length by omega)
    obtain ⟨v, p1, p2⟩ := t.get g1
    obtain ⟨u, p3, p4⟩ := t2.get g2
    have z1 := q1 vs (Le.tup (b1.trans e') h)
    have z2 := q2 us (Le.tup (b1.trans e') h2)
    rw [p1] at z1; cases z1
    rw [p3] at z2; cases z2
    obtain ⟨x1, x2⟩ := dv_pair (K := K) e' hW (p2.mono b1) (p4.mono b1)
    exact ⟨_, _, zipD_get g1 g2, x1, x2⟩
theorem tw_zip {tg e : Expr} (h : PI X tg e (RZ.iZipA C.K (L2.tCons (tS C eva pa) (L2.tCons (tS C evb pb) L2.tNil)))) : PI X tg e (tW C (fun ρ => (eva ρ).bind fun x ρ => (evb ρ).bind fun y ρ => match x, y with
    | .list as, .list bs => .ok (zipD as bs) ρ
    | .tuple as, .tuple bs => .ok (zipD as bs) ρ
    | _, _ => .no) (pa && pb)) := PI.imp h fun σ H Rr ⟨ρ, B, G, fp, r, q⟩ => by
  have q : Post C B G H σ (pa && pb) _ _ := q
  refine ⟨ρ, B, G, fp, r, (q.bind (pu1 := pa) (pu2 := pb) rfl).mono fun d B1 G1 H1 fp1 ρ1 _ _ r1 k v hv => ?_⟩
  refine ⟨ρ1, B1, G1, fp1, r1, (k.bind (pu1 := pb) (pu2 := true) (by simp)).mono fun d2 B2 G2 H2 fp2 ρ2 u2 _ r2 k v2 hv2 => ?_⟩
  have hv := hv.mono u2.b
  cases d with
  | list as =>
    cases d2 with
    | list bs =>
      cases hv with
      | lst z1 t1 =>
        cases hv2 with
        | lst z2 t2 => exact ⟨_, _, _, _, rfl, .inl ⟨SqL_eq z1 r2.bh, SqL_eq z2 r2.bh, k B2 G2 H2 fp2 .refl (fun _ => Same.refl _) r2 _ (walk_zipL z1 t1 z2 t2)⟩⟩
    | _ => exact k.elim
  | tuple as =>
    cases d2 with
    | tuple bs =>
      cases hv with
      | tup z1 t1 =>
        cases hv2 with
        | tup z2 t2 => exact ⟨_, _, _, _, rfl, .inr ⟨Le.tup r2.bh z1, Le.tup r2.bh z2, k B2 G2 H2 fp2 .refl (fun _ => Same.refl _) r2 _ (walk_zipT z1 t1 z2 t2)⟩⟩
    | _ => exact k.elim
  | _ => exact k.elim
end
end TV
/-! list(zip(a, b)): the pairs are new objects, the list holds them. -/
namespace TV
open PySem PySem.Spec PyProof.Rows L2
open Sem (wp)
section
variable {prog : Program} {w : World} {A : Around} {E : Value → Shared → Prop} {s : Shared} {z TI TO i1 i2 T : Addr} {f1 f2 : List Addr} {n1 n2 i : Nat} {P1 P2 : Nat → Value → Prop} {St1 St2 : Nat → Heap → Prop} {oT : Obj} {b : Bool}
theorem lz_raw {Q : Value → Shared → Prop} (S : ZipSep2 z TI TO i1 i2 f1 f2) (D1 : Draws prog w A i1 f1 n1 P1 St1) (D2 : Draws prog w A i2 f2 n2 P2 St2)
    (hz : IsZipHeld s.heap z TI TO T b) (hT : s.heap.get? T = some oT) (hTI : IsTupOf2 s.heap TI (.ref i1) (.ref i2)) (st1 : St1 i s.heap) (st2 : St2 i s.heap) (hlt1 : i < n1) (hlt2 : i < n2)
    (hQ : ∀ x1 x2 h' tk, P1 i x1 → P2 i x2 → IsZipHeld h' z TI TO T true → St1 (i + 1) h' → St2 (i + 1) h' → IsTupOf2 h' s.heap.objs.size x1 x2 → h'.objs.size = s.heap.objs.size + 1 →
      (∀ c o, c ≠ z → c ≠ i1 → c ≠ i2 → s.heap.get? c = some o → h'.get? c = some o) → Q (.ref s.heap.objs.size) { s with heap := h', toks := tk }) :
    wpAny (model prog w) A (Builtin.«zip.__next__» ⟨[.ref z], []⟩) (fun fin s' => ∃ v, fin = .done (.ret v) ∧ Q v s') E s := by
  obtain ⟨hp, g, dr, tk0, os0⟩ := s
  show wpAny _ _ (field (.ref z) 2 >>= _) _ _ _; refine wpAny_bind (wpAny_field hz rfl (x := .bool false) rfl ?_)
  show wpAny _ _ (field (.ref z) 3 >>= _) _ _ _; refine wpAny_bind (wpAny_field hz rfl (x := .ref TI) rfl ?_); refine wpAny_bind (wpAny_seqItems hTI rfl ?_)
  show wpAny _ _ (Builtin.SmallTypes.ownedTupleIsFree (.ref z) >>= _) _ _ _; refine wpAny_bind (wpAny_tupleHeld_zip hz hT fun q0 hz0 hs0 => ?_)
  replace hs0 : Heap.SameBut z hp q0 := hs0
  simp only [Bool.false_eq_true, if_false]; refine wpAny_bind ?_
  rw [← Array.forIn_toList]; simp only [List.forIn_cons, List.forIn_nil]
  refine wpAny_bind (wpAny_bind (wpAny_holding ?_)); show wpAny _ _ (Builtin.SmallTypes.nextOf (.ref i1) >>= _) _ _ ⟨q0, g, dr, tk0, os0⟩
  refine wpAny_bind (D1.item i _ _ _ hlt1 (D1.over st1 hs0 S.zf1) fun x1 p1 tk1 hx1 sn1 hp1 => wpAny_pure ?_); replace hp1 : Heap.SameBut i1 q0 p1 := hp1
  refine wpAny_pure ?_; refine wpAny_bind (wpAny_bind (wpAny_holding ?_))
  show wpAny _ _ (Builtin.SmallTypes.nextOf (.ref i2) >>= _) _ _ ⟨p1, g, dr, tk1, os0⟩
  refine wpAny_bind (D2.item i _ _ _ hlt2 (D2.over (D2.over st2 hs0 S.zf2) hp1 S.sep1_2) fun x2 p2 tk2 hx2 sn2 hp2 => wpAny_pure ?_); replace hp2 : Heap.SameBut i2 p1 p2 := hp2
  refine wpAny_pure (wpAny_pure ?_); show wpAny _ _ (newTuple [x1, x2] >>= _) _ _ ⟨p2, g, dr, tk2, os0⟩; refine wpAny_bind (wpAny_newTuple ?_)
  have hsz : p2.objs.size = hp.objs.size := by rw [hp2.1, hp1.1, hs0.1]
  have hz2 : IsZipHeld p2 z TI TO T true := hp2.extBut _ _ S.zi2 (hp1.extBut _ _ S.zi1 hz0)
  have hk : ∀ c o, c ≠ z → c ≠ i1 → c ≠ i2 → hp.get? c = some o → p2.get? c = some o := fun c o cz c1 c2 e => hp2.extBut _ _ c2 (hp1.extBut _ _ c1 (hs0.extBut _ _ cz e))
  have up : ∀ c o, p2.get? c = some o → (p2.push { cls := .type "tuple", data := .seq #[x1, x2] }).get? c = some o := fun c o e => Heap.get?_push_of_some _ e
  have hp : IsTupOf2 (p2.push { cls := .type "tuple", data := .seq #[x1, x2] }) p2.objs.size x1 x2 := Heap.get?_push_size _ rfl
  have hz4 : (p2.push { cls := .type "tuple", data := .seq #[x1, x2] }).objs.size = p2.objs.size + 1 := Heap.size_push ..
  refine wpAny_pure ⟨_, rfl, ?_⟩; show Q (.ref p2.objs.size) _
  rw [hsz] at hp hz4 ⊢
  exact hQ x1 x2 _ tk2 hx1 hx2 (up _ _ hz2) (D1.frame _ _ _ (D1.over sn1 hp2 S.sep2_1) fun c _ o e => up c o e) (D2.frame _ _ _ sn2 fun c _ o e => up c o e) hp hz4 fun c o cz c1 c2 e => up c o (hk c o cz c1 c2 e)
theorem lz_item {Q : Option Value → Shared → Prop} (S : ZipSep2 z TI TO i1 i2 f1 f2) (D1 : Draws prog w A.in1 i1 f1 n1 P1 St1) (D2 : Draws prog w A.in1 i2 f2 n2 P2 St2)
    (hz : IsZipHeld s.heap z TI TO T b) (hT : s.heap.get? T = some oT) (hTI : IsTupOf2 s.heap TI (.ref i1) (.ref i2)) (st1 : St1 i s.heap) (st2 : St2 i s.heap) (hlt1 : i < n1) (hlt2 : i < n2)
    (hQ : ∀ x1 x2 h' tk, P1 i x1 → P2 i x2 → IsZipHeld h' z TI TO T true → St1 (i + 1) h' → St2 (i + 1) h' → IsTupOf2 h' s.heap.objs.size x1 x2 → h'.objs.size = s.heap.objs.size + 1 →
      (∀ c o, c ≠ z → c ≠ i1 → c ≠ i2 → s.heap.get? c = some o → h'.get? c = some o) → Q (some (.ref s.heap.objs.size)) { s with heap := h', toks := tk }) :
    wpAny (model prog w) A (pyNext (.ref z)) Q E s := by
  have hTy : s.TypeIs (.ref z) "zip" := ⟨_, hz, rfl⟩
  unfold pyNext; refine wpAny_bind (wpAny_attempt (wpAny_callSpecial?_slot (name := Str.ofString "__next__") hTy F.slot_zip_next (wpAny_call_entry F.slot_zip_next hTy F.entry_zip_next ?_ (F.args_zip_next_1 _))))
  exact lz_raw S D1 D2 hz hT hTI st1 st2 hlt1 hlt2 fun x1 x2 h' tk y1 y2 b1 d1 d2 b5 b6 b7 => wpAny_pure (hQ x1 x2 h' tk y1 y2 b1 d1 d2 b5 b6 b7)
theorem lz_rawEnd {Q : Fin → Shared → Prop} (S : ZipSep2 z TI TO i1 i2 f1 f2) (D1 : Draws prog w A i1 f1 n1 P1 St1) (D2 : Draws prog w A i2 f2 n2 P2 St2)
    (hz : IsZipHeld s.heap z TI TO T b) (hT : s.heap.get? T = some oT) (hTI : IsTupOf2 s.heap TI (.ref i1) (.ref i2)) (st1 : St1 i s.heap) (st2 : St2 i s.heap) (hle1 : i ≤ n1) (hle2 : i ≤ n2) (hend : i = n1 ∨ i = n2)
    (hE : ∀ h' tk e, (∀ c o, c ≠ z → c ≠ i1 → c ≠ i2 → s.heap.get? c = some o → h'.get? c = some o) → (∃ o, h'.get? e = some o ∧ o.cls = .type "StopIteration") → E (.ref e) { s with heap := h', toks := tk }) :
    wpAny (model prog w) A (Builtin.«zip.__next__» ⟨[.ref z], []⟩) Q E s := by
  obtain ⟨hp, g, dr, tk0, os0⟩ := s
  show wpAny _ _ (field (.ref z) 2 >>= _) _ _ _; refine wpAny_bind (wpAny_field hz rfl (x := .bool false) rfl ?_)
  show wpAny _ _ (field (.ref z) 3 >>= _) _ _ _; refine wpAny_bind (wpAny_field hz rfl (x := .ref TI) rfl ?_); refine wpAny_bind (wpAny_seqItems hTI rfl ?_)
  show wpAny _ _ (Builtin.SmallTypes.ownedTupleIsFree (.ref z) >>= _) _ _ _; refine wpAny_bind (wpAny_tupleHeld_zip hz hT fun q0 hz0 hs0 => ?_)
  replace hs0 : Heap.SameBut z hp q0 := hs0
  simp only [Bool.false_eq_true, if_false]; refine wpAny_bind ?_
  rw [← Array.forIn_toList]; simp only [List.forIn_cons, List.forIn_nil]
  refine wpAny_bind (wpAny_bind (wpAny_holding ?_)); show wpAny _ _ (Builtin.SmallTypes.nextOf (.ref i1) >>= _) _ _ ⟨q0, g, dr, tk0, os0⟩
  by_cases hlt1 : i < n1
  · have hi2 : i = n2 := by omega
    refine wpAny_bind (D1.item i _ _ _ hlt1 (D1.over st1 hs0 S.zf1) fun x1 p1 tk1 hx1 sn1 hp1 => wpAny_pure ?_); replace hp1 : Heap.SameBut i1 q0 p1 := hp1
    refine wpAny_pure ?_; refine wpAny_bind (wpAny_bind (wpAny_holding ?_))
    show wpAny _ _ (Builtin.SmallTypes.nextOf (.ref i2) >>= _) _ _ ⟨p1, g, dr, tk1, os0⟩
    refine wpAny_bind (D2.done ⟨p1, g, dr, tk1, os0⟩ _ _ (by rw [← hi2]; exact D2.over (D2.over st2 hs0 S.zf2) hp1 S.sep1_2) fun q e hq he => ?_)
    exact hE q tk1 e (fun c o cz c1 c2 x => hq _ _ c2 (hp1.extBut _ _ c1 (hs0.extBut _ _ cz x))) he
  · have hi1 : i = n1 := by omega
    refine wpAny_bind (D1.done ⟨q0, g, dr, tk0, os0⟩ _ _ (by rw [← hi1]; exact D1.over st1 hs0 S.zf1) fun q e hq he => ?_)
    exact hE q tk0 e (fun c o cz c1 c2 x => hq _ _ c1 (hs0.extBut _ _ cz x)) he
theorem lz_end {Q : Option Value → Shared → Prop} (S : ZipSep2 z TI TO i1 i2 f1 f2) (D1 : Draws prog w A.in1 i1 f1 n1 P1 St1) (D2 : Draws prog w A.in1 i2 f2 n2 P2 St2)
    (hz : IsZipHeld s.heap z TI TO T b) (hT : s.heap.get? T = some oT) (hTI : IsTupOf2 s.heap TI (.ref i1) (.ref i2)) (st1 : St1 i s.heap) (st2 : St2 i s.heap) (hle1 : i ≤ n1) (hle2 : i ≤ n2) (hend : i = n1 ∨ i = n2)
    (hQ : ∀ h' tk, (∀ c o, c ≠ z → c ≠ i1 → c ≠ i2 → s.heap.get? c = some o → h'.get? c = some o) → Q none { s with heap := h', toks := tk }) : wpAny (model prog w) A (pyNext (.ref z)) Q E s := by
  have hTy : s.TypeIs (.ref z) "zip" := ⟨_, hz, rfl⟩
  unfold pyNext; refine wpAny_bind (wpAny_attempt (wpAny_callSpecial?_slot (name := Str.ofString "__next__") hTy F.slot_zip_next (wpAny_call_entry F.slot_zip_next hTy F.entry_zip_next ?_ (F.args_zip_next_1 _))))
  refine lz_rawEnd S D1 D2 hz hT hTI st1 st2 hle1 hle2 hend fun h' tk e hk he => ?_
  obtain ⟨o, ho, hc⟩ := he; refine wpAny_bind (wpAny_isInstance (T := "StopIteration") (b := true) ⟨o, ho, hc⟩ isSubtype_stop ?_); exact wpAny_pure (hQ _ _ hk)
theorem lz_nolen : typeLookup (.type "zip") "__len__" = pure none := by rw [typeLookup_type, builtinLookup_eq_fast]; kernel_rfl
theorem lz_nohint : typeLookup (.type "zip") "__length_hint__" = pure none := by rw [typeLookup_type, builtinLookup_eq_fast]; kernel_rfl
/-- the state ahead of a turn -/
structure LzAt (S0 z TI TO i1 i2 : Addr) (St1 St2 : Nat → Heap → Prop) (i : Nat) (acc : Array Value) (h : Heap) : Prop where
  lst : ∃ c, h.get? S0 = some { cls := .type "list", dict := none, data := .seq acc c, slots := #[] }
  ti : IsTupOf2 h TI (.ref i1) (.ref i2)
  s1 : St1 i h
  s2 : St2 i h
  to : ∃ o, h.get? TO = some o
  zz : (IsZip h z TI TO .none ∧ ∃ a1 a2, IsTupOf2 h TO a1 a2) ∨ ∃ T b oT, IsZipHeld h z TI TO T b ∧ h.get? T = some oT ∧ T ≠ z ∧ T ≠ i1 ∧ T ≠ i2 ∧ T ≠ S0
/-- new pairs, one behind another -/
inductive Prs : List (V × V) → List V → Hp → Hp → Prop where
  | nil {H : Hp} : Prs [] [] H H
  | cons {p : Addr} {x y : V} {r : List (V × V)} {ps : List V} {H H2 : Hp} : H p = none → Prs r ps (upd H p (.tup [x, y])) H2 → Prs ((x, y) :: r) (.ref p :: ps) H H2
end
section
theorem upd_swap {H : Hp} {a b : Addr} {o u : HO} (h : a ≠ b) : upd (upd H a o) b u = upd (upd H b u) a o := by
  funext c; unfold upd
  by_cases h1 : c = a
  · by_cases h2 : c = b
    · exact absurd (h1.symm.trans h2) h
    · simp [h1, h]
  · simp [h1]
variable {X : Cx} {pins : List (Addr × Obj)} {σ : L2.St} {A : Around} {S0 z TI TO i1 i2 : Addr} {f1 f2 : List Addr} {St1 St2 : Nat → Heap → Prop} {its1 its2 : List Value} {R : Result → Shared → Prop}
theorem lz_loop (hh : A.handled = none) (S : ZipSep2 z TI TO i1 i2 f1 f2) (D1 : ∀ A : Around, A.handled = none → Draws X.prog X.w A i1 f1 its1.length (fun i v => its1[i]? = some v) St1) (D2 : ∀ A : Around, A.handled = none → Draws X.prog X.w A i2 f2 its2.length (fun i v => its2[i]? = some v) St2)
    (n1 : S0 ≠ z ∧ S0 ≠ TI ∧ S0 ≠ TO ∧ S0 ≠ i1 ∧ S0 ≠ i2) (n2 : S0 ∉ f1 ∧ S0 ∉ f2) (res : Value) {xs ys : List V} (rx : Vals xs its1) (ry : Vals ys its2) (hlim : min its1.length its2.length ≤ sizeLine) :
    ∀ (k i : Nat) (s : Shared) (H : Hp) (acc : List V) (accU : Array Value), min its1.length its2.length - i = k → i ≤ min its1.length its2.length → H S0 = none → Inv X pins σ (upd H S0 (.lst acc)) s → (∀ c ∈ [z, TO, i1, i2], FpOk X pins (upd H S0 (.lst acc)) c) → LzAt S0 z TI TO i1 i2 St1 St2 i accU s.heap → Vals acc accU.toList → acc.length = i →
    (∀ s' H' ps, H' S0 = none → Inv X pins σ (upd H' S0 (.lst (acc ++ ps))) s' → Prs ((xs.zip ys).drop i) ps H H' → R (.ok (.ret res)) s') →
    codeAny (model X.prog X.w) A (.builtin "list.extend.loop" ⟨[.ref S0, .ref z, res], []⟩) R s := by
  have l1 := rx.length
  have l2 := ry.length
  intro k
  induction k with
  | zero =>
    intro i s H acc accU hk hi hn I hf st hv ha hR
    obtain ⟨⟨c, hS⟩, hTI, s1, s2, ⟨oO, hO⟩, hz⟩ := st
    refine codeAny_builtin F.entry_extend_loop ?_; rw [Around.under_plainId F.plain_extend_loop _]
    show wpAny _ A.in1 (pyNext (.ref z) >>= _) _ _ s; refine wpAny_bind ?_
    have hd : (xs.zip ys).drop i = [] := List.drop_eq_nil_of_le (by rw [List.length_zip]; omega)
    have fin : ∀ h' tk, (∀ c o, c ≠ z → c ≠ TO → c ≠ i1 → c ≠ i2 → s.heap.get? c = some o → h'.get? c = some o) → R (.ok (.ret res)) { s with heap := h', toks := tk } := fun h' tk hk => by
      refine hR _ H [] hn ?_ (by rw [hd]; exact .nil)
      rw [List.append_nil]
      exact I.turnedL (t' := tk) (ch := [z, TO, i1, i2]) (fun b o hb e => hk b o (fun q => hb (by simp [q])) (fun q => hb (by simp [q])) (fun q => hb (by simp [q])) (fun q => hb (by simp [q])) e) hf
    rcases hz with ⟨hz, a1, a2, hTO⟩ | ⟨T, b, oT, hz, hT, r1, r2, r3, r4⟩
    · exact wpAny_pyNext_zipD2_end S (D1 _ hh) (D2 _ hh) hz hTI hTO s1 s2 (by omega) (by omega) (by omega) fun h' tk hk => wpAny_pure (fin h' tk hk)
    · exact lz_end S (D1 _ hh) (D2 _ hh) hz hT hTI s1 s2 (by omega) (by omega) (by omega) fun h' tk hk => wpAny_pure (fin h' tk fun c o a _ b' c' e => hk c o a b' c' e)
  | succ k ih =>
    intro i s H acc accU hk hi hn I hf st hv ha hR
    obtain ⟨⟨c, hS⟩, hTI, s1, s2, ⟨oO, hO⟩, hz⟩ := st
    have j1 : i < its1.length := by omega
    have j2 : i < its2.length := by omega
    have hvl : accU.size = i := by
      have h9 : accU.toList.length = acc.length := hv.length.symm
      rw [Array.length_toList] at h9
      rw [h9, ha]
    refine codeAny_builtin F.entry_extend_loop ?_; rw [Around.under_plainId F.plain_extend_loop _]
    show wpAny _ A.in1 (pyNext (.ref z) >>= _) _ _ s; refine wpAny_bind ?_
    have lt : ∀ {c o}, s.heap.get? c = some o → s.heap.objs.size ≠ c := fun e => Nat.ne_of_gt (Heap.lt_size e)
    have t1 : s.heap.objs.size ≠ i1 := by obtain ⟨_, e⟩ := (D1 A hh).live _ _ s1; exact lt e
    have t2 : s.heap.objs.size ≠ i2 := by obtain ⟨_, e⟩ := (D2 A hh).live _ _ s2; exact lt e
    have tS : s.heap.objs.size ≠ S0 := lt hS
    have go : s.heap.objs.size ≠ z → ∀ x1 x2 h' tk, its1[i]? = some x1 → its2[i]? = some x2 → (∀ c o, c ≠ z → c ≠ TO → c ≠ i1 → c ≠ i2 → s.heap.get? c = some o → h'.get? c = some o) → IsTupOf2 h' TI (.ref i1) (.ref i2) → (∃ o, h'.get? TO = some o) → IsTupOf2 h' s.heap.objs.size x1 x2 → St1 (i + 1) h' → St2 (i + 1) h' →
        ((∃ T b oT, IsZipHeld h' z TI TO T b ∧ h'.get? T = some oT ∧ T ≠ z ∧ T ≠ i1 ∧ T ≠ i2 ∧ T ≠ S0)) →
        wpAny (model X.prog X.w) A.in1 (updateSeq S0 (·.push (.ref s.heap.objs.size)) >>= fun _ => again (.builtin "list.extend.loop" ⟨[.ref S0, .ref z, res], []⟩)) (fun fin s' => match fin with | .done f => R (.ok f) s' | .again c' => c'.quiet = true ∧ codeAny (model X.prog X.w) A c' R s') (fun e s' => R (.error e) s') { s with heap := h', toks := tk } := fun tz x1 x2 h' tk e1 e2 hk hTI' hOk hp d1 d2 ⟨T, b, oT, hz, hT, r1, r2, r3, r4⟩ => by
      have hS' := hk S0 _ n1.1 n1.2.2.1 n1.2.2.2.1 n1.2.2.2.2 hS
      have g1 : i < xs.length := by omega
      have g2 : i < ys.length := by omega
      obtain ⟨u1, w1, ru1⟩ := rx.get (List.getElem?_eq_getElem g1)
      obtain ⟨u2, w2, ru2⟩ := ry.get (List.getElem?_eq_getElem g2)
      rw [e1] at w1; cases w1
      rw [e2] at w2; cases w2
      have hd : (xs.zip ys).drop i = (xs[i], ys[i]) :: (xs.zip ys).drop (i + 1) := by
        rw [List.drop_eq_getElem_cons (by rw [List.length_zip]; omega), List.getElem_zip]
      have hnT : H s.heap.objs.size = none := by
        have := I.hok.fresh (Nat.le_refl s.heap.objs.size)
        rwa [upd_ne tS] at this
      have new : ObjOk X.prog X.w (upd (upd H S0 (.lst acc)) s.heap.objs.size (.tup [xs[i], ys[i]])) h' s.heap.objs.size (.tup [xs[i], ys[i]]) := ⟨by show 2 ≤ sizeLine; decide, [x1, x2], .cons ru1 (.cons ru2 .nil), ⟨_, hp, rfl, _, rfl⟩⟩
      have I1 : Inv X pins σ (upd (upd H S0 (.lst acc)) s.heap.objs.size (.tup [xs[i], ys[i]])) { s with heap := h', toks := tk } :=
        I.turnedNew (t' := tk) (ch := [z, TO, i1, i2]) (fun b o hb e => hk b o (fun q => hb (by simp [q])) (fun q => hb (by simp [q])) (fun q => hb (by simp [q])) (fun q => hb (by simp [q])) e) hf (Nat.le_refl _) new
      rw [upd_swap (Ne.symm tS)] at I1
      have hup := Heap.get?_update_self (Obj.mapSeq (·.push (.ref s.heap.objs.size))) hS' rfl
      have oth : ∀ b o, b ≠ S0 → h'.get? b = some o → (h'.update S0 (Obj.mapSeq (·.push (.ref s.heap.objs.size)))).get? b = some o := fun b o hb e => (Heap.get?_update_other _ _ (Ne.symm hb)).trans e
      have I2 : Inv X pins σ (upd (upd H s.heap.objs.size (.tup [xs[i], ys[i]])) S0 (.lst (acc ++ [.ref s.heap.objs.size]))) { s with heap := h'.update S0 (Obj.mapSeq (·.push (.ref s.heap.objs.size))), toks := tk } := by
        have := I1.write (x := S0) (e := S0) (o := .lst (acc ++ [.ref s.heap.objs.size])) (h' := h'.update S0 (Obj.mapSeq (·.push (.ref s.heap.objs.size)))) (t' := tk) (by rw [upd_same]; trivial) (.inl rfl) (fun b u hb e => oth b u hb e) ⟨_, hup⟩
          ⟨by rw [List.length_append, ha]; show i + 1 ≤ sizeLine; omega, (accU.push (.ref s.heap.objs.size)).toList, _, by rw [Array.toList_push]; exact hv.append (.cons rfl .nil), by rw [Array.toArray_toList]; exact hup⟩
        rwa [upd_upd] at this
      refine wpAny_bind (wpAny_updateSeq hS' rfl (wpAny_pure ⟨plainId_quiet F.plain_extend_loop _, ih (i + 1) _ (upd H s.heap.objs.size (.tup [xs[i], ys[i]])) (acc ++ [.ref s.heap.objs.size]) (accU.push (.ref s.heap.objs.size)) (by omega) (by omega) (by rw [upd_ne (Ne.symm tS)]; exact hn) I2 (fun c hc => ?_) ?_ (by rw [Array.toList_push]; exact hv.append (.cons rfl .nil)) (by rw [List.length_append, ha]; rfl) fun s' H' ps hn' I' pr => ?_⟩) (by rw [hvl]; omega) (by show (accU.push _).size ≤ sizeLine + 1; rw [Array.size_push, hvl]; omega))
      · obtain ⟨q1, q2⟩ := hf c hc
        refine ⟨?_, q2⟩
        have cz : s.heap.objs.size ≠ c := by
          have hc' : c = z ∨ c = TO ∨ c = i1 ∨ c = i2 := by simpa using hc
          rcases hc' with rfl | rfl | rfl | rfl
          · exact tz
          · exact lt hO
          · exact t1
          · exact t2
        have cS : c ≠ S0 := fun q => by rw [q, upd_same] at q1; cases q1
        rw [upd_ne cS] at q1 ⊢
        rw [upd_ne (Ne.symm cz)]; exact q1
      · obtain ⟨oO', hO'⟩ := hOk
        exact ⟨⟨_, hup⟩, oth _ _ (Ne.symm n1.2.1) hTI', (D1 A hh).frame _ _ _ d1 fun b hb o e => oth b o (fun q => n2.1 (q ▸ hb)) e, (D2 A hh).frame _ _ _ d2 fun b hb o e => oth b o (fun q => n2.2 (q ▸ hb)) e, ⟨oO', oth _ _ (Ne.symm n1.2.2.1) hO'⟩, .inr ⟨T, b, oT, oth _ _ (Ne.symm n1.1) hz, oth _ _ r4 hT, r1, r2, r3, r4⟩⟩
      · refine hR s' H' (.ref s.heap.objs.size :: ps) hn' (by rw [List.append_assoc] at I'; exact I') ?_
        rw [hd]; exact .cons hnT pr
    rcases hz with ⟨hz, a1, a2, hTO⟩ | ⟨T, b, oT, hz, hT, r1, r2, r3, r4⟩
    · have tz := lt hz
      refine wpAny_pyNext_zipD2_item S (D1 _ hh) (D2 _ hh) hz hTI hTO s1 s2 j1 j2 fun x1 x2 h' tk e1 e2 b1 b2 d1 d2 b5 b6 hk' => ?_
      exact go tz x1 x2 h' tk e1 e2 hk' (hk' _ _ S.TIz S.TITO S.TIi1 S.TIi2 hTI) ⟨_, b2⟩ b5 d1 d2 ⟨_, false, _, b1, b5, tz, t1, t2, tS⟩
    · have tz := lt hz
      refine lz_item S (D1 _ hh) (D2 _ hh) hz hT hTI s1 s2 j1 j2 fun x1 x2 h' tk e1 e2 b1 d1 d2 b5 b6 hk' => ?_
      exact go tz x1 x2 h' tk e1 e2 (fun c o a _ b' c' e => hk' c o a b' c' e) (hk' _ _ S.TIz S.TIi1 S.TIi2 hTI) ⟨_, hk' _ _ S.TOz S.Ti1 S.Ti2 hO⟩ b5 d1 d2 ⟨T, true, oT, b1, hk' _ _ r1 r2 r3 hT, r1, r2, r3, r4⟩
/-- list(z): the list is there, empty -/
theorem lz_init (hh : A.handled = none) (S : ZipSep2 z TI TO i1 i2 f1 f2) (D1 : ∀ A : Around, A.handled = none → Draws X.prog X.w A i1 f1 its1.length (fun i v => its1[i]? = some v) St1) (D2 : ∀ A : Around, A.handled = none → Draws X.prog X.w A i2 f2 its2.length (fun i v => its2[i]? = some v) St2)
    (n1 : S0 ≠ z ∧ S0 ≠ TI ∧ S0 ≠ TO ∧ S0 ≠ i1 ∧ S0 ≠ i2) (n2 : S0 ∉ f1 ∧ S0 ∉ f2) {xs ys : List V} (rx : Vals xs its1) (ry : Vals ys its2) (hlim : min its1.length its2.length ≤ sizeLine)
    {s : Shared} {H : Hp} (hn : H S0 = none) (I : Inv X pins σ (upd H S0 (.lst [])) s) (hf : ∀ c ∈ [z, TO, i1, i2], FpOk X pins (upd H S0 (.lst [])) c) (hS : s.heap.get? S0 = some { cls := .type "list", data := .seq #[] })
    (hz : IsZip s.heap z TI TO .none) (hTI : IsTupOf2 s.heap TI (.ref i1) (.ref i2)) (hTO : ∃ a1 a2, IsTupOf2 s.heap TO a1 a2) (s1 : St1 0 s.heap) (s2 : St2 0 s.heap)
    (hR : ∀ s' H' ps, H' S0 = none → Inv X pins σ (upd H' S0 (.lst ps)) s' → Prs (xs.zip ys) ps H H' → R (.ok (.ret .none)) s') :
    wpAny (model X.prog X.w) A.in1 (Builtin.«list.__init__» ⟨[.ref S0, .ref z], []⟩) (fun fin s' => match fin with | .done f => R (.ok f) s' | .again c' => c'.quiet = true ∧ codeAny (model X.prog X.w) A c' R s') (fun e s' => R (.error e) s') s := by
  show wpAny _ A.in1 (do let old ← Builtin.List.listItems (.ref S0); Builtin.List.listUpdate (.ref S0) (fun _ => #[]); letGo old.toList.reverse; Builtin.List.listExtendWith (.ref S0) (.ref z) .none) _ _ s
  refine wpAny_bind ?_; unfold Builtin.List.listItems; refine wpAny_bind (wpAny_seqItems hS rfl (wpAny_pure ?_))
  show wpAny _ A.in1 (updateSeq S0 (fun _ => #[]) >>= fun _ => letGo (#[] : Array Value).toList.reverse >>= fun _ => Builtin.List.listExtendWith (.ref S0) (.ref z) .none) _ _ s
  refine wpAny_bind (wpAny_updateSeq hS rfl ?_)
  have hS2 := Heap.get?_update_self (Obj.mapSeq (fun _ => (#[] : Array Value))) hS rfl
  have ot : ∀ b o, b ≠ S0 → s.heap.get? b = some o → (s.heap.update S0 (Obj.mapSeq (fun _ => (#[] : Array Value)))).get? b = some o := fun b o hb e => (Heap.get?_update_other _ _ (Ne.symm hb)).trans e
  refine wpAny_bind (wpAny_letGo ?_)
  have tyZ : ∀ {s' : Shared}, s'.heap.get? z = some { cls := .type "zip", dict := none, data := .fields #[.none, .bool false, .bool false, .ref TI, .ref TO], slots := #[] } → s'.TypeIs (.ref z) "zip" := fun e => ⟨_, e, rfl⟩
  have hz2 := ot _ _ (Ne.symm n1.1) hz
  unfold Builtin.List.listExtendWith
  refine wpAny_bind (wpAny_typeOf (tyZ hz2) ?_)
  have b1 : Builtin.List.listSameRef (.ref S0) (.ref z) = false := by simp [Builtin.List.listSameRef, n1.1]
  have b2 : (Value.type "zip" == Value.type "list") = false := by decide
  have b3 : (Value.type "zip" == Value.type "tuple") = false := by decide
  simp only [b1, b2, b3, Bool.or_false, Bool.false_eq_true, if_false]
  refine wpAny_bind (wpAny_pyIter_zip hz2 ?_); refine wpAny_bind (wpAny_holding ?_); unfold Builtin.List.listLengthHint
  refine wpAny_bind (wpAny_specialOf (tyZ hz2) lz_nolen ?_); show wpAny _ A.in1 (specialOf (Value.ref z) (Str.ofString "__length_hint__") >>= _) _ _ _
  refine wpAny_bind (wpAny_specialOf (tyZ hz2) lz_nohint ?_); refine wpAny_pure ?_
  show wpAny _ _ (rule "list.extend.makes-room" >>= fun _ => Builtin.List.listTouch (.ref S0) >>= fun _ => again (.builtin "list.extend.loop" ⟨[.ref S0, .ref z, .none], []⟩)) _ _ _
  refine wpAny_bind (wpAny_rule ?_); refine wpAny_bind ?_
  show wpAny _ _ (updateSeq S0 (·.push .none) >>= fun _ => updateSeq S0 (·.pop)) _ _ _
  refine wpAny_bind (wpAny_updateSeq hS2 rfl ?_)
  have hS3 := Heap.get?_update_self (Obj.mapSeq (·.push Value.none)) hS2 rfl
  refine wpAny_updateSeq (hz := by seq_fits) hS3 rfl ?_
  have hS4 := Heap.get?_update_self (Obj.mapSeq (·.pop)) hS3 rfl
  have ot4 : ∀ b o, b ≠ S0 → s.heap.get? b = some o → (((s.heap.update S0 (Obj.mapSeq (fun _ => (#[] : Array Value)))).update S0 (Obj.mapSeq (·.push Value.none))).update S0 (Obj.mapSeq (·.pop))).get? b = some o := fun b o hb e =>
    (Heap.get?_update_other _ _ (Ne.symm hb)).trans ((Heap.get?_update_other _ _ (Ne.symm hb)).trans (ot b o hb e))
  generalize ((s.heap.update S0 (Obj.mapSeq (fun _ => (#[] : Array Value)))).update S0 (Obj.mapSeq (·.push Value.none))).update S0 (Obj.mapSeq (·.pop)) = h4 at hS4 ot4
  have I4 : Inv X pins σ (upd H S0 (.lst [])) { s with heap := h4 } := by
    have := I.write (x := S0) (e := S0) (o := .lst []) (h' := h4) (t' := s.toks) (by rw [upd_same]; trivial) (.inl rfl) (fun b u hb e => ot4 b u hb e) ⟨_, hS4⟩ ⟨Nat.zero_le _, [], _, .nil, hS4⟩
    rwa [upd_upd] at this
  obtain ⟨a1, a2, hTO⟩ := hTO
  refine wpAny_pure ⟨plainId_quiet F.plain_extend_loop _, lz_loop hh S D1 D2 n1 n2 .none rx ry hlim _ 0 _ H [] #[] rfl (Nat.zero_le _) hn I4 hf ⟨⟨_, hS4⟩, ot4 _ _ (Ne.symm n1.2.1) hTI, (D1 A hh).frame _ _ _ s1 fun b hb o e => ot4 b o (fun q => n2.1 (q ▸ hb)) e, (D2 A hh).frame _ _ _ s2 fun b hb o e => ot4 b o (fun q => n2.2 (q ▸ hb)) e, ⟨_, ot4 _ _ (Ne.symm n1.2.2.1) hTO⟩, .inl ⟨ot4 _ _ (Ne.symm n1.1) hz, a1, a2, ot4 _ _ (Ne.symm n1.2.2.1) hTO⟩⟩ .nil rfl fun s' H' ps hn' I' pr => ?_⟩
  exact hR s' H' ps hn' I' (by simpa using pr)
/-- list(z) -/
theorem lz_call {s : Shared} {H : Hp} {Q : Value → Shared → Prop} {E : Value → Shared → Prop} (hh : A.handled = none) (S : ZipSep2 z TI TO i1 i2 f1 f2) (D1 : ∀ A : Around, A.handled = none → Draws X.prog X.w A i1 f1 its1.length (fun i v => its1[i]? = some v) St1) (D2 : ∀ A : Around, A.handled = none → Draws X.prog X.w A i2 f2 its2.length (fun i v => its2[i]? = some v) St2)
    {xs ys : List V} (rx : Vals xs its1) (ry : Vals ys its2) (hlim : min its1.length its2.length ≤ sizeLine) (I : Inv X pins σ H s) (hf : ∀ c ∈ [z, TO, i1, i2], FpOk X pins H c) (lv : (∀ c ∈ f1, c < s.heap.objs.size) ∧ ∀ c ∈ f2, c < s.heap.objs.size)
    (hz : IsZip s.heap z TI TO .none) (hTI : IsTupOf2 s.heap TI (.ref i1) (.ref i2)) (hTO : ∃ a1 a2, IsTupOf2 s.heap TO a1 a2) (s1 : St1 0 s.heap) (s2 : St2 0 s.heap)
    (hQ : ∀ s' H' ps, H' s.heap.objs.size = none → Inv X pins σ (upd H' s.heap.objs.size (.lst ps)) s' → Prs (xs.zip ys) ps H H' → Q (.ref s.heap.objs.size) s') :
    wpAny (model X.prog X.w) A (call (.type "list") [.ref z]) Q E s := by
  refine callType_codes (Q₁ := fun ob t => ob = .ref s.heap.objs.size ∧ t = { s with heap := s.heap.push { cls := .type "list", data := .seq #[] } }) F.called_list (F.typeCall_list_1 _) F.entry_list_init (code_list_new _ ⟨rfl, rfl⟩) fun ob t h => ?_
  obtain ⟨rfl, rfl⟩ := h
  have hS : (s.heap.push { cls := .type "list", data := .seq #[] }).get? s.heap.objs.size = some { cls := .type "list", data := .seq #[] } := Heap.get?_push_size _ rfl
  have up : ∀ b o, s.heap.get? b = some o → (s.heap.push { cls := .type "list", data := .seq #[] }).get? b = some o := fun b o e => Heap.get?_push_of_some _ e
  have hn : H s.heap.objs.size = none := I.hok.fresh (Nat.le_refl _)
  have I1 : Inv X pins σ (upd H s.heap.objs.size (.lst [])) { s with heap := s.heap.push { cls := .type "list", data := .seq #[] } } := I.laid (t' := s.toks) up (Nat.le_refl _) ⟨Nat.zero_le _, [], _, .nil, hS⟩
  have lt : ∀ {c o}, s.heap.get? c = some o → s.heap.objs.size ≠ c := fun e => Nat.ne_of_gt (Heap.lt_size e)
  obtain ⟨a1, a2, hTO⟩ := hTO
  have li1 : s.heap.objs.size ≠ i1 := by obtain ⟨_, e⟩ := (D1 A hh).live _ _ s1; exact lt e
  have li2 : s.heap.objs.size ≠ i2 := by obtain ⟨_, e⟩ := (D2 A hh).live _ _ s2; exact lt e
  refine ⟨⟨_, hS, rfl⟩, F.args_list_init_2 _ _, lz_init (A := A.in1) hh S D1 D2 ⟨lt hz, lt hTI, lt hTO, li1, li2⟩ ⟨fun q => absurd (lv.1 _ q) (Nat.lt_irrefl _), fun q => absurd (lv.2 _ q) (Nat.lt_irrefl _)⟩ rx ry hlim hn I1 (fun c hc => ?_) hS (up _ _ hz) (up _ _ hTI) ⟨a1, a2, up _ _ hTO⟩ ((D1 A hh).frame _ _ _ s1 fun b _ o e => up b o e) ((D2 A hh).frame _ _ _ s2 fun b _ o e => up b o e) fun s' H' ps hn' I' pr => ⟨rfl, hQ s' H' ps hn' I' pr⟩⟩
  obtain ⟨q1, q2⟩ := hf c hc
  have hc' : c = z ∨ c = TO ∨ c = i1 ∨ c = i2 := by simpa using hc
  refine ⟨?_, q2⟩
  rw [upd_ne (by rcases hc' with rfl | rfl | rfl | rfl <;> first | exact Ne.symm (lt hz) | exact Ne.symm (lt hTO) | exact Ne.symm li1 | exact Ne.symm li2)]
  exact q1
end
section
variable {X : Cx} {a b : Expr} {ta : TA}
def SqLT (K : PySem.W.Frag) (H : Hp) (a : Addr) (xs : List V) : Prop := SqL K H a xs ∨ SqT K H a xs
def tLz (K : PySem.W.Frag) (ta : TA) : TE := fun σ H Q => ta σ H fun vs H1 => ∃ a b xs ys, vs = [.ref a, .ref b] ∧ SqLT K H1 a xs ∧ SqLT K H1 b ys ∧ min xs.length ys.length ≤ sizeLine ∧ ∀ H2 ps q, Prs (xs.zip ys) ps H1 H2 → H2 q = none → Q (.ref q) (upd H2 q (.lst ps))
/-- how such a thing is walked -/
theorem sq_walk {pins : List (Addr × Obj)} {σ : L2.St} {H : Hp} {s : Shared} (I : Inv X pins σ H s) {a : Addr} {xs : List V} (h : SqLT X.K H a xs) :
    ∃ (its : List Value) (o : Obj) (HB : Heap → Prop) (St : Addr → Nat → Heap → Prop), Vals xs its ∧ Begins (.ref a) o HB ∧ HB s.heap ∧ a < s.heap.objs.size ∧ (∀ (h' : Heap) (it : Addr), h'.get? it = some o → (∀ c o, s.heap.get? c = some o → h'.get? c = some o) → St it 0 h') ∧
      ∀ it : Addr, a ≠ it → ∀ A : Around, A.handled = none → Draws X.prog X.w A it [it, a] its.length (fun i v => its[i]? = some v) (St it) := by
  rcases h with h | h
  · obtain ⟨its, rv, p, _⟩ := I.list h
    have pl : s.heap.IsList a its.toArray := p.isList
    refine ⟨its, _, _, fun it i h => h.IsListIter it a i ∧ h.IsList a its.toArray, rv, begins_list a its.toArray, pl, p.lt, fun h' it e k => ⟨⟨_, e, rfl, rfl⟩, pl.at fun o e => k _ o e⟩, fun it hne A hh => ?_⟩
    have D := Draws.list (prog := X.prog) (w := X.w) (A := A) hh it a hne its.toArray
    simpa using D
  · obtain ⟨its, rv, p, _⟩ := I.tuple h
    have pl : s.heap.IsTuple a its.toArray := p
    obtain ⟨o, e, _⟩ := id p
    refine ⟨its, _, _, fun it i h => h.IsTupleIter it a i ∧ h.IsTuple a its.toArray, rv, begins_tuple a its.toArray, pl, Heap.lt_size e, fun h' it e k => ⟨⟨_, e, rfl, rfl⟩, pl.at fun o e => k _ o e⟩, fun it hne A hh => ?_⟩
    have D := Draws.tuple (prog := X.prog) (w := X.w) (A := A) hh it a hne its.toArray
    simpa using D
theorem sep5 (n a b : Nat) (ha : a < n) (hb : b < n) : ZipSep2 (n + 4) (n + 2) (n + 3) n (n + 1) [n, a] [n + 1, b] := by
  have h1 : n + 2 ≠ n + 4 ∧ n + 3 ≠ n + 4 ∧ n + 2 ≠ n + 3 ∧ n + 2 ≠ n ∧ n + 2 ≠ n + 1 := by omega
  have h2 : n ∈ ([n, a] : List Nat) ∧ n + 4 ∉ ([n, a] : List Nat) ∧ n + 3 ∉ ([n, a] : List Nat) ∧ n + 1 ∈ ([n + 1, b] : List Nat) ∧ n + 4 ∉ ([n + 1, b] : List Nat) ∧ n + 3 ∉ ([n + 1, b] : List Nat) ∧ n ∉ ([n + 1, b] : List Nat) ∧ n + 1 ∉ ([n, a] : List Nat) := by
    simp; omega
  exact ⟨h1.1, h1.2.1, h1.2.2.1, h1.2.2.2.1, h2.1, h2.2.1, h2.2.2.1, h1.2.2.2.2, h2.2.2.2.1, h2.2.2.2.2.1, h2.2.2.2.2.2.1, h2.2.2.2.2.2.2.1, h2.2.2.2.2.2.2.2⟩
theorem cells5 (n c : Nat) (h : c ∈ [n + 4, n + 3, n, n + 1]) : n ≤ c := by simp at h; omega
theorem below5 (n m a b : Nat) (ha : a < n) (hb : b < n) (hm : m = n + 5) : (∀ c ∈ [n, a], c < m) ∧ ∀ c ∈ [n + 1, b], c < m := by
  constructor <;> intro c hc <;> simp at hc <;> omega
theorem ne1 (n b : Nat) (hb : b < n) : b ≠ n + 1 := by omega
theorem pe_lz {p p2 pos pos2 : Pos} (hc : X.calm = true) (hg : Gl X "list") (hm : X.mg "list" = none) (hg2 : Gl X "zip") (hm2 : X.mg "zip" = none) (ha : PA X [a, b] ta)
    (hs : starEach [a, b] X.env = (false, eval a X.env) :: starEach [b] X.env) (hpl : (backTo pos2 (starEach [b] X.env)).any (·.1) = false)
    (hs2 : starEach [.Call (.Name "zip" p2) [a, b] [] pos2] X.env = (false, eval (.Call (.Name "zip" p2) [a, b] [] pos2) X.env) :: starEach [] X.env) :
    PE X (.Call (.Name "list" p) [.Call (.Name "zip" p2) [a, b] [] pos2] [] pos) (tLz X.K ta) := by
  refine ⟨fun pins s σ H Q I h => ?_⟩
  refine Call_ (ld_blt I hg hm boot_list (PyProof.Rows.callWith_type1 (args_cons ?_ hs2) hs2))
  refine Call_ (ld_blt I hg2 hm2 PyProof.Rows.boot_zip (PyProof.Rows.callWith_type1 (thn (ha.run pos2 pins s σ H _ I h) fun us s1 ⟨vs, H1, I1, r1, q1⟩ => ?_) hs hpl))
  obtain ⟨a, b, xs, ys, ex, h1, h2, hl, q1⟩ := q1
  subst ex
  cases r1 with
  | cons r rr => cases rr with
    | cons r' rr =>
      cases rr
      cases r
      cases r'
      obtain ⟨its1, o1, HB1, St1, rv1, B1, hb1, la, st1, D1⟩ := sq_walk I1 h1
      obtain ⟨its2, o2, HB2, St2, rv2, B2, hb2, lb, st2, D2⟩ := sq_walk I1 h2
      refine zip_begins2 B1 B2 hb1 hb2 fun h' hz hTI hTO e1 e2 hsz hk => ?_
      refine args_nil ?_
      have I2 : Inv X pins σ H1 { s1 with heap := h' } := I1.kept (t' := s1.toks) hk
      have fr : ∀ c, s1.heap.objs.size ≤ c → FpOk X pins H1 c := fun c hc => I1.fpOk hc (I1.hok.fresh hc)
      have S : ZipSep2 (s1.heap.objs.size + 4) (s1.heap.objs.size + 2) (s1.heap.objs.size + 3) s1.heap.objs.size (s1.heap.objs.size + 1) [s1.heap.objs.size, a] [s1.heap.objs.size + 1, b] := sep5 _ _ _ la lb
      refine lz_call (I1.ok.hd hc) S (D1 _ (Nat.ne_of_lt la)) (D2 _ (ne1 _ _ lb)) rv1 rv2 (by rw [← rv1.length, ← rv2.length]; exact hl) I2 (fun c hc => fr c (cells5 _ _ hc)) (below5 _ _ _ _ la lb hsz) hz hTI ⟨_, _, hTO⟩ (st1 _ _ e1 hk) (st2 _ _ e2 hk) fun s' H' ps hn I' pr => ?_
      exact ⟨.ref h'.objs.size, _, I', rfl, q1 H' ps _ pr hn⟩
end
end TV
namespace TV
open PySem PySem.Spec PyProof.Rows L2
section
variable {X : Cx} {C : Ct} {pos : Pos} {eva evb : Env → R D} {pa pb : Bool} {K : PySem.W.Frag}
theorem prs_dv : ∀ {vs us ps : List V} {ds es : List D} {H H2 B : Hp}, Prs (vs.zip us) ps H H2 → DvAll K B vs ds → DvAll K B us es → Same B H → ∃ B', Ext B H B' H2 ∧ DvAll K B' ps (zipD ds es)
  | [], us, ps, ds, es, H, H2, B, pr, t1, t2, e => by
    cases t1
    rw [List.zip_nil_left] at pr
    cases pr
    exact ⟨B, Ext.refl e, .nil⟩
  | v :: vs, [], ps, ds, es, H, H2, B, pr, t1, t2, e => by
    cases t2
    rw [List.zip_nil_right] at pr
    cases pr
    exact ⟨B, Ext.refl e, by unfold zipD; rw [List.zip_nil_right]; exact .nil⟩
  | v :: vs, u :: us, ps, ds, es, H, H2, B, pr, t1, t2, e => by
    cases t1 with
    | cons hv t1 => cases t2 with
      | cons hu t2 =>
        rw [List.zip_cons_cons] at pr
        cases pr with
        | @cons p _ _ _ ps _ _ hp pr =>
          have hb := free_of e hp
          have x := Ext.new1 e hp (.tup [v, u])
          have sm := same_upd hb (.tup [v, u])
          obtain ⟨B', x2, t⟩ := prs_dv pr (t1.mono sm) (t2.mono sm) x.bh
          refine ⟨B', x.trans x2, .cons ?_ t⟩
          exact Dv.mono x2.b (.tup (.of upd_same) (.cons (hv.mono sm) (.cons (hu.mono sm) .nil)))
theorem te_lZip {e : Expr} (h : PE X e (tLz C.K (L2.tCons (tS C eva pa) (L2.tCons (tS C evb pb) L2.tNil)))) : PE X e (tN C (fun ρ => (eva ρ).bind fun x ρ => (evb ρ).bind fun y ρ => R.of (b2 .zipL x y) ρ) (pa && pb) (.l .s)) := PE.imp h fun σ H Q ⟨ρ, B, G, fp, r, q⟩ => by
  have q : Post C B G H σ (pa && pb) _ _ := q
  refine ⟨ρ, B, G, fp, r, (q.bind (pu1 := pa) (pu2 := pb) rfl).mono fun d B1 G1 H1 fp1 ρ1 _ _ r1 k v hv => ?_⟩
  refine ⟨ρ1, B1, G1, fp1, r1, (k.bind (pu1 := pb) (pu2 := true) (by simp)).mono fun d2 B2 G2 H2 fp2 ρ2 u2 _ r2 k v2 hv2 => ?_⟩
  have hv := hv.mono u2.b
  obtain ⟨d', e1, k⟩ := Post.of_some k
  have sq : ∀ {d : D} {v : V} {ds : List D}, Dv C.K B2 v d → itemsD d = some ds → ∃ a vs, v = .ref a ∧ SqLT C.K H2 a vs ∧ DvAll C.K B2 vs ds := fun {d v ds} hv hi => by
    cases d with
    | list _ =>
      cases hi
      cases hv with
      | lst z1 t1 => exact ⟨_, _, rfl, .inl (SqL_eq z1 r2.bh), t1⟩
    | tuple _ =>
      cases hi
      cases hv with
      | tup z1 t1 => exact ⟨_, _, rfl, .inr (Le.tup r2.bh z1), t1⟩
    | _ => cases hi
  simp only [b2, zipLD] at e1
  split at e1
  · rename_i xs ys hx hy
    split at e1
    · rename_i hl
      cases e1
      obtain ⟨a, vs, rfl, g1, t1⟩ := sq hv hx
      obtain ⟨b, us, rfl, g2, t2⟩ := sq hv2 hy
      refine ⟨a, b, vs, us, rfl, g1, g2, lim_size (by rw [t1.length, t2.length]; exact hl), fun H3 ps q0 pr hq => ?_⟩
      obtain ⟨B', x, t⟩ := prs_dv pr t1 t2 r2.bh
      have pv := k.fin r2
      refine pv _ _ B' [q0] ⟨x.b, fun a u h => ?_, fun a u h => ?_, fun a u h => x.new a u h⟩ (fun G' => .l upd_same (.of t)) (by simp) (fun a ha => ?_)
      · have h1 := x.h a u h
        rw [upd_ne (ne_of_none h1 hq)]; exact h1
      · have h1 := x.bh a u h
        rw [upd_ne (ne_of_none h1 hq)]; exact h1
      · have ha : a = q0 := by simpa using ha
        subst ha
        refine ⟨?_, x.bh.free hq⟩
        cases hH : H2 a with
        | none => rfl
        | some o => rw [x.h a o hH] at hq; cases hq
    · cases e1
  · cases e1
end
end TV

/-! V16: the check of an expression against the given tree. -/
namespace TV
open PySem PySem.Spec PyProof.Rows L2
/-! ### views of a tree -/
def vName : Expr → Option Str
  | .Name x _ => some x
  | _ => none
theorem vName_eq {x : Expr} {y : Str} (h : vName x = some y) : ∃ p, x = .Name y p := by cases x <;> simp [vName] at h; subst h; exact ⟨_, rfl⟩
def vConst : Expr → Option Const
  | .Constant c _ _ => some c
  | _ => none
theorem vConst_eq {x : Expr} {c : Const} (h : vConst x = some c) : ∃ j p, x = .Constant c j p := by cases x <;> simp [vConst] at h; subst h; exact ⟨_, _, rfl⟩
def vUn : Expr → Option (UnaryOp × Expr)
  | .UnaryOp op a _ => some (op, a)
  | _ => none
theorem vUn_eq {x a : Expr} {op : UnaryOp} (h : vUn x = some (op, a)) : ∃ p, x = .UnaryOp op a p := by cases x <;> simp [vUn] at h; obtain ⟨rfl, rfl⟩ := h; exact ⟨_, rfl⟩
def vBin : Expr → Option (Operator × Expr × Expr)
  | .BinOp a op b _ => some (op, a, b)
  | _ => none
theorem vBin_eq {x a b : Expr} {op : Operator} (h : vBin x = some (op, a, b)) : ∃ p, x = .BinOp a op b p := by cases x <;> simp [vBin] at h; obtain ⟨rfl, rfl, rfl⟩ := h; exact ⟨_, rfl⟩
def vCmp : Expr → Option (CmpOp × Expr × Expr)
  | .Compare a [op] [b] _ => some (op, a, b)
  | _ => none
theorem vCmp_eq {x a b : Expr} {op : CmpOp} (h : vCmp x = some (op, a, b)) : ∃ p, x = .Compare a [op] [b] p := by
  unfold vCmp at h
  split at h
  · cases h; exact ⟨_, rfl⟩
  · cases h
def vCh : Expr → Option (CmpOp × CmpOp × Expr × Expr × Expr)
  | .Compare a [op, op'] [b, c] _ => some (op, op', a, b, c)
  | _ => none
theorem vCh_eq {x a b c : Expr} {op op' : CmpOp} (h : vCh x = some (op, op', a, b, c)) : ∃ p, x = .Compare a [op, op'] [b, c] p := by
  unfold vCh at h
  split at h
  · cases h; exact ⟨_, rfl⟩
  · cases h
def vBool : Expr → Option (PySem.BoolOp × Expr × Expr × List Expr × Pos)
  | .BoolOp op (a :: b :: r) p => some (op, a, b, r, p)
  | _ => none
theorem vBool_eq {x a b : Expr} {op : PySem.BoolOp} {r : List Expr} {p : Pos} (h : vBool x = some (op, a, b, r, p)) : x = .BoolOp op (a :: b :: r) p := by
  unfold vBool at h
  split at h
  · cases h; rfl
  · cases h
def vIf : Expr → Option (Expr × Expr × Expr)
  | .IfExp c a b _ => some (c, a, b)
  | _ => none
theorem vIf_eq {x a b c : Expr} (h : vIf x = some (c, a, b)) : ∃ p, x = .IfExp c a b p := by cases x <;> simp [vIf] at h; obtain ⟨rfl, rfl, rfl⟩ := h; exact ⟨_, rfl⟩
def vTup : Expr → Option (List Expr)
  | .Tuple es _ _ => some es
  | _ => none
theorem vTup_eq {x : Expr} {es : List Expr} (h : vTup x = some es) : ∃ k p, x = .Tuple es k p := by cases x <;> simp [vTup] at h; subst h; exact ⟨_, _, rfl⟩
def vLst : Expr → Option (List Expr)
  | .List es _ => some es
  | _ => none
theorem vLst_eq {x : Expr} {es : List Expr} (h : vLst x = some es) : ∃ p, x = .List es p := by cases x <;> simp [vLst] at h; subst h; exact ⟨_, rfl⟩
def vDict : Expr → Option (List (Option Expr) × List Expr)
  | .Dict ks vs _ => some (ks, vs)
  | _ => none
theorem vDict_eq {x : Expr} {ks : List (Option Expr)} {vs : List Expr} (h : vDict x = some (ks, vs)) : ∃ p, x = .Dict ks vs p := by cases x <;> simp [vDict] at h; obtain ⟨rfl, rfl⟩ := h; exact ⟨_, rfl⟩
def vCall : Expr → Option (Str × List Expr)
  | .Call (.Name f _) es [] _ => some (f, es)
  | _ => none
theorem vCall_eq {x : Expr} {f : Str} {es : List Expr} (h : vCall x = some (f, es)) : ∃ p q, x = .Call (.Name f p) es [] q := by
  unfold vCall at h
  split at h
  · cases h; exact ⟨_, _, rfl⟩
  · cases h
def vMeth : Expr → Option (Expr × Str × List Expr)
  | .Call (.Attribute o m apos) es [] pos => if apos.endLine == pos.line then some (o, m, es) else none
  | _ => none
theorem vMeth_eq {x o : Expr} {m : Str} {es : List Expr} (h : vMeth x = some (o, m, es)) : ∃ p q, x = .Call (.Attribute o m p) es [] q ∧ (p.endLine == q.line) = true := by
  unfold vMeth at h
  split at h
  · split at h
    · cases h; exact ⟨_, _, rfl, by assumption⟩
    · cases h
  · cases h
def vSub : Expr → Option (Expr × Expr)
  | .Subscript a i _ => some (a, i)
  | _ => none
theorem vSub_eq {x a i : Expr} (h : vSub x = some (a, i)) : ∃ p, x = .Subscript a i p := by cases x <;> simp [vSub] at h; obtain ⟨rfl, rfl⟩ := h; exact ⟨_, rfl⟩
def vSlU : Expr → Option (Expr × Expr)
  | .Subscript a (.Slice none (some b) none _) _ => some (a, b)
  | _ => none
theorem vSlU_eq {x a b : Expr} (h : vSlU x = some (a, b)) : ∃ p q, x = .Subscript a (.Slice none (some b) none p) q := by
  unfold vSlU at h
  split at h
  · cases h; exact ⟨_, _, rfl⟩
  · cases h
def vSlL : Expr → Option (Expr × Expr)
  | .Subscript a (.Slice (some b) none none _) _ => some (a, b)
  | _ => none
theorem vSlL_eq {x a b : Expr} (h : vSlL x = some (a, b)) : ∃ p q, x = .Subscript a (.Slice (some b) none none p) q := by
  unfold vSlL at h
  split at h
  · cases h; exact ⟨_, _, rfl⟩
  · cases h
def vRv2 : Expr → Option Expr
  | .Subscript a (.Slice (some (.UnaryOp .USub (.Constant (.int 2) _ _) _)) none (some (.UnaryOp .USub (.Constant (.int 1) _ _) _)) _) _ => some a
  | _ => none
theorem vRv2_eq {x a : Expr} (h : vRv2 x = some a) : ∃ k0 q1 q2 k p1 p2 p3 p, x = .Subscript a (.Slice (some (.UnaryOp .USub (.Constant (.int 2) k0 q1) q2)) none (some (.UnaryOp .USub (.Constant (.int 1) k p1) p2)) p3) p := by
  unfold vRv2 at h
  split at h
  · cases h; exact ⟨_, _, _, _, _, _, _, _, rfl⟩
  · cases h
def vRev : Expr → Option Expr
  | .Subscript a (.Slice none none (some (.UnaryOp .USub (.Constant (.int 1) _ _) _)) _) _ => some a
  | _ => none
theorem vRev_eq {x a : Expr} (h : vRev x = some a) : ∃ k p1 p2 p3 p, x = .Subscript a (.Slice none none (some (.UnaryOp .USub (.Constant (.int 1) k p1) p2)) p3) p := by
  unfold vRev at h
  split at h
  · cases h; exact ⟨_, _, _, _, _, rfl⟩
  · cases h
def vLc : Expr → Option (Expr × Expr × Expr × List Expr × Scope)
  | .ListComp elt [⟨tg, it, ifs, 0⟩] sc _ => some (elt, tg, it, ifs, sc)
  | _ => none
theorem vLc_eq {x elt tg it : Expr} {ifs : List Expr} {sc : Scope} (h : vLc x = some (elt, tg, it, ifs, sc)) : ∃ p, x = .ListComp elt [⟨tg, it, ifs, 0⟩] sc p := by
  unfold vLc at h
  split at h
  · cases h; exact ⟨_, rfl⟩
  · cases h
/-- no star ahead -/
def pl : Expr → Bool
  | .Starred _ _ => false
  | _ => true
theorem starEach_pl {e : Expr} {es : List Expr} {env : PySem.Env} (h : pl e = true) : starEach (e :: es) env = (false, eval e env) :: starEach es env := by cases e <;> first | rfl | cases h
theorem any_pl {pos : Pos} {env : PySem.Env} : ∀ {es : List Expr}, es.all pl = true → (backTo pos (starEach es env)).any (·.1) = false
  | [], _ => rfl
  | e :: es, h => by
    rw [List.all_cons, Bool.and_eq_true] at h
    rw [starEach_pl h.1]
    show (false || (backTo pos (starEach es env)).any (·.1)) = false
    rw [any_pl h.2]; rfl
theorem few_pl {pos : Pos} {env : PySem.Env} : ∀ {es : List Expr}, es.all pl = true → (backTo pos (starEach es env)).all (fun x => !x.1) = true
  | [], _ => rfl
  | e :: es, h => by
    rw [List.all_cons, Bool.and_eq_true] at h
    rw [starEach_pl h.1]
    show (true && (backTo pos (starEach es env)).all (fun x => !x.1)) = true
    rw [few_pl h.2]; rfl
/-- an index that is no slice -/
def noSl : Expr → Bool
  | .Slice .. => false
  | .Constant .. => true
  | .Name .. => true
  | .BinOp .. => true
  | .UnaryOp .. => true
  | .Call .. => true
  | .Subscript .. => true
  | _ => false
theorem noSl_ix {i : Expr} (h : noSl i = true) : PlainIx i := by cases i <;> first | (intro _ _; rfl) | cases h
/-- told by its value -/
def plainT : Expr → Bool
  | .Name .. => true
  | .Call .. => true
  | .Subscript .. => true
  | .Constant .. => true
  | _ => false
theorem plainT_is {e : Expr} {env : PySem.Env} (h : plainT e = true) : ∀ whole, isTrue e env whole = (do let v ← whole; standAt e.pos; holding [v] (truthy v)) := by cases e <;> first | (intro _; rfl) | cases h
/-- the receiver of a method -/
def noSup : Expr → Bool
  | .Call .. => false
  | _ => true
theorem noSup_base {o : Expr} {m : Str} {env : PySem.Env} {t : Sem Value} (h : noSup o = true) : attributeBase o m env t = t := by cases o <;> first | rfl | cases h
/-- what is walked -/
def noSet : Expr → Bool
  | .Set .. => false
  | _ => true
theorem noSet_is {e : Expr} {env : PySem.Env} (h : noSet e = true) : ∀ x, foldedSetIterable e env x = pure x := by cases e <;> first | (intro _; rfl) | cases h
/-! ### the table and the context -/
structure FE where
  name : Str
  ps : List Sh
  pn : List Str
  ret : Sh
  kw : List KPat
  ix : Nat
/-- a name of the builtins, a module's int -/
abbrev BN := Str × Option Int
def Fr (mg : Str → Option Value) (b : BN) : Prop := match b.2 with
  | none => mg b.1 = none
  | some i => ∃ t, mg b.1 = some (.int i t)
structure Tb where
  N : List Str
  κ : List Sh
  F : List FE
  B : List BN
def isVis (sc : Scope) (x : Str) : Bool := match sc.names.lookup x with
  | some .local => true
  | some .cell => true
  | some .free => true
  | _ => false
theorem isVis_ok {sc : Scope} {x : Str} (h : isVis sc x = true) : Vis sc x := by
  unfold isVis at h
  unfold Vis
  split at h <;> simp_all
def isLoc (own : Str → Bool) (sc : Scope) (x : Str) : Bool := match sc.names.lookup x with
  | some .local => true
  | some .cell => own x
  | _ => false
theorem isLoc_ok {own : Str → Bool} {sc : Scope} {x : Str} (h : isLoc own sc x = true) : L2.Loc sc x ∧ (own x = true ∨ sc.names.lookup x = some .local) := by
  unfold isLoc at h
  unfold L2.Loc
  split at h <;> simp_all
def isGl (sc : Scope) (x : Str) : Bool := match sc.names.lookup x with
  | some .globalImplicit => true
  | _ => false
theorem isGl_ok {X : Cx} {sc : Scope} {x : Str} (hs : X.env.scope = sc) (h : isGl sc x = true) : Gl X x := by
  unfold isGl at h
  unfold Gl Env.kindOf
  rw [hs]
  split at h <;> simp_all
structure GX (T : Tb) (Γ : Nat → Fn) (C : Ct) (sc : Scope) (own : Str → Bool) (k : Nat) (X : Cx) : Prop where
  N : X.N = T.N
  nd : T.N.Nodup
  K : X.K = C.K
  κ : C.κ = T.κ
  sc : X.env.scope = sc
  own : X.fn = own
  calm : X.calm = true
  gd : X.A.guards = some []
  room : Room k X.A
  tk : Takes X C.W
  free : ∀ b ∈ T.B, Fr X.mg b
  fns : ∀ fe ∈ T.F, ∃ f fd, X.mg fe.name = some (.ref f) ∧ PySem.W.keepIn X.K (.ref f) = true ∧ Binds X.K fd fe.pn [] ∧ (∀ kp ∈ fe.kw, KBd X.K fd fe.pn kp) ∧ FnG X.prog X.w X.K X.mg X.base (L2.CX X.prog X.w) k f fd fe.pn (spOf C.K C.EX ⟨fe.name, fe.ps, fe.ret, Γ fe.ix⟩)
abbrev Ck := Scope → (Str → Bool) → Expr → Option (Sh × Bool) × Option Bool
def isBool : Expr → Bool
  | .BoolOp .. => true
  | _ => false
structure SoX (T : Tb) (Γ : Nat → Fn) (ev : TV.Env → R D) (c : Ck) : Prop where
  e : ∀ {C : Ct} {sc : Scope} {own : Str → Bool} {k : Nat} {X : Cx} {x : Expr} {sh : Sh} {pu : Bool}, GX T Γ C sc own k X → (c sc own x).1 = some (sh, pu) → PE X x (tN C ev pu sh)
  b : ∀ {C : Ct} {sc : Scope} {own : Str → Bool} {k : Nat} {X : Cx} {x : Expr} {pu : Bool}, GX T Γ C sc own k X → (c sc own x).2 = some pu → PT X x (tBo C ev pu) ∧ (isBool x = true → PW X x (tBo C ev pu))
/-! ### from natural to the other modes -/
def toS (r : Option (Sh × Bool)) : Option Bool := match r with
  | some (sh, pu) => if sh.ok then some pu else none
  | none => none
theorem toS_eq {r : Option (Sh × Bool)} {pu : Bool} (h : toS r = some pu) : ∃ sh, r = some (sh, pu) ∧ sh.ok = true := by
  unfold toS at h
  split at h
  · split at h
    · cases h; exact ⟨_, rfl, by assumption⟩
    · cases h
  · cases h
def tst (x : Expr) (r : Option (Sh × Bool)) : Option Bool := if plainT x then toS r else none
def dfl (r : Expr → Option (Sh × Bool)) (x : Expr) : Option (Sh × Bool) × Option Bool := (r x, tst x (r x))
section
variable {T : Tb} {Γ : Nat → Fn} {C : Ct} {sc : Scope} {own : Str → Bool} {k : Nat} {X : Cx} {ev eva evb evc : TV.Env → R D} {ca cb cc : Ck}
theorem SoX.s {x : Expr} {pu : Bool} {c : Ck} (h : SoX T Γ ev c) (g : GX T Γ C sc own k X) (hc : toS (c sc own x).1 = some pu) : PE X x (tS C ev pu) := by
  obtain ⟨sh, e, ok⟩ := toS_eq hc
  exact pe_share ok (h.e g e)
/-- a check whose tests are told by values -/
theorem so_dfl {r : Scope → (Str → Bool) → Expr → Option (Sh × Bool)} (h : ∀ {C : Ct} {sc : Scope} {own : Str → Bool} {k : Nat} {X : Cx} {x : Expr} {sh : Sh} {pu : Bool}, GX T Γ C sc own k X → r sc own x = some (sh, pu) → PE X x (tN C ev pu sh)) :
    SoX T Γ ev (fun sc own x => dfl (r sc own) x) where
  e := fun {C sc own k X x sh pu} g e => h g e
  b := fun {C sc own k X x pu} g e => by
    have e : tst x (r sc own x) = some pu := e
    unfold tst at e
    split at e
    · rename_i hp
      obtain ⟨sh, e, ok⟩ := toS_eq e
      refine ⟨pt_of (pe_share ok (h g e)) (plainT_is hp), fun hb => ?_⟩
      exfalso
      cases x <;> simp_all [isBool, plainT]
    · cases e
/-- a list that is peeked: a slot, a field -/
def pkE (T : Tb) (sc : Scope) : E → Expr → Option Bool
  | .v i, x => match vName x with
    | some y => if T.N[i]? = some y ∧ T.κ[i]? = some (.l .s) ∧ isVis sc y = true ∧ (y == ("__debug__" : Str)) = false ∧ (y == ("__classdict__" : Str)) = false then some true else none
    | none => none
  | .fld i j k, x => match vSub x with
    | some (o, ix) => match vName o, vConst ix, T.κ[i]? with
      | some y, some (.str k'), some (.r ks) => if k' = k ∧ T.N[i]? = some y ∧ ks[j]? = some (k, true) ∧ (ks.map (·.1)).Nodup ∧ isVis sc y = true ∧ (y == ("__debug__" : Str)) = false ∧ (y == ("__classdict__" : Str)) = false then some true else none
      | _, _, _ => none
    | none => none
  | _, _ => none
/-- the script -/
def lkE (T : Tb) (sc : Scope) : E → Expr → Option Bool
  | .v i, x => match vName x with
    | some y => if T.N[i]? = some y ∧ T.κ[i]? = some .z ∧ isVis sc y = true ∧ (y == ("__debug__" : Str)) = false ∧ (y == ("__classdict__" : Str)) = false then some true else none
    | none => none
  | _, _ => none
theorem room_lt {k : Nat} {A : Around} (h : Room k A) : A.units + 200 < cLine := by have := h.un; omega
theorem GX.var (g : GX T Γ C sc own k X) {y : Str} {i : Nat} {p : Pos} (h1 : T.N[i]? = some y) (h2 : isVis sc y = true) (h3 : (y == ("__debug__" : Str)) = false) (h4 : (y == ("__classdict__" : Str)) = false) : PE X (.Name y p) (tVar i) :=
  pe_var (by rw [g.N]; exact h1) (by rw [g.sc]; exact isVis_ok h2) h3 h4
theorem so_pk {e : E} {x : Expr} {pu : Bool} (g : GX T Γ C sc own k X) (h : pkE T sc e x = some pu) : PE X x (tP C (evE Γ e) pu) := by
  unfold pkE at h
  split at h
  · split at h
    · rename_i hx
      split at h
      · rename_i hc
        cases h
        obtain ⟨h1, h2, h3, h4, h5⟩ := hc
        obtain ⟨p, rfl⟩ := vName_eq hx
        exact te_peek (g.var h1 h3 h4 h5) (by rw [g.κ]; exact h2)
      · cases h
    · cases h
  · split at h
    · rename_i hx
      split at h
      · rename_i hy hk hr
        split at h
        · rename_i hc
          cases h
          obtain ⟨rfl, h1, h2, h3, h4, h5, h6⟩ := hc
          obtain ⟨p, rfl⟩ := vSub_eq hx
          obtain ⟨p', rfl⟩ := vName_eq hy
          obtain ⟨j', p2, rfl⟩ := vConst_eq hk
          exact te_fldP (by have := room_lt g.room; omega) (g.var h1 h4 h5 h6) pe_str (fun _ _ => rfl) (by rw [g.κ]; exact hr) h2 h3
        · cases h
      · cases h
    · cases h
  · cases h
theorem so_lk {e : E} {x : Expr} {pu : Bool} (g : GX T Γ C sc own k X) (h : lkE T sc e x = some pu) : PE X x (tZ C (evE Γ e) pu) := by
  unfold lkE at h
  split at h
  · split at h
    · rename_i hx
      split at h
      · rename_i hc
        cases h
        obtain ⟨h1, h2, h3, h4, h5⟩ := hc
        obtain ⟨p, rfl⟩ := vName_eq hx
        exact te_look (g.var h1 h3 h4 h5) (by rw [g.κ]; exact h2)
      · cases h
    · cases h
  · cases h
def toP (T : Tb) (e : E) (c : Ck) (sc : Scope) (own : Str → Bool) (x : Expr) : Option Bool := match pkE T sc e x with
  | some pu => some pu
  | none => toS (c sc own x).1
def toZ (T : Tb) (e : E) (c : Ck) (sc : Scope) (own : Str → Bool) (x : Expr) : Option Bool := match lkE T sc e x with
  | some pu => some pu
  | none => toP T e c sc own x
theorem SoX.p {e : E} {c : Ck} {x : Expr} {pu : Bool} (h : SoX T Γ (evE Γ e) c) (g : GX T Γ C sc own k X) (hc : toP T e c sc own x = some pu) : PE X x (tP C (evE Γ e) pu) := by
  unfold toP at hc
  split at hc
  · cases hc; exact so_pk g (by assumption)
  · exact pe_peek (h.s g hc)
theorem SoX.z {e : E} {c : Ck} {x : Expr} {pu : Bool} (h : SoX T Γ (evE Γ e) c) (g : GX T Γ C sc own k X) (hc : toZ T e c sc own x = some pu) : PE X x (tZ C (evE Γ e) pu) := by
  unfold toZ at hc
  split at hc
  · cases hc; exact so_lk g (by assumption)
  · exact pe_look (h.p g hc)
/-! ### leaves -/
def okN (T : Tb) (sc : Scope) (i : Nat) (y : Str) : Bool := decide (T.N[i]? = some y) && isVis sc y && !(y == ("__debug__" : Str)) && !(y == ("__classdict__" : Str))
theorem okN_ok (g : GX T Γ C sc own k X) {i : Nat} {y : Str} {p : Pos} (h : okN T sc i y = true) : PE X (.Name y p) (tVar i) := by
  unfold okN at h
  simp only [Bool.and_eq_true, Bool.not_eq_true', decide_eq_true_eq] at h
  exact g.var h.1.1.1 h.1.1.2 h.1.2 h.2
def ckV (T : Tb) (i : Nat) : Ck := fun sc _ => dfl fun x => match vName x with
  | some y => if okN T sc i y && decide (T.κ[i]? = some .s) then some (.s, true) else none
  | none => none
theorem so_v {i : Nat} : SoX T Γ (evE Γ (.v i)) (ckV T i) := so_dfl fun {C sc own k X x sh pu} g h => by
  split at h
  · rename_i hx
    split at h
    · rename_i hc
      cases h
      simp only [Bool.and_eq_true, decide_eq_true_eq] at hc
      obtain ⟨p, rfl⟩ := vName_eq hx
      exact pe_natS (te_var (okN_ok g hc.1) (by rw [g.κ]; exact hc.2))
    · cases h
  · cases h
def ckMv (T : Tb) (i : Nat) : Ck := fun sc _ => dfl fun x => match vName x, T.κ[i]? with
  | some y, some sh => if okN T sc i y then some (sh, true) else none
  | _, _ => none
theorem so_mv {i : Nat} : SoX T Γ (evE Γ (.mv i)) (ckMv T i) := so_dfl fun {C sc own k X x sh pu} g h => by
  split at h
  · rename_i hx hk
    split at h
    · rename_i hc
      cases h
      obtain ⟨p, rfl⟩ := vName_eq hx
      exact te_move (okN_ok g hc) (by rw [g.κ]; exact hk)
    · cases h
  · cases h
def ckC (d : D) : Ck := fun _ _ => dfl fun x => match vConst x, d with
  | some (.int i), .int j => if i = j then some (.s, true) else none
  | some (.bool i), .bool j => if i = j then some (.s, true) else none
  | some (.str i), .str j => if i = j then some (.s, true) else none
  | some .none, .none => some (.s, true)
  | _, _ => none
theorem so_c {d : D} : SoX T Γ (evE Γ (.c d)) (ckC d) := so_dfl fun {C sc own k X x sh pu} g h => by
  split at h
  · rename_i hx
    split at h
    · rename_i e
      cases h; subst e
      obtain ⟨j, p, rfl⟩ := vConst_eq hx
      exact pe_natS (te_const pe_int fun _ => .int _)
    · cases h
  · rename_i hx
    split at h
    · rename_i e
      cases h; subst e
      obtain ⟨j, p, rfl⟩ := vConst_eq hx
      exact pe_natS (te_const pe_bl fun _ => .bl _)
    · cases h
  · rename_i hx
    split at h
    · rename_i e
      cases h; subst e
      obtain ⟨j, p, rfl⟩ := vConst_eq hx
      exact pe_natS (te_const pe_str fun _ => .str _)
    · cases h
  · rename_i hx
    cases h
    obtain ⟨j, p, rfl⟩ := vConst_eq hx
    exact pe_natS (te_const pe_non fun _ => .non)
  · cases h
def ckFld (T : Tb) (i j : Nat) (k : Str) : Ck := fun sc _ => dfl fun x => match vSub x with
  | some (o, ix) => match vName o, vConst ix, T.κ[i]? with
    | some y, some (.str k'), some (.r ks) => if k' = k ∧ okN T sc i y = true ∧ ks[j]? = some (k, false) ∧ (ks.map (·.1)).Nodup then some (.s, true) else none
    | _, _, _ => none
  | none => none
theorem so_fld {i j : Nat} {f : Str} : SoX T Γ (evE Γ (.fld i j f)) (ckFld T i j f) := so_dfl fun {C sc own k X x sh pu} g h => by
  split at h
  · rename_i hx
    split at h
    · rename_i hy hk hr
      split at h
      · rename_i hc
        cases h
        obtain ⟨rfl, h1, h2, h3⟩ := hc
        obtain ⟨p, rfl⟩ := vSub_eq hx
        obtain ⟨p', rfl⟩ := vName_eq hy
        obtain ⟨j', p2, rfl⟩ := vConst_eq hk
        exact pe_natS (te_fldS (by have := room_lt g.room; omega) (okN_ok g h1) pe_str (fun _ _ => rfl) (by rw [g.κ]; exact hr) h2 h3)
      · cases h
    · cases h
  · cases h
end
end TV

/-! V17: the check of operations. -/
namespace TV
open PySem PySem.Spec PyProof.Rows L2
section
variable {T : Tb} {Γ : Nat → Fn} {C : Ct} {sc : Scope} {own : Str → Bool} {k : Nat} {X : Cx} {ev eva evb evc : TV.Env → R D} {ca cb cc : Ck}
/-- a free name of the builtins -/
def okB (T : Tb) (sc : Scope) (y : Str) : Bool := isGl sc y && T.B.contains (y, none)
theorem okB_ok (g : GX T Γ C sc own k X) {y : Str} (h : okB T sc y = true) : Gl X y ∧ X.mg y = none := by
  unfold okB at h
  rw [Bool.and_eq_true] at h
  exact ⟨isGl_ok g.sc h.1, g.free (y, none) (by simpa using h.2)⟩
theorem RV1.to (g : GX T Γ C sc own k X) {sh : Sh} {f : D → Option D} {x : V} {H : Hp} {Q : VK} (h : RV1 C.K sh f x H Q) : RV1 X.K sh f x H Q := by rw [g.K]; exact h
theorem RV2.to (g : GX T Γ C sc own k X) {sh : Sh} {f : D → D → Option D} {x y : V} {H : Hp} {Q : VK} (h : RV2 C.K sh f x y H Q) : RV2 X.K sh f x y H Q := by rw [g.K]; exact h
theorem RX2.to (g : GX T Γ C sc own k X) {sh : Sh} {f : D → D → Option D} {x y : V} {H : Hp} {Q : VK} (h : RX2 C.K sh f x y H Q) : RX2 X.K sh f x y H Q := by rw [g.K]; exact h
/-! ### one operand -/
theorem pe_b1B {id : String} {f : B1} {y : Str} {p q : Pos} {a : Expr} {pu : Bool} (g : GX T Γ C sc own k X) (hc : VC1 X (.builtin id) f) (hy : okB T sc y = true) (hv : bootBuiltins y = some (.builtin id)) (hn : y ≠ "__name__") (hdb : (y == ("__debug__" : Str)) = false) (hp : pl a = true)
    (ha : PE X a (tZ C ev pu)) : PE X (.Call (.Name y p) [a] [] q) (tN C (fun ρ => (ev ρ).bind fun d ρ => R.of (b1 f d) ρ) pu f.sh) :=
  PE.imp (pe_callB hc (okB_ok g hy).1 (okB_ok g hy).2 hv (pa_cons ha pa_nil (starEach_pl hp)) hn hdb (starEach_pl hp) rfl) fun σ H Q h => rd_un (r := fun x H Q => ∃ x', [x] = [x'] ∧ RV1 X.K f.sh (b1 f) x' H Q) (fun x H Q h => ⟨x, rfl, h.to g⟩) σ H Q h
theorem pe_b1T {id : String} {f : B1} {y : Str} {p q : Pos} {a : Expr} {pu : Bool} (g : GX T Γ C sc own k X) (hc : VC1 X (.type id) f) (hy : okB T sc y = true) (hv : bootBuiltins y = some (.type id)) (hn : y ≠ "__name__") (hdb : (y == ("__debug__" : Str)) = false) (hp : pl a = true)
    (ha : PE X a (tZ C ev pu)) : PE X (.Call (.Name y p) [a] [] q) (tN C (fun ρ => (ev ρ).bind fun d ρ => R.of (b1 f d) ρ) pu f.sh) :=
  PE.imp (pe_callTy hc (okB_ok g hy).1 (okB_ok g hy).2 hv (pa_cons ha pa_nil (starEach_pl hp)) hn hdb (starEach_pl hp) rfl) fun σ H Q h => rd_un (r := fun x H Q => ∃ x', [x] = [x'] ∧ RV1 X.K f.sh (b1 f) x' H Q) (fun x H Q h => ⟨x, rfl, h.to g⟩) σ H Q h
def b1n : B1 → Option Str
  | .len => some "len"
  | .abs => some "abs"
  | .int => some "int"
  | .tup => some "tuple"
  | .lst => some "list"
  | .sum => some "sum"
  | .minL => some "min"
  | .maxL => some "max"
  | .all_ => some "all"
  | .any_ => some "any"
  | .repr => some "repr"
  | _ => none
theorem pe_b1 {f : B1} {y : Str} {p q : Pos} {a : Expr} {pu : Bool} (g : GX T Γ C sc own k X) (hf : b1n f = some y) (hy : okB T sc y = true) (hp : pl a = true) (ha : PE X a (tZ C ev pu)) :
    PE X (.Call (.Name y p) [a] [] q) (tN C (fun ρ => (ev ρ).bind fun d ρ => R.of (b1 f d) ρ) pu f.sh) := by
  have hu := room_lt g.room
  cases f <;> simp only [b1n, Option.some.injEq] at hf <;> first
    | (subst hf; first
        | exact pe_b1B g vc_len hy boot_len (by decide) (by decide) hp ha
        | exact pe_b1B g vc_abs hy rfl (by decide) (by decide) hp ha
        | exact pe_b1T g vc_int hy rfl (by decide) (by decide) hp ha
        | exact pe_b1T g vc_tup hy rfl (by decide) (by decide) hp ha
        | exact pe_b1T g vc_lst hy rfl (by decide) (by decide) hp ha
        | exact pe_b1B g (vc_sum g.calm) hy rfl (by decide) (by decide) hp ha
        | exact pe_b1B g (vc_minL g.calm) hy rfl (by decide) (by decide) hp ha
        | exact pe_b1B g (vc_maxL g.calm) hy rfl (by decide) (by decide) hp ha
        | exact pe_b1B g (vc_all g.calm) hy rfl (by decide) (by decide) hp ha
        | exact pe_b1B g (vc_any g.calm) hy rfl (by decide) (by decide) hp ha
        | exact pe_b1B g (vc_repr g.gd (by omega)) hy rfl (by decide) (by decide) hp ha)
    | cases hf
def ckB1o (T : Tb) (f : B1) (a : E) (ca : Ck) : Ck := fun sc own => dfl fun x => match f with
  | .neg => match vUn x with
    | some (.USub, a') => (toZ T a ca sc own a').map fun pu => (.s, pu)
    | _ => none
  | .rev => match vRev x with
    | some a' => (toZ T a ca sc own a').map fun pu => (.l .s, pu)
    | none => none
  | .rv2 => match vRv2 x with
    | some a' => (toZ T a ca sc own a').map fun pu => (.l .s, pu)
    | none => none
  | .lRng => match vCall x with
    | some (y, [r]) => match vCall r with
      | some (z, [a']) => if y = ("list" : Str) ∧ z = ("range" : Str) ∧ okB T sc y = true ∧ okB T sc z = true ∧ pl a' = true then (toS (ca sc own a').1).map fun pu => (.l .s, pu) else none
      | _ => none
    | _ => none
  | .tRng => match vCall x with
    | some (y, [r]) => match vCall r with
      | some (z, [a']) => if y = ("tuple" : Str) ∧ z = ("range" : Str) ∧ okB T sc y = true ∧ okB T sc z = true ∧ pl a' = true then (toS (ca sc own a').1).map fun pu => (.s, pu) else none
      | _ => none
    | _ => none
  | .setT => match vCall x with
    | some (y, [r]) => match vCall r with
      | some (z, [a']) => if y = ("sorted" : Str) ∧ z = ("set" : Str) ∧ okB T sc y = true ∧ okB T sc z = true ∧ pl a' = true then (toZ T a ca sc own a').map fun pu => (.l .s, pu) else none
      | _ => none
    | _ => none
  | f => match b1n f, vCall x with
    | some y, some (z, [a']) => if z = y ∧ okB T sc y = true ∧ pl a' = true then (toZ T a ca sc own a').map fun pu => (f.sh, pu) else none
    | _, _ => none
theorem map_pu {o : Option Bool} {sh sh' : Sh} {pu : Bool} (h : (o.map fun p => (sh', p)) = some (sh, pu)) : sh' = sh ∧ o = some pu := by
  cases o with
  | none => cases h
  | some p => cases h; exact ⟨rfl, rfl⟩
theorem so_b1o {f : B1} {a : E} (h : SoX T Γ (evE Γ a) ca) : SoX T Γ (evE Γ (.b1 f a)) (ckB1o T f a ca) := so_dfl fun {C sc own k X x sh pu} g e => by
  split at e
  · split at e
    · rename_i hx
      have hs := map_pu e; clear e; obtain ⟨rfl, e⟩ := hs
      obtain ⟨p, rfl⟩ := vUn_eq hx
      exact PE.imp (pe_un un_neg (h.z g e)) (rd_un fun x H Q ⟨B, da, d, _, hd, e1, q⟩ => by
        cases da with
        | int i =>
          simp only [b1, Option.some.injEq] at e1
          subst e1
          obtain rfl := hd.int'
          exact ⟨i, rfl, q.s (by assumption) (.int _)⟩
        | _ => simp [b1] at e1)
    · cases e
  · split at e
    · rename_i hx
      have hs := map_pu e; clear e; obtain ⟨rfl, e⟩ := hs
      obtain ⟨k, p1, p2, p3, p, rfl⟩ := vRev_eq hx
      refine te_rev ?_
      rw [← g.K]
      exact pe_revL (h.z g e)
    · cases e
  · split at e
    · rename_i hx
      have hs := map_pu e; clear e; obtain ⟨rfl, e⟩ := hs
      obtain ⟨k0, q1, q2, k, p1, p2, p3, p, rfl⟩ := vRv2_eq hx
      refine te_rv2 ?_
      rw [← g.K]
      exact pe_rv2 (h.z g e)
    · cases e
  · split at e
    · rename_i hx
      split at e
      · rename_i hr
        split at e
        · rename_i hc
          have hs := map_pu e; clear e; obtain ⟨rfl, e⟩ := hs
          obtain ⟨rfl, rfl, h1, h2, h3⟩ := hc
          obtain ⟨p, q, rfl⟩ := vCall_eq hx
          obtain ⟨p', q', rfl⟩ := vCall_eq hr
          exact te_lRng (pe_listRg g.calm (okB_ok g h1).1 (okB_ok g h1).2 (prg_1 (okB_ok g h2).1 (okB_ok g h2).2 (h.s g e) (starEach_pl h3)))
        · cases e
      · cases e
    · cases e
  · split at e
    · rename_i hx
      split at e
      · rename_i hr
        split at e
        · rename_i hc
          have hs := map_pu e; clear e; obtain ⟨rfl, e⟩ := hs
          obtain ⟨rfl, rfl, h1, h2, h3⟩ := hc
          obtain ⟨p, q, rfl⟩ := vCall_eq hx
          obtain ⟨p', q', rfl⟩ := vCall_eq hr
          exact te_tRng (pe_tupRg g.calm (okB_ok g h1).1 (okB_ok g h1).2 (prg_1 (okB_ok g h2).1 (okB_ok g h2).2 (h.s g e) (starEach_pl h3)))
        · cases e
      · cases e
    · cases e
  · split at e
    · rename_i hx
      split at e
      · rename_i hr
        split at e
        · rename_i hc
          have hs := map_pu e; clear e; obtain ⟨rfl, e⟩ := hs
          obtain ⟨rfl, rfl, h1, h2, h3⟩ := hc
          obtain ⟨p, q, rfl⟩ := vCall_eq hx
          obtain ⟨p', q', rfl⟩ := vCall_eq hr
          have hu := room_lt g.room
          refine te_setT (Pg := X.prog) (w := X.w) ?_
          rw [← g.K]
          exact pe_callB (cr_sortedT g.calm) (okB_ok g h1).1 (okB_ok g h1).2 rfl (pa_cons (pe_callTy (cr_setOfT g.calm (by omega)) (okB_ok g h2).1 (okB_ok g h2).2 rfl (pa_cons (h.z g e) pa_nil (starEach_pl h3)) (by decide) (by decide) (starEach_pl h3) rfl) pa_nil) (by decide) (by decide)
        · cases e
      · cases e
    · cases e
  · split at e
    · rename_i hn hx
      split at e
      · rename_i hc
        have hs := map_pu e; clear e; obtain ⟨rfl, e⟩ := hs
        obtain ⟨rfl, h1, h2⟩ := hc
        obtain ⟨p, q, rfl⟩ := vCall_eq hx
        exact pe_b1 g hn h1 h2 (h.z g e)
      · cases e
    · cases e
/-! ### two operands -/
def opB : B2 → Option Operator
  | .add => some .Add
  | .addL => some .Add
  | .mulL => some .Mult
  | .sub => some .Sub
  | .mul => some .Mult
  | .fdiv => some .FloorDiv
  | .mod => some .Mod
  | .pow => some .Pow
  | _ => none
def opC : B2 → Option CmpOp
  | .eq => some .Eq
  | .ne => some .NotEq
  | .lt => some .Lt
  | .le => some .LtE
  | .gt => some .Gt
  | .ge => some .GtE
  | .is_ => some .Is
  | .isnt => some .IsNot
  | .in_ => some .In
  | .nin => some .NotIn
  | _ => none
/-- no set display -/
def nset : Expr → Bool
  | .Set .. => false
  | _ => true
theorem nset_ok {e : Expr} {op : CmpOp} (h : nset e = true) : behindInMarks op e = false := by cases e <;> first | rfl | cases h
theorem vo_bin {f : B2} {op : Operator} (h : opB f = some op) (h1 : f ≠ .add) (h2 : f ≠ .addL) (h3 : f ≠ .mulL) : VO2 X (binaryOp op) f := by
  cases f <;> simp only [opB, Option.some.injEq, reduceCtorEq] at h <;> first
    | (subst h; first | exact vo_sub | exact vo_mul | exact vo_fdiv | exact vo_mod | exact vo_pow | exact absurd rfl h1 | exact absurd rfl h2 | exact absurd rfl h3)
    | cases h
theorem vo_cmp {f : B2} {op : CmpOp} (hu : X.A.units + 65 < cLine) (h : opC f = some op) : VO2 X (compareOp op) f := by
  cases f <;> simp only [opC, Option.some.injEq, reduceCtorEq] at h <;> first
    | (subst h; first | exact vo_eq (by omega) | exact vo_ne (by omega) | exact vo_in hu | exact vo_nin hu | exact vo_lt (by omega) | exact vo_le (by omega) | exact vo_gt | exact vo_ge | exact vo_is | exact vo_isnt)
    | cases h
theorem opC_sh {f : B2} {op : CmpOp} (h : opC f = some op) : f.sh = .s := by
  cases f <;> simp only [opC, Option.some.injEq, reduceCtorEq] at h <;> first
    | (subst h; rfl)
    | cases h
def prZ (T : Tb) (a b : E) (ca cb : Ck) (sc : Scope) (own : Str → Bool) (a' b' : Expr) : Option Bool := match toZ T b cb sc own b' with
  | some true => toZ T a ca sc own a'
  | some false => (toS (ca sc own a').1).map fun _ => false
  | none => none
def prP (T : Tb) (a b : E) (ca cb : Ck) (sc : Scope) (own : Str → Bool) (a' b' : Expr) : Option Bool := match toP T b cb sc own b' with
  | some true => toP T a ca sc own a'
  | some false => (toS (ca sc own a').1).map fun _ => false
  | none => none
theorem so_prZ {a b : E} {a' b' : Expr} {pu : Bool} (ha : SoX T Γ (evE Γ a) ca) (hb : SoX T Γ (evE Γ b) cb) (g : GX T Γ C sc own k X) (h : prZ T a b ca cb sc own a' b' = some pu) {f : D → D → Option D} {sh : Sh} {r : R2} (hr : ∀ x y H Q, RV2 C.K sh f x y H Q → r x y H Q) :
    ∃ ta tb, PE X a' ta ∧ PE X b' tb ∧ ∀ σ H Q, tN C (fun ρ => (evE Γ a ρ).bind fun x ρ => (evE Γ b ρ).bind fun y ρ => R.of (f x y) ρ) pu sh σ H Q → tOp r ta tb σ H Q := by
  unfold prZ at h
  split at h
  · exact ⟨_, _, ha.z g h, hb.z g (by assumption), rd_binP hr⟩
  · cases e : toS (ca sc own a').1 with
    | none => rw [e] at h; cases h
    | some p =>
      rw [e] at h
      cases h
      refine ⟨_, _, ha.s g e, hb.z g (by assumption), fun σ H Q q => rd_binS hr σ H Q ?_⟩
      rw [Bool.and_false]
      exact q
  · cases h
theorem so_prP {a b : E} {a' b' : Expr} {pu : Bool} (ha : SoX T Γ (evE Γ a) ca) (hb : SoX T Γ (evE Γ b) cb) (g : GX T Γ C sc own k X) (h : prP T a b ca cb sc own a' b' = some pu) {f : D → D → Option D} {sh : Sh} {r : R2} (hr : ∀ x y H Q, RX2 C.K sh f x y H Q → r x y H Q) :
    ∃ ta tb, PE X a' ta ∧ PE X b' tb ∧ ∀ σ H Q, tN C (fun ρ => (evE Γ a ρ).bind fun x ρ => (evE Γ b ρ).bind fun y ρ => R.of (f x y) ρ) pu sh σ H Q → tOp r ta tb σ H Q := by
  unfold prP at h
  split at h
  · exact ⟨_, _, ha.p g h, hb.p g (by assumption), rd_addP hr⟩
  · cases e : toS (ca sc own a').1 with
    | none => rw [e] at h; cases h
    | some p =>
      rw [e] at h
      cases h
      refine ⟨_, _, ha.s g e, hb.p g (by assumption), fun σ H Q q => rd_addS hr σ H Q ?_⟩
      rw [Bool.and_false]
      exact q
  · cases h
/-- a slice's parts -/
def prSl (T : Tb) (a b : E) (ca cb : Ck) (sc : Scope) (own : Str → Bool) (a' b' : Expr) : Option Bool := match toS (cb sc own b').1 with
  | some true => toZ T a ca sc own a'
  | _ => none
def two (f : Bool → Bool → α) : Option Bool → Option Bool → Option α
  | some a, some b => some (f a b)
  | _, _ => none
theorem two_eq {α : Type} {f : Bool → Bool → α} {a b : Option Bool} {r : α} (h : two f a b = some r) : ∃ x y, a = some x ∧ b = some y ∧ r = f x y := by
  cases a <;> cases b <;> simp [two] at h
  exact ⟨_, _, rfl, rfl, h.symm⟩
def eB2 (T : Tb) (f : B2) (a b : E) (ca cb : Ck) (sc : Scope) (own : Str → Bool) (x : Expr) : Option (Sh × Bool) := match opB f with
  | some op => match vBin x with
    | some (op', a', b') => if op' = op then (if f = .add ∨ f = .addL ∨ f = .mulL then (prP T a b ca cb sc own a' b').map fun pu => (f.sh, pu) else (prZ T a b ca cb sc own a' b').map fun pu => (f.sh, pu)) else none
    | none => none
  | none => match opC f with
    | some op => match vCmp x with
      | some (op', a', b') => if op' = op ∧ nset b' = true then (prZ T a b ca cb sc own a' b').map fun pu => (.s, pu) else none
      | none => none
    | none => match f with
      | .idx => match vSub x with
        | some (a', b') => if noSl b' then (prZ T a b ca cb sc own a' b').map fun pu => (.s, pu) else none
        | none => none
      | .slU => match vSlU x with
        | some (a', b') => (prSl T a b ca cb sc own a' b').map fun pu => (.s, pu)
        | none => none
      | .slL => match vSlL x with
        | some (a', b') => (prSl T a b ca cb sc own a' b').map fun pu => (.s, pu)
        | none => none
      | .slUL => match vSlU x with
        | some (a', b') => (prSl T a b ca cb sc own a' b').map fun pu => (.l .s, pu)
        | none => none
      | .slLL => match vSlL x with
        | some (a', b') => (prSl T a b ca cb sc own a' b').map fun pu => (.l .s, pu)
        | none => none
      | .min2 => match vCall x with
        | some (y, [a', b']) => if y = ("min" : Str) ∧ okB T sc y = true ∧ pl a' = true ∧ pl b' = true then (prZ T a b ca cb sc own a' b').map fun pu => (.s, pu) else none
        | _ => none
      | .max2 => match vCall x with
        | some (y, [a', b']) => if y = ("max" : Str) ∧ okB T sc y = true ∧ pl a' = true ∧ pl b' = true then (prZ T a b ca cb sc own a' b').map fun pu => (.s, pu) else none
        | _ => none
      | .zipL => match vCall x with
        | some (y, [r]) => match vCall r with
          | some (z, [a', b']) => if y = ("list" : Str) ∧ z = ("zip" : Str) ∧ okB T sc y = true ∧ okB T sc z = true ∧ pl a' = true ∧ pl b' = true then (two (· && ·) (toS (ca sc own a').1) (toS (cb sc own b').1)).map fun pu => (.l .s, pu) else none
          | _ => none
        | _ => none
      | _ => none
theorem pe_slU {a b : E} {a' b' : Expr} {p q : Pos} {pu : Bool} {f : B2} {gd : D → Option Int → Option Int → Option D} {sh : Sh} (ha : SoX T Γ (evE Γ a) ca) (hb : SoX T Γ (evE Γ b) cb) (g : GX T Γ C sc own k X) (h : prSl T a b ca cb sc own a' b' = some pu) (hr : SlR X (RS X.K sh gd))
    (hg : ∀ da db d, b2 f da db = some d → ∃ i, db = .int i ∧ gd da none (some i) = some d) : PE X (.Subscript a' (.Slice none (some b') none p) q) (tN C (fun ρ => (evE Γ a ρ).bind fun x ρ => (evE Γ b ρ).bind fun y ρ => R.of (b2 f x y) ρ) pu sh) := by
  unfold prSl at h
  split at h
  · refine te_sl (up := true) ?_ hg
    rw [← g.K]
    exact pe_slice hr (ha.z g h) po_none (po_some (hb.s g (by assumption)))
  · cases h
theorem pe_slL {a b : E} {a' b' : Expr} {p q : Pos} {pu : Bool} {f : B2} {gd : D → Option Int → Option Int → Option D} {sh : Sh} (ha : SoX T Γ (evE Γ a) ca) (hb : SoX T Γ (evE Γ b) cb) (g : GX T Γ C sc own k X) (h : prSl T a b ca cb sc own a' b' = some pu) (hr : SlR X (RS X.K sh gd))
    (hg : ∀ da db d, b2 f da db = some d → ∃ i, db = .int i ∧ gd da (some i) none = some d) : PE X (.Subscript a' (.Slice (some b') none none p) q) (tN C (fun ρ => (evE Γ a ρ).bind fun x ρ => (evE Γ b ρ).bind fun y ρ => R.of (b2 f x y) ρ) pu sh) := by
  unfold prSl at h
  split at h
  · refine te_sl (up := false) ?_ hg
    rw [← g.K]
    exact pe_slice hr (ha.z g h) (po_some (hb.s g (by assumption))) po_none
  · cases h
theorem eB2_ok {f : B2} {a b : E} {x : Expr} {sh : Sh} {pu : Bool} (ha : SoX T Γ (evE Γ a) ca) (hb : SoX T Γ (evE Γ b) cb) (g : GX T Γ C sc own k X) (e : eB2 T f a b ca cb sc own x = some (sh, pu)) : PE X x (tN C (evE Γ (.b2 f a b)) pu sh) := by
  have hu := room_lt g.room
  unfold eB2 at e
  split at e
  · rename_i hop
    split at e
    · rename_i hx
      split at e
      · rename_i ho
        subst ho
        obtain ⟨p, rfl⟩ := vBin_eq hx
        split at e
        · rename_i hf
          have hs := map_pu e; clear e; obtain ⟨rfl, e⟩ := hs
          rcases hf with rfl | rfl | rfl
          · obtain rfl := Option.some.inj hop
            obtain ⟨ta, tb, h1, h2, h3⟩ := so_prP ha hb g e (f := b2 .add) (sh := .s) (r := RX2 X.K .s (b2 .add)) fun x y H Q h => h.to g
            exact PE.imp (pe_op vo_add h1 h2) h3
          · obtain rfl := Option.some.inj hop
            obtain ⟨ta, tb, h1, h2, h3⟩ := so_prP ha hb g e (f := b2 .addL) (sh := .l .s) (r := RX2 X.K (.l .s) (b2 .addL)) fun x y H Q h => h.to g
            exact PE.imp (pe_op vo_addL h1 h2) h3
          · obtain rfl := Option.some.inj hop
            obtain ⟨ta, tb, h1, h2, h3⟩ := so_prP ha hb g e (f := b2 .mulL) (sh := .l .s) (r := RX2 X.K (.l .s) (b2 .mulL)) fun x y H Q h => h.to g
            exact PE.imp (pe_op vo_mulL h1 h2) h3
        · rename_i hf
          have hs := map_pu e; clear e; obtain ⟨rfl, e⟩ := hs
          obtain ⟨ta, tb, h1, h2, h3⟩ := so_prZ ha hb g e (f := b2 f) (sh := f.sh) (r := RV2 X.K f.sh (b2 f)) fun x y H Q h => h.to g
          exact PE.imp (pe_op (vo_bin hop (fun z => hf (.inl z)) (fun z => hf (.inr (.inl z))) (fun z => hf (.inr (.inr z)))) h1 h2) h3
      · cases e
    · cases e
  · split at e
    · rename_i hop
      split at e
      · rename_i hx
        split at e
        · rename_i ho
          obtain ⟨rfl, hn⟩ := ho
          obtain ⟨p, rfl⟩ := vCmp_eq hx
          have hs := map_pu e; clear e; obtain ⟨rfl, e⟩ := hs
          have s1 := opC_sh hop
          obtain ⟨ta, tb, h1, h2, h3⟩ := so_prZ ha hb g e (f := b2 f) (sh := f.sh) (r := RV2 X.K f.sh (b2 f)) fun x y H Q h => h.to g
          rw [s1] at h3
          exact PE.imp (pe_cmpR (vo_cmp (by omega) hop) h1 h2 (nset_ok hn)) (by rw [s1]; exact h3)
        · cases e
      · cases e
    · split at e
      · split at e
        · rename_i hx
          split at e
          · rename_i hi
            have hs := map_pu e; clear e; obtain ⟨rfl, e⟩ := hs
            obtain ⟨p, rfl⟩ := vSub_eq hx
            obtain ⟨ta, tb, h1, h2, h3⟩ := so_prZ ha hb g e (f := b2 .idx) (sh := .s) (r := RV2 X.K .s (b2 .idx)) fun x y H Q h => h.to g
            exact PE.imp (pe_ix vi_idx h1 h2 (noSl_ix hi)) h3
          · cases e
        · cases e
      · split at e
        · rename_i hx
          have hs := map_pu e; clear e; obtain ⟨rfl, e⟩ := hs
          obtain ⟨p, q, rfl⟩ := vSlU_eq hx
          refine pe_slU ha hb g e vs_sl fun da db d h => ?_
          cases da <;> cases db <;> simp only [b2, reduceCtorEq] at h <;> first | exact ⟨_, rfl, h⟩ | cases h
        · cases e
      · split at e
        · rename_i hx
          have hs := map_pu e; clear e; obtain ⟨rfl, e⟩ := hs
          obtain ⟨p, q, rfl⟩ := vSlL_eq hx
          refine pe_slL ha hb g e vs_sl fun da db d h => ?_
          cases da <;> cases db <;> simp only [b2, reduceCtorEq] at h <;> first | exact ⟨_, rfl, h⟩ | cases h
        · cases e
      · split at e
        · rename_i hx
          have hs := map_pu e; clear e; obtain ⟨rfl, e⟩ := hs
          obtain ⟨p, q, rfl⟩ := vSlU_eq hx
          refine pe_slU ha hb g e vs_slL fun da db d h => ?_
          cases da <;> cases db <;> simp only [b2, reduceCtorEq] at h <;> first | exact ⟨_, rfl, h⟩ | cases h
        · cases e
      · split at e
        · rename_i hx
          have hs := map_pu e; clear e; obtain ⟨rfl, e⟩ := hs
          obtain ⟨p, q, rfl⟩ := vSlL_eq hx
          refine pe_slL ha hb g e vs_slL fun da db d h => ?_
          cases da <;> cases db <;> simp only [b2, reduceCtorEq] at h <;> first | exact ⟨_, rfl, h⟩ | cases h
        · cases e
      · split at e
        · rename_i hx
          split at e
          · rename_i hc
            have hs := map_pu e; clear e; obtain ⟨rfl, e⟩ := hs
            obtain ⟨rfl, c1, c2, c3⟩ := hc
            obtain ⟨p, q, rfl⟩ := vCall_eq hx
            obtain ⟨ta, tb, h1, h2, h3⟩ := so_prZ ha hb g e (f := b2 .min2) (sh := .s) (r := fun x y H Q => ∃ x' y', [x, y] = [x', y'] ∧ RV2 X.K .s (b2 .min2) x' y' H Q) fun x y H Q h => ⟨x, y, rfl, h.to g⟩
            exact PE.imp (pe_callB (vc_min2 g.calm) (okB_ok g c1).1 (okB_ok g c1).2 rfl (pa_cons h1 (pa_cons h2 pa_nil (starEach_pl c3)) (starEach_pl c2)) (by decide) (by decide) (starEach_pl c2) (any_pl (by simp [c3]))) h3
          · cases e
        · cases e
      · split at e
        · rename_i hx
          split at e
          · rename_i hc
            have hs := map_pu e; clear e; obtain ⟨rfl, e⟩ := hs
            obtain ⟨rfl, c1, c2, c3⟩ := hc
            obtain ⟨p, q, rfl⟩ := vCall_eq hx
            obtain ⟨ta, tb, h1, h2, h3⟩ := so_prZ ha hb g e (f := b2 .max2) (sh := .s) (r := fun x y H Q => ∃ x' y', [x, y] = [x', y'] ∧ RV2 X.K .s (b2 .max2) x' y' H Q) fun x y H Q h => ⟨x, y, rfl, h.to g⟩
            exact PE.imp (pe_callB (vc_max2 g.calm) (okB_ok g c1).1 (okB_ok g c1).2 rfl (pa_cons h1 (pa_cons h2 pa_nil (starEach_pl c3)) (starEach_pl c2)) (by decide) (by decide) (starEach_pl c2) (any_pl (by simp [c3]))) h3
          · cases e
        · cases e
      · split at e
        · rename_i hx
          split at e
          · rename_i hr
            split at e
            · rename_i hc
              have hs := map_pu e; clear e; obtain ⟨rfl, e⟩ := hs
              obtain ⟨rfl, rfl, c1, c2, c3, c4⟩ := hc
              obtain ⟨p, q, rfl⟩ := vCall_eq hx
              obtain ⟨p', q', rfl⟩ := vCall_eq hr
              obtain ⟨pa, pb, e1, e2, rfl⟩ := two_eq e
              refine te_lZip ?_
              rw [← g.K]
              exact pe_lz g.calm (okB_ok g c1).1 (okB_ok g c1).2 (okB_ok g c2).1 (okB_ok g c2).2 (pa_cons (ha.s g e1) (pa_cons (hb.s g e2) pa_nil (starEach_pl c4)) (starEach_pl c3)) (starEach_pl c3) (any_pl (by simp [c4])) (starEach_pl rfl)
            · cases e
          · cases e
        · cases e
      · cases e
def ckB2 (T : Tb) (f : B2) (a b : E) (ca cb : Ck) : Ck := fun sc own x => (eB2 T f a b ca cb sc own x, match opC f with
  | some op => match vCmp x with
    | some (op', a', b') => if op' = op ∧ nset b' = true then prZ T a b ca cb sc own a' b' else none
    | none => none
  | none => tst x (eB2 T f a b ca cb sc own x))
theorem tst_ok {x : Expr} {r : Option (Sh × Bool)} {pu : Bool} (h : tst x r = some pu) (he : ∀ sh, r = some (sh, pu) → PE X x (tN C ev pu sh)) : PT X x (tBo C ev pu) ∧ (isBool x = true → PW X x (tBo C ev pu)) := by
  unfold tst at h
  split at h
  · rename_i hp
    obtain ⟨sh, e, ok⟩ := toS_eq h
    refine ⟨pt_of (pe_share ok (he sh e)) (plainT_is hp), fun hb => ?_⟩
    exfalso
    cases x <;> simp_all [isBool, plainT]
  · cases h
theorem so_b2 {f : B2} {a b : E} (ha : SoX T Γ (evE Γ a) ca) (hb : SoX T Γ (evE Γ b) cb) : SoX T Γ (evE Γ (.b2 f a b)) (ckB2 T f a b ca cb) where
  e := fun {C sc own k X x sh pu} g e => eB2_ok ha hb g e
  b := fun {C sc own k X x pu} g e => by
    unfold ckB2 at e
    dsimp only at e
    split at e
    · rename_i hop
      split at e
      · rename_i hx
        split at e
        · rename_i ho
          obtain ⟨rfl, hn⟩ := ho
          obtain ⟨p, rfl⟩ := vCmp_eq hx
          have s1 := opC_sh hop
          obtain ⟨ta, tb, h1, h2, h3⟩ := so_prZ ha hb g e (f := b2 f) (sh := f.sh) (r := RV2 X.K f.sh (b2 f)) fun x y H Q h => h.to g
          refine ⟨PT.imp (pt_cmpR (vo_cmp (by have := room_lt g.room; omega) hop) h1 h2 (nset_ok hn)) (rd_test fun σ H Q q => h3 σ H Q (rd_share (by rw [s1]; rfl) σ H Q q)), fun hb => ?_⟩
          cases hb
        · cases e
      · cases e
    · exact tst_ok e fun sh e => eB2_ok ha hb g e
/-! ### chains -/
def ckCh (T : Tb) (f h : B2) (ca cb cc : Ck) : Ck := fun sc own x => match vCh x, opC f, opC h with
  | some (op, op', a', b', c'), some o, some o' => if op = o ∧ op' = o' ∧ nset c' = true then (match toS (ca sc own a').1, toS (cb sc own b').1, toS (cc sc own c').1 with
    | some pa, some pb, some pc => (some (.s, pa && (pb && pc)), some (pa && (pb && pc)))
    | _, _, _ => (none, none)) else (none, none)
  | _, _, _ => (none, none)
theorem so_ch {f h : B2} {a b c : E} (ha : SoX T Γ (evE Γ a) ca) (hb : SoX T Γ (evE Γ b) cb) (hc : SoX T Γ (evE Γ c) cc) : SoX T Γ (evE Γ (.ch f h a b c)) (ckCh T f h ca cb cc) where
  e := fun {C sc own k X x sh pu} g e => by
    unfold ckCh at e
    split at e
    · rename_i hx h1 h2
      split at e
      · rename_i ho
        obtain ⟨rfl, rfl, hn⟩ := ho
        split at e
        · rename_i e1 e2 e3
          cases e
          obtain ⟨p, rfl⟩ := vCh_eq hx
          have s1 := opC_sh h1
          have t1 := opC_sh h2
          have hu := room_lt g.room
          exact pe_natS (PE.imp (pe_chain (vo_cmp (by omega) h1) (vo_cmp (by omega) h2) (ha.s g e1) (hb.s g e2) (hc.s g e3) (nset_ok hn)) (rd_chain s1 t1 (fun x y H Q q => q.to g) fun x y H Q q => q.to g))
        · cases e
      · cases e
    · cases e
  b := fun {C sc own k X x pu} g e => by
    unfold ckCh at e
    split at e
    · rename_i hx h1 h2
      split at e
      · rename_i ho
        obtain ⟨rfl, rfl, hn⟩ := ho
        split at e
        · rename_i e1 e2 e3
          cases e
          obtain ⟨p, rfl⟩ := vCh_eq hx
          have s1 := opC_sh h1
          have t1 := opC_sh h2
          have hu := room_lt g.room
          refine ⟨PT.imp (pt_chain (vo_cmp (by omega) h1) (vo_cmp (by omega) h2) (ha.s g e1) (hb.s g e2) (hc.s g e3) (nset_ok hn)) (rd_test (rd_chain s1 t1 (fun x y H Q q => q.to g) fun x y H Q q => q.to g)), fun hb => ?_⟩
          cases hb
        · cases e
      · cases e
    · cases e
end
end TV

/-! V18: the check of the rest of the expressions. -/
namespace TV
open PySem PySem.Spec PyProof.Rows L2
/-- a list that is walked, targets -/
def assignEach_pl {e : Expr} {es : List Expr} {env : PySem.Env} (h : pl e = true) : assignEach (e :: es) env = (false, assign e env) :: assignEach es env := by cases e <;> first | rfl | cases h
mutual
def gOf (K : PySem.W.Frag) : Tg → TG
  | .v i => gName i
  | .t ts => gTup K ts.len (gsOf K ts)
def gsOf (K : PySem.W.Frag) : Tgs → TGs
  | .nil => gNil
  | .cons t ts => gCons (gOf K t) (gsOf K ts)
end
mutual
def ckT (T : Tb) (sc : Scope) (own : Str → Bool) : Tg → Expr → Bool
  | .v i, x => match vName x with
    | some y => decide (T.N[i]? = some y) && decide (T.κ[i]? = some .s) && isLoc own sc y
    | none => false
  | .t ts, x => match vTup x with
    | some es => ckTs T sc own ts es
    | none => false
def ckTs (T : Tb) (sc : Scope) (own : Str → Bool) : Tgs → List Expr → Bool
  | .nil, [] => true
  | .cons t ts, e :: es => pl e && ckT T sc own t e && ckTs T sc own ts es
  | _, _ => false
end
section
variable {T : Tb} {Γ : Nat → Fn} {C : Ct} {sc : Scope} {own : Str → Bool} {k : Nat} {X : Cx} {ev eva evb evc : TV.Env → R D} {ca cb cc : Ck}
theorem ckTs_each : ∀ {ts : Tgs} {es : List Expr} {env : PySem.Env}, ckTs T sc own ts es = true → (assignEach es env).length = ts.len ∧ (assignEach es env).findIdx? (·.1) = none
  | .nil, [], _, _ => ⟨rfl, rfl⟩
  | .cons t ts, e :: es, env, h => by
    simp only [ckTs, Bool.and_eq_true] at h
    obtain ⟨h1, h2⟩ := ckTs_each (env := env) h.2
    rw [assignEach_pl h.1.1]
    refine ⟨by simp [h1, Tgs.len], ?_⟩
    simp [List.findIdx?_cons, h2]
  | .nil, _ :: _, _, h => by simp [ckTs] at h
  | .cons _ _, [], _, h => by simp [ckTs] at h
mutual
theorem pg_of (g : GX T Γ C sc own k X) : ∀ {t : Tg} {x : Expr}, ckT T sc own t x = true → PG X x (gOf C.K t)
  | .v i, x, h => by
    simp only [ckT] at h
    split at h
    · rename_i hx
      simp only [Bool.and_eq_true, decide_eq_true_eq] at h
      obtain ⟨p, rfl⟩ := vName_eq hx
      obtain ⟨l1, l2⟩ := isLoc_ok h.2
      simp only [gOf]
      exact pg_name (by rw [g.N]; exact g.nd) (by rw [g.N]; exact h.1.1) (by rw [g.sc]; exact l1) (by rw [g.sc, g.own]; exact l2)
    · cases h
  | .t ts, x, h => by
    simp only [ckT] at h
    split at h
    · rename_i es hx
      obtain ⟨j, p, rfl⟩ := vTup_eq hx
      obtain ⟨h1, h2⟩ := ckTs_each (env := X.env) h
      simp only [gOf]
      have z := pg_tup (pos := p) (k := j) g.calm (pgs_of g h) h1 h2
      rw [g.K] at z
      exact z
    · cases h
theorem pgs_of (g : GX T Γ C sc own k X) : ∀ {ts : Tgs} {es : List Expr}, ckTs T sc own ts es = true → PGs X es (gsOf C.K ts)
  | .nil, [], _ => by simp only [gsOf]; exact pgs_nil
  | .cons t ts, e :: es, h => by
    simp only [ckTs, Bool.and_eq_true] at h
    simp only [gsOf]
    exact pgs_cons (pg_of g h.1.2) (pgs_of g h.2) (by rw [assignEach_pl h.1.1]; rfl)
  | .nil, _ :: _, h => by simp [ckTs] at h
  | .cons _ _, [], h => by simp [ckTs] at h
end
mutual
theorem tg_of (hκ : C.κ = T.κ) : ∀ {t : Tg} {x : Expr}, ckT T sc own t x = true → TgOk C (gOf C.K t) t
  | .v i, x, h => by
    simp only [ckT] at h
    split at h
    · simp only [Bool.and_eq_true, decide_eq_true_eq] at h
      simp only [gOf]
      exact tg_v (by rw [hκ]; exact h.1.2)
    · cases h
  | .t ts, x, h => by
    simp only [ckT] at h
    split at h
    · simp only [gOf]
      exact tg_t rfl (tgs_of hκ h)
    · cases h
theorem tgs_of (hκ : C.κ = T.κ) : ∀ {ts : Tgs} {es : List Expr}, ckTs T sc own ts es = true → TgsOk C (gsOf C.K ts) ts
  | .nil, [], _ => by simp only [gsOf]; exact tgs_nil
  | .cons t ts, e :: es, h => by
    simp only [ckTs, Bool.and_eq_true] at h
    simp only [gsOf]
    exact tgs_cons (tg_of hκ h.1.2) (tgs_of hκ h.2)
  | .nil, _ :: _, h => by simp [ckTs] at h
  | .cons _ _, [], h => by simp [ckTs] at h
end
/-! ### and, or, not, if -/
def rst (op : PySem.BoolOp) (b : Expr) (r : List Expr) (p : Pos) : Expr := match r with
  | [] => b
  | _ :: _ => .BoolOp op (b :: r) p
def ckBo (o : PySem.BoolOp) (ca cb : Ck) : Ck := fun sc own x => match vBool x with
  | some (op, a', b', r, p) => if op = o then (two (fun pa pb => (.s, pa && pb)) (toS (ca sc own a').1) (toS (cb sc own (rst op b' r p)).1), two (· && ·) (ca sc own a').2 (cb sc own (rst op b' r p)).2) else (none, none)
  | none => (none, none)
theorem so_and {a b : E} (ha : SoX T Γ (evE Γ a) ca) (hb : SoX T Γ (evE Γ b) cb) : SoX T Γ (evE Γ (.and_ a b)) (ckBo .And ca cb) where
  e := fun {C sc own k X x sh pu} g e => by
    unfold ckBo at e
    split at e
    · rename_i a1 b1 r p hx
      split at e
      · rename_i ho
        subst ho
        obtain ⟨pa, pb, e1, e2, e3⟩ := two_eq e
        cases e3
        rw [vBool_eq hx]
        cases r with
        | nil => exact pe_natS (te_andV (pe_and (ha.s g e1) (pe_one (hb.s g e2))))
        | cons c r => exact pe_natS (te_andV (pe_and (ha.s g e1) (hb.s g e2)))
      · cases e
    · cases e
  b := fun {C sc own k X x pu} g e => by
    unfold ckBo at e
    split at e
    · rename_i a1 b1 r p hx
      split at e
      · rename_i ho
        subst ho
        obtain ⟨pa, pb, e1, e2, e3⟩ := two_eq e
        cases e3
        rw [vBool_eq hx]
        have w : PW X (.BoolOp .And (a1 :: b1 :: r) p) (tAnd (tBo C (evE Γ a) pa) (tBo C (evE Γ b) pb)) := by
          cases r with
          | nil => exact pw_and (ha.b g e1).1 (pw_and1 (hb.b g e2).1)
          | cons c r => exact pw_and (ha.b g e1).1 ((hb.b g e2).2 rfl)
        have w2 : PW X _ (tBo C (andD (evE Γ a) (evE Γ b)) (pa && pb)) := ⟨fun wh pins s σ H Q I q => w.run wh pins s σ H Q I (rd_and σ H Q q)⟩
        exact ⟨w2.pt, fun _ => w2⟩
      · cases e
    · cases e
theorem so_or {a b : E} (ha : SoX T Γ (evE Γ a) ca) (hb : SoX T Γ (evE Γ b) cb) : SoX T Γ (evE Γ (.or_ a b)) (ckBo .Or ca cb) where
  e := fun {C sc own k X x sh pu} g e => by
    unfold ckBo at e
    split at e
    · rename_i a1 b1 r p hx
      split at e
      · rename_i ho
        subst ho
        obtain ⟨pa, pb, e1, e2, e3⟩ := two_eq e
        cases e3
        rw [vBool_eq hx]
        cases r with
        | nil => exact pe_natS (te_orV (pe_or (ha.s g e1) (pe_one (hb.s g e2))))
        | cons c r => exact pe_natS (te_orV (pe_or (ha.s g e1) (hb.s g e2)))
      · cases e
    · cases e
  b := fun {C sc own k X x pu} g e => by
    unfold ckBo at e
    split at e
    · rename_i a1 b1 r p hx
      split at e
      · rename_i ho
        subst ho
        obtain ⟨pa, pb, e1, e2, e3⟩ := two_eq e
        cases e3
        rw [vBool_eq hx]
        have w : PW X (.BoolOp .Or (a1 :: b1 :: r) p) (tOr (tBo C (evE Γ a) pa) (tBo C (evE Γ b) pb)) := by
          cases r with
          | nil => exact pw_or (ha.b g e1).1 (pw_or1 (hb.b g e2).1)
          | cons c r => exact pw_or (ha.b g e1).1 ((hb.b g e2).2 rfl)
        have w2 : PW X _ (tBo C (orD (evE Γ a) (evE Γ b)) (pa && pb)) := ⟨fun wh pins s σ H Q I q => w.run wh pins s σ H Q I (rd_or σ H Q q)⟩
        exact ⟨w2.pt, fun _ => w2⟩
      · cases e
    · cases e
def ckNot (ca : Ck) : Ck := fun sc own x => match vUn x with
  | some (.Not, a') => ((toS (ca sc own a').1).map fun pu => (.s, pu), (ca sc own a').2)
  | _ => (none, none)
theorem so_not {a : E} (ha : SoX T Γ (evE Γ a) ca) : SoX T Γ (evE Γ (.not_ a)) (ckNot ca) where
  e := fun {C sc own k X x sh pu} g e => by
    unfold ckNot at e
    split at e
    · rename_i hx
      have hs := map_pu e; clear e; obtain ⟨rfl, e⟩ := hs
      obtain ⟨p, rfl⟩ := vUn_eq hx
      exact pe_natS (te_notV (pe_not (ha.s g e)))
    · cases e
  b := fun {C sc own k X x pu} g e => by
    unfold ckNot at e
    split at e
    · rename_i hx
      obtain ⟨p, rfl⟩ := vUn_eq hx
      exact ⟨te_not (pt_not (ha.b g e).1), fun hb => by cases hb⟩
    · cases e
def ckIf (cc ca cb : Ck) : Ck := fun sc own x => match vIf x with
  | some (c', a', b') => (match (cc sc own c').2, (ca sc own a').1, (cb sc own b').1 with
    | some pc, some (sa, pa), some (sb, pb) => if sa = sb then some (sa, pc && (pa && pb)) else if sa.ok && sb.ok then some (.s, pc && (pa && pb)) else none
    | _, _, _ => none, none)
  | none => (none, none)
theorem so_if {a b c : E} (hc : SoX T Γ (evE Γ c) cc) (ha : SoX T Γ (evE Γ a) ca) (hb : SoX T Γ (evE Γ b) cb) : SoX T Γ (evE Γ (.ite c a b)) (ckIf cc ca cb) where
  e := fun {C sc own k X x sh pu} g e => by
    unfold ckIf at e
    split at e
    · rename_i hx
      obtain ⟨p, rfl⟩ := vIf_eq hx
      dsimp only at e
      split at e
      · rename_i e1 e2 e3
        split at e
        · rename_i hs
          cases e
          subst hs
          exact te_ite (pe_ifExp (hc.b g e1).1 (ha.e g e2) (hb.e g e3))
        · split at e
          · rename_i hs
            cases e
            rw [Bool.and_eq_true] at hs
            exact te_ite (pe_ifExp (hc.b g e1).1 (pe_natS (pe_share hs.1 (ha.e g e2))) (pe_natS (pe_share hs.2 (hb.e g e3))))
          · cases e
      · cases e
    · cases e
  b := fun {C sc own k X x pu} g e => by
    unfold ckIf at e
    split at e <;> cases e
/-! ### several -/
def natTo (sh : Sh) (r : Option (Sh × Bool)) : Option Bool := match r with
  | some (sh', pu) => if sh' = sh then some pu else if sh = .s ∧ sh'.ok = true then some pu else none
  | none => none
theorem natTo_eq {sh : Sh} {r : Option (Sh × Bool)} {pu : Bool} (h : natTo sh r = some pu) : ∃ sh', r = some (sh', pu) ∧ ∀ {C : Ct} {ev : TV.Env → R D} (σ : L2.St) (H : Hp) (Q : VK), tN C ev pu sh σ H Q → tN C ev pu sh' σ H Q := by
  unfold natTo at h
  split at h
  · split at h
    · rename_i hs
      cases h; subst hs
      exact ⟨_, rfl, fun _ _ _ q => q⟩
    · split at h
      · rename_i hs
        cases h
        obtain ⟨rfl, hs⟩ := hs
        exact ⟨_, rfl, fun σ H Q q => rd_share hs σ H Q (rd_natS σ H Q q)⟩
      · cases h
  · cases h
structure CkEs where
  kw : Scope → (Str → Bool) → List Keyword → Option Bool
  nt : Scope → (Str → Bool) → List Sh → List Expr → Bool
  es : Scope → (Str → Bool) → List Expr → Option Bool
  rc : Scope → (Str → Bool) → List (Str × Bool) → List (Option Expr) → List Expr → Option Bool
structure SoEs (T : Tb) (Γ : Nat → Fn) (ev : TV.Env → R (List D)) (c : CkEs) : Prop where
  kw : ∀ {C : Ct} {sc : Scope} {own : Str → Bool} {k : Nat} {X : Cx} {kws : List Keyword} {pu : Bool}, GX T Γ C sc own k X → c.kw sc own kws = some pu → PK X kws (tEs C ev pu)
  nil : ∀ {C : Ct} {sc : Scope} {own : Str → Bool} {pu : Bool}, c.es sc own [] = some pu → ∀ σ H (Q : List V → Hp → Prop), tEs C ev pu σ H Q → Q [] H
  len : ∀ {ρ ρ' : TV.Env} {ds : List D}, ev ρ = .ok ds ρ' → ∀ {sc : Scope} {own : Str → Bool} {kws : List Keyword} {xs : List Expr}, ((c.kw sc own kws).isSome = true → ds.length = kws.length) ∧ ((c.es sc own xs).isSome = true → xs.all pl = true → ds.length = xs.length)
  nt : ∀ {C : Ct} {sc : Scope} {own : Str → Bool} {k : Nat} {X : Cx} {shs : List Sh} {xs : List Expr}, GX T Γ C sc own k X → c.nt sc own shs xs = true → ∃ t, PA X xs t ∧ ParR C shs ev t
  es : ∀ {C : Ct} {sc : Scope} {own : Str → Bool} {k : Nat} {X : Cx} {xs : List Expr} {pu : Bool}, GX T Γ C sc own k X → c.es sc own xs = some pu → PA X xs (tEs C ev pu)
  rc : ∀ {C : Ct} {sc : Scope} {own : Str → Bool} {k : Nat} {X : Cx} {ks : List (Str × Bool)} {keys : List (Option Expr)} {vals : List Expr} {pu : Bool}, GX T Γ C sc own k X → c.rc sc own ks keys vals = some pu →
    ∃ trs, RecR C ks ev pu trs ∧ (∀ pos, PPs X pos keys vals trs) ∧ keys.length = ks.length ∧ vals.length = ks.length ∧ keys.all (·.isSome) = true
def ckNil : CkEs where
  kw := fun _ _ kws => match kws with
    | [] => some true
    | _ => none
  nt := fun _ _ shs xs => match shs, xs with
    | [], [] => true
    | _, _ => false
  es := fun _ _ xs => match xs with
    | [] => some true
    | _ => none
  rc := fun _ _ ks keys vals => match ks, keys, vals with
    | [], [], [] => some true
    | _, _, _ => none
theorem PK.imp {X : Cx} {kws : List Keyword} {t t' : TA} (h : PK X kws t) (i : ∀ σ H Q, t' σ H Q → t σ H Q) : PK X kws t' := ⟨fun pos pins s σ H Q I q => h.run pos pins s σ H Q I (i σ H Q q)⟩
theorem so_nil : SoEs T Γ (evEs Γ .nil) ckNil where
  kw := fun {C sc own k X kws pu} g e => by
    unfold ckNil at e
    dsimp only at e
    split at e
    · cases e; exact PK.imp pk_nil fun σ H Q ⟨ρ, B, G, fp, r, q⟩ => q B G H fp .refl (fun _ => Same.refl _) r [] .nil
    · cases e
  nil := fun {C sc own pu} e σ H Q ⟨ρ, B, G, fp, r, q⟩ => by
    cases e
    exact q B G H fp .refl (fun _ => Same.refl _) r [] .nil
  len := fun {ρ ρ' ds} e {sc own kws xs} => by
    simp only [evEs, R.ok.injEq] at e
    obtain ⟨rfl, rfl⟩ := e
    refine ⟨fun h => ?_, fun h _ => ?_⟩
    · cases kws with
      | nil => rfl
      | cons _ _ => cases h
    · cases xs with
      | nil => rfl
      | cons _ _ => cases h
  nt := fun {C sc own k X shs xs} g e => by
    unfold ckNil at e
    dsimp only at e
    split at e
    · exact ⟨_, pa_nil, .nil⟩
    · cases e
  es := fun {C sc own k X xs pu} g e => by
    unfold ckNil at e
    dsimp only at e
    split at e
    · cases e; exact te_nil pa_nil
    · cases e
  rc := fun {C sc own k X ks keys vals pu} g e => by
    unfold ckNil at e
    dsimp only at e
    split at e
    · cases e; exact ⟨[], .nil, fun _ => pps_nil, rfl, rfl, rfl⟩
    · cases e
def vStar : Expr → Option Expr
  | .Starred e _ => some e
  | _ => none
theorem vStar_eq {x e : Expr} (h : vStar x = some e) : ∃ p, x = .Starred e p := by cases x <;> simp [vStar] at h; subst h; exact ⟨_, rfl⟩
def fSho (b : Bool) (r : Option (Sh × Bool)) : Option Bool := if b then (match r with
  | some (.l .s, pu) => some pu
  | _ => none) else toS r
theorem fSho_pe {b : Bool} {x : Expr} {pu : Bool} {c : Ck} (h : SoX T Γ ev c) (g : GX T Γ C sc own k X) (e : fSho b (c sc own x).1 = some pu) : PE X x (tN C ev pu (fSh b)) := by
  unfold fSho at e
  cases b with
  | false => exact pe_natS (h.s g (by simpa using e))
  | true =>
    simp only [if_true] at e
    split at e
    · rename_i e1
      cases e
      exact h.e g e1
    · cases e
theorem evEs_cons {a : E} {es : Es} {ρ ρ' : TV.Env} {ds : List D} (e : evEs Γ (.cons a es) ρ = .ok ds ρ') : ∃ d ρ1 r, evE Γ a ρ = .ok d ρ1 ∧ evEs Γ es ρ1 = .ok r ρ' ∧ ds = d :: r := by
  simp only [evEs] at e
  cases q : evE Γ a ρ with
  | ok d ρ1 =>
    rw [q, R.bind_ok] at e
    cases q2 : evEs Γ es ρ1 with
    | ok r ρ2 =>
      rw [q2, R.bind_ok] at e
      simp only [R.ok.injEq] at e
      obtain ⟨rfl, rfl⟩ := e
      exact ⟨_, _, _, rfl, q2, rfl⟩
    | err x ρ2 => rw [q2] at e; cases e
    | no => rw [q2] at e; cases e
  | err x ρ1 => rw [q] at e; cases e
  | no => rw [q] at e; cases e
def ckCons (ce : Ck) (cs : CkEs) : CkEs where
  kw := fun sc own kws => match kws with
    | k :: kws => two (· && ·) (toS (ce sc own k.value).1) (cs.kw sc own kws)
    | _ => none
  nt := fun sc own shs xs => match shs, xs with
    | sh :: shs, x :: xs => pl x && (natTo sh (ce sc own x).1).isSome && cs.nt sc own shs xs
    | _, _ => false
  es := fun sc own xs => match xs with
    | x :: xs => if pl x then two (· && ·) (toS (ce sc own x).1) (cs.es sc own xs) else none
    | _ => none
  rc := fun sc own ks keys vals => match ks, keys, vals with
    | (k, b) :: ks, some kx :: keys, x :: vals => if vConst kx = some (.str k) then two (· && ·) (fSho b (ce sc own x).1) (cs.rc sc own ks keys vals) else none
    | _, _, _ => none
theorem so_cons {a : E} {es : Es} {cs : CkEs} (ha : SoX T Γ (evE Γ a) ca) (hs : SoEs T Γ (evEs Γ es) cs) : SoEs T Γ (evEs Γ (.cons a es)) (ckCons ca cs) where
  kw := fun {C sc own k X kws pu} g e => by
    unfold ckCons at e
    dsimp only at e
    split at e
    · rename_i kw kws
      obtain ⟨pa, pb, e1, e2, rfl⟩ := two_eq e
      obtain ⟨nm, v, kp⟩ := kw
      exact PK.imp (pk_cons (ha.s g e1) (hs.kw g e2)) (rd_cons)
    · cases e
  nil := fun {C sc own pu} e => by cases e
  len := fun {ρ ρ' ds} e {sc own kws xs} => by
    obtain ⟨d, ρ1, r, _, e2, rfl⟩ := evEs_cons e
    refine ⟨fun h => ?_, fun h hp => ?_⟩
    · cases kws with
      | nil => cases h
      | cons kw kws =>
        obtain ⟨pu, h⟩ := Option.isSome_iff_exists.mp h
        obtain ⟨pa, pb, e1, e3, rfl⟩ := two_eq h
        have := (hs.len e2 (kws := kws) (sc := sc) (own := own) (xs := [])).1 (by rw [e3]; rfl)
        simp [this]
    · cases xs with
      | nil => cases h
      | cons x xs =>
        obtain ⟨pu, h⟩ := Option.isSome_iff_exists.mp h
        unfold ckCons at h
        dsimp only at h
        split at h
        · obtain ⟨pa, pb, e1, e3, rfl⟩ := two_eq h
          rw [List.all_cons, Bool.and_eq_true] at hp
          have := (hs.len e2 (kws := []) (sc := sc) (own := own) (xs := xs)).2 (by rw [e3]; rfl) hp.2
          simp [this]
        · cases h
  nt := fun {C sc own k X shs xs} g e => by
    unfold ckCons at e
    dsimp only at e
    split at e
    · simp only [Bool.and_eq_true] at e
      obtain ⟨⟨e1, e2⟩, e3⟩ := e
      obtain ⟨pu, e2⟩ := Option.isSome_iff_exists.mp e2
      obtain ⟨sh', e4, e5⟩ := natTo_eq e2
      obtain ⟨t, t1, t2⟩ := hs.nt g e3
      exact ⟨_, pa_cons (PE.imp (ha.e g e4) e5) t1 (starEach_pl e1), .cons t2⟩
    · cases e
  es := fun {C sc own k X xs pu} g e => by
    unfold ckCons at e
    dsimp only at e
    split at e
    · split at e
      · rename_i hp
        obtain ⟨pa, pb, e1, e2, rfl⟩ := two_eq e
        exact te_cons (pa_cons (ha.s g e1) (hs.es g e2) (starEach_pl hp))
      · cases e
    · cases e
  rc := fun {C sc own k X ks keys vals pu} g e => by
    unfold ckCons at e
    dsimp only at e
    split at e
    · split at e
      · rename_i hk
        obtain ⟨pa, pb, e1, e2, rfl⟩ := two_eq e
        obtain ⟨trs, r1, r2, r3, r4, r5⟩ := hs.rc g e2
        obtain ⟨j, p, rfl⟩ := vConst_eq hk
        exact ⟨_, .cons r1, fun pos => pps_cons pe_str (fSho_pe ha g e1) (r2 pos), by simp [r3], by simp [r4], by simpa using r5⟩
      · cases e
    · cases e
def ckStar (T : Tb) (a : E) (ce : Ck) (cs : CkEs) : CkEs where
  kw := fun _ _ _ => none
  nt := fun _ _ _ _ => false
  es := fun sc own xs => match xs with
    | x :: xs => match vStar x with
      | some y => two (· && ·) (toZ T a ce sc own y) (cs.es sc own xs)
      | none => none
    | _ => none
  rc := fun _ _ _ _ _ => none
theorem so_star {a : E} {es : Es} {cs : CkEs} (ha : SoX T Γ (evE Γ a) ca) (hs : SoEs T Γ (evEs Γ es) cs) : SoEs T Γ (evEs Γ (.star a es)) (ckStar T a ca cs) where
  kw := fun {C sc own k X kws pu} g e => by cases e
  nil := fun {C sc own pu} e => by cases e
  len := fun {ρ ρ' ds} e {sc own kws xs} => by
    refine ⟨(fun h => by cases h), fun h hp => ?_⟩
    cases xs with
    | nil => cases h
    | cons x xs =>
      unfold ckStar at h
      dsimp only at h
      split at h
      · rename_i hx
        obtain ⟨p, rfl⟩ := vStar_eq hx
        rw [List.all_cons, Bool.and_eq_true] at hp
        cases hp.1
      · cases h
  nt := fun {C sc own k X shs xs} g e => by cases e
  es := fun {C sc own k X xs pu} g e => by
    unfold ckStar at e
    dsimp only at e
    split at e
    · split at e
      · rename_i hx
        obtain ⟨pa, pb, e1, e2, rfl⟩ := two_eq e
        obtain ⟨p, rfl⟩ := vStar_eq hx
        have z := StX.pa_star (p := p) (ha.z g e1) (hs.es g e2)
        rw [g.K] at z
        exact te_star z
      · cases e
    · cases e
  rc := fun {C sc own k X ks keys vals pu} g e => by cases e
def ckTup (cs : CkEs) : Ck := fun sc own => dfl fun x => match vTup x with
  | some es => (cs.es sc own es).map fun pu => (.s, pu)
  | none => none
theorem so_tup {es : Es} {cs : CkEs} (hs : SoEs T Γ (evEs Γ es) cs) : SoX T Γ (evE Γ (.tup es)) (ckTup cs) := so_dfl fun {C sc own k X x sh pu} g e => by
  split at e
  · rename_i hx
    have h := map_pu e; clear e; obtain ⟨rfl, e⟩ := h
    obtain ⟨j, p, rfl⟩ := vTup_eq hx
    exact pe_natS (te_tup (pe_tup (hs.es g e)))
  · cases e
def ckLst (cs : CkEs) : Ck := fun sc own => dfl fun x => match vLst x with
  | some es => (cs.es sc own es).map fun pu => (.l .s, pu)
  | none => none
theorem so_lst {es : Es} {cs : CkEs} (hs : SoEs T Γ (evEs Γ es) cs) : SoX T Γ (evE Γ (.lst es)) (ckLst cs) := so_dfl fun {C sc own k X x sh pu} g e => by
  split at e
  · rename_i hx
    have h := map_pu e; clear e; obtain ⟨rfl, e⟩ := h
    obtain ⟨p, rfl⟩ := vLst_eq hx
    exact te_lst (pe_lst (hs.es g e))
  · cases e
def ckRec (ks : List (Str × Bool)) (cs : CkEs) : Ck := fun sc own => dfl fun x => match vDict x with
  | some (keys, vals) => match cs.rc sc own ks keys vals with
    | some _ => if ks.length ≤ 15 ∧ ks ≠ [] ∧ (ks.map (·.1)).Nodup then some (.r ks, false) else none
    | none => none
  | none => none
theorem so_rec {ks : List (Str × Bool)} {es : Es} {cs : CkEs} (hs : SoEs T Γ (evEs Γ es) cs) : SoX T Γ (evE Γ (.rec_ ks es)) (ckRec ks cs) := so_dfl fun {C sc own k X x sh pu} g e => by
  split at e
  · rename_i hx
    split at e
    · rename_i e1
      split at e
      · rename_i hc
        cases e
        obtain ⟨h1, h2, h3⟩ := hc
        obtain ⟨trs, r1, r2, r3, r4, r5⟩ := hs.rc g e1
        obtain ⟨p, rfl⟩ := vDict_eq hx
        exact te_rec h1 h3 r1 (pe_disp (r2 p) r5 (by rw [r3, r4]) (fun z => h2 (by rw [z] at r3; exact List.length_eq_zero_iff.mp r3.symm)) (by rw [r3]; exact h1))
      · cases e
    · cases e
  · cases e
/-! ### calls of defs -/
abbrev CkAs := Scope → (Str → Bool) → List Expr → List Sh → Option Bool
def SoAs (T : Tb) (Γ : Nat → Fn) (ev : TV.Env → R (List Ar)) (c : CkAs) : Prop :=
  ∀ {C : Ct} {sc : Scope} {own : Str → Bool} {k : Nat} {X : Cx} {xs : List Expr} {ps : List Sh} {pu : Bool}, GX T Γ C sc own k X → c sc own xs ps = some pu → PA X xs (tAs C ev pu ps)
def ckANil : CkAs := fun _ _ xs ps => match xs, ps with
  | [], [] => some true
  | _, _ => none
theorem so_anil : SoAs T Γ (evAs Γ .nil) ckANil := fun {C sc own k X xs ps pu} g e => by
  unfold ckANil at e
  split at e
  · cases e; exact ta_nil pa_nil
  · cases e
def ckAVal (ce : Ck) (cs : CkAs) : CkAs := fun sc own xs ps => match xs, ps with
  | x :: xs, .s :: ps => if pl x then two (· && ·) (toS (ce sc own x).1) (cs sc own xs ps) else none
  | _, _ => none
theorem so_aval {a : E} {es : As} {cs : CkAs} (ha : SoX T Γ (evE Γ a) ca) (hs : SoAs T Γ (evAs Γ es) cs) : SoAs T Γ (evAs Γ (.val a es)) (ckAVal ca cs) := fun {C sc own k X xs ps pu} g e => by
  unfold ckAVal at e
  split at e
  · split at e
    · rename_i hp
      obtain ⟨pa, pb, e1, e2, rfl⟩ := two_eq e
      exact ta_val (pa_cons (ha.s g e1) (hs g e2) (starEach_pl hp))
    · cases e
  · cases e
def ckAIo (T : Tb) (i : Nat) (cs : CkAs) : CkAs := fun sc own xs ps => match xs, ps with
  | x :: xs, p :: ps => match vName x with
    | some y => if okN T sc i y = true ∧ T.κ[i]? = some p ∧ p.isM = true then cs sc own xs ps else none
    | none => none
  | _, _ => none
theorem so_aio {i : Nat} {es : As} {cs : CkAs} (hs : SoAs T Γ (evAs Γ es) cs) : SoAs T Γ (evAs Γ (.io i es)) (ckAIo T i cs) := fun {C sc own k X xs ps pu} g e => by
  unfold ckAIo at e
  split at e
  · split at e
    · rename_i hx
      split at e
      · rename_i hc
        obtain ⟨h1, h2, h3⟩ := hc
        obtain ⟨p, rfl⟩ := vName_eq hx
        exact ta_io h3 (by rw [g.κ]; exact h2) (pa_cons (okN_ok g h1) (hs g e))
      · cases e
    · cases e
  · cases e
def ckAPk (T : Tb) (i : Nat) (cs : CkAs) : CkAs := fun sc own xs ps => match xs, ps with
  | x :: xs, .z :: ps => match vName x with
    | some y => if okN T sc i y = true ∧ (T.κ[i]? = some .z ∨ T.κ[i]? = some (.l .s)) then cs sc own xs ps else none
    | none => none
  | _, _ => none
theorem so_apk {i : Nat} {es : As} {cs : CkAs} (hs : SoAs T Γ (evAs Γ es) cs) : SoAs T Γ (evAs Γ (.pk i es)) (ckAPk T i cs) := fun {C sc own k X xs ps pu} g e => by
  unfold ckAPk at e
  split at e
  · split at e
    · rename_i hx
      split at e
      · rename_i hc
        obtain ⟨h1, h2⟩ := hc
        obtain ⟨p, rfl⟩ := vName_eq hx
        rcases h2 with h2 | h2
        · exact ta_pk (.inl rfl) (by rw [g.κ]; exact h2) (pa_cons (okN_ok g h1) (hs g e))
        · exact ta_pk (.inr rfl) (by rw [g.κ]; exact h2) (pa_cons (okN_ok g h1) (hs g e))
      · cases e
    · cases e
  · cases e
def ckCall (T : Tb) (f : Nat) (es : As) (cs : CkAs) : Ck := fun sc own => dfl fun x => match vCall x with
  | some (y, e :: es') => match T.F.find? (fun fe => decide (fe.name = y)) with
    | some fe => match cs sc own (e :: es') fe.ps with
      | some _ => if fe.ix = f ∧ isGl sc y = true ∧ (e :: es').all pl = true ∧ fe.ret.noz = true ∧ (rootsE es).Nodup ∧ (∀ i ∈ pksE es, i ∉ rootsE es) ∧ (y == ("__debug__" : Str)) = false then some (fe.ret, false) else none
      | none => none
    | none => none
  | _ => none
theorem so_call {f : Nat} {es : As} {cs : CkAs} (hs : SoAs T Γ (evAs Γ es) cs) : SoX T Γ (evE Γ (.call f es)) (ckCall T f es cs) := so_dfl fun {C sc own k X x sh pu} g e => by
  split at e
  · rename_i hx
    split at e
    · rename_i fe hf
      split at e
      · rename_i hc
        split at e
        · rename_i hh
          cases e
          obtain ⟨rfl, h1, h2, h3, h4, h5, h6⟩ := hh
          obtain ⟨p, q, rfl⟩ := vCall_eq hx
          obtain ⟨f, fd, k1, k2, k3, _, k4⟩ := g.fns fe (List.mem_of_find?_eq_some hf)
          have hn := List.find?_some hf
          simp only [decide_eq_true_eq] at hn
          rw [hn] at k1
          rw [List.all_cons, Bool.and_eq_true] at h2
          exact te_call (fi := ⟨fe.name, fe.ps, fe.ret, Γ fe.ix⟩) h3 h4 h5 (pe_callG (E := fun σ => WE C.W σ) k4 g.room g.gd (isGl_ok g.sc h1) k1 k2 k3 (passAt g.tk) (hs g hc) h6 (starEach_pl h2.1) (any_pl h2.2))
        · cases e
      · cases e
    · cases e
  · cases e
/-! ### by keywords -/
def vCallK : Expr → Option (Str × List Expr × List Keyword)
  | .Call (.Name f _) es (k :: ks) _ => some (f, es, k :: ks)
  | _ => none
theorem vCallK_eq {x : Expr} {f : Str} {es : List Expr} {ks : List Keyword} (h : vCallK x = some (f, es, ks)) : ∃ p q, x = .Call (.Name f p) es ks q := by
  unfold vCallK at h
  split at h
  · cases h; exact ⟨_, _, rfl⟩
  · cases h
theorem rd_esLen {evs : TV.Env → R (List D)} {pu : Bool} {n : Nat} (h : ∀ ρ ρ' ds, evs ρ = .ok ds ρ' → ds.length = n) (σ : L2.St) (H : Hp) (Q : List V → Hp → Prop) : tEs C evs pu σ H Q → tEs C evs pu σ H fun vs H1 => vs.length = n ∧ Q vs H1 := fun ⟨ρ, B, G, fp, r, q⟩ => by
  refine ⟨ρ, B, G, fp, r, ?_⟩
  cases e : evs ρ with
  | ok ds ρ' =>
    rw [e] at q
    exact fun B' G' H' fp' u p r' vs hvs => ⟨hvs.length.trans (h _ _ _ e), q B' G' H' fp' u p r' vs hvs⟩
  | err x ρ' => rw [e] at q; exact q
  | no => rw [e] at q; exact q
theorem arv_perm {B : Hp} {σ : L2.St} {vs : List V} {ds : List D} (h : DvAll C.K B vs ds) : ∀ {perm : List Nat} {ps : List Sh}, ps.length = perm.length → ps.all (fun p => decide (p = .s)) = true → ArV C.K C.κ σ B ps (permA perm ds) (perm.map fun j => vs.getD j .non)
  | [], [], _, _ => .nil
  | j :: perm, p :: ps, hl, hp => by
    rw [List.all_cons, Bool.and_eq_true, decide_eq_true_eq] at hp
    obtain ⟨rfl, hp⟩ := hp
    refine .s ?_ (arv_perm h (by simpa using hl) hp)
    show Dv C.K B (vs.getD j .non) (ds.getD j .none)
    rw [List.getD_eq_getElem?_getD, List.getD_eq_getElem?_getD]
    cases e : ds[j]? with
    | none =>
      have : vs[j]? = none := by
        rw [List.getElem?_eq_none_iff] at e ⊢
        rw [h.length]; exact e
      rw [this]; exact .non
    | some d =>
      obtain ⟨v, e2, r⟩ := h.get e
      rw [e2]; exact r
  | [], _ :: _, hl, _ => by simp at hl
  | _ :: _, [], hl, _ => by simp at hl
theorem roots_perm : ∀ {perm : List Nat} {ds : List D}, roots (permA perm ds) = [] ∧ pks (permA perm ds) = []
  | [], _ => ⟨rfl, rfl⟩
  | _ :: perm, ds => roots_perm (perm := perm) (ds := ds)
def ckCallK (T : Tb) (f : Nat) (perm : List Nat) (cs ck : CkEs) : Ck := fun sc own => dfl fun x => match vCallK x with
  | some (y, es, kws) => match T.F.find? (fun fe => decide (fe.name = y)) with
    | some fe => match cs.es sc own es, ck.kw sc own kws, fe.kw.find? (fun kp => decide (kp.n = es.length) && decide (kws.map (·.arg) = kp.ks.map some) && decide (kp.perm = perm)) with
      | some _, some _, some _ => if fe.ix = f ∧ isGl sc y = true ∧ es.all pl = true ∧ fe.ret.noz = true ∧ fe.ps.length = perm.length ∧ fe.ps.all (fun p => decide (p = .s)) = true ∧ (y == ("__debug__" : Str)) = false then some (fe.ret, false) else none
      | _, _, _ => none
    | none => none
  | _ => none
theorem kw_names {env : PySem.Env} {pos : Pos} : ∀ {kws : List Keyword} {ks : List Str}, kws.map (·.arg) = ks.map some → (backToKw pos (keywordEach kws env)).all (·.1.isSome) = true ∧ (backToKw pos (keywordEach kws env)).filterMap (·.1) = ks
  | [], [], _ => ⟨rfl, rfl⟩
  | ⟨n, v, p⟩ :: kws, k :: ks, h => by
    simp only [List.map_cons, List.cons.injEq] at h
    obtain ⟨h1, h2⟩ := kw_names (env := env) (pos := pos) h.2
    obtain ⟨rfl, _⟩ := h
    refine ⟨?_, ?_⟩
    · show (true && (backToKw pos (keywordEach kws env)).all (·.1.isSome)) = true
      rw [h1]; rfl
    · show k :: (backToKw pos (keywordEach kws env)).filterMap (·.1) = k :: ks
      rw [h2]
  | [], _ :: _, h => by simp at h
  | _ :: _, [], h => by simp at h
theorem so_callK {f : Nat} {perm : List Nat} {es ks : Es} {cs ck : CkEs} (hs : SoEs T Γ (evEs Γ es) cs) (hk : SoEs T Γ (evEs Γ ks) ck) : SoX T Γ (evE Γ (.callK f perm es ks)) (ckCallK T f perm cs ck) := so_dfl fun {C sc own k X x sh pu} g e => by
  split at e
  · rename_i hx
    split at e
    · rename_i fe hf
      split at e
      · rename_i e1 e2 e3
        split at e
        · rename_i hh
          cases e
          obtain ⟨rfl, h1, h2, h3, h4, h5, h6⟩ := hh
          obtain ⟨p, q, rfl⟩ := vCallK_eq hx
          obtain ⟨f, fd, k1, k2, _, k3, k4⟩ := g.fns fe (List.mem_of_find?_eq_some hf)
          have hn := List.find?_some hf
          simp only [decide_eq_true_eq] at hn
          rw [hn] at k1
          have hkp := List.find?_some e3
          simp only [Bool.and_eq_true, decide_eq_true_eq] at hkp
          obtain ⟨⟨n1, n2⟩, rfl⟩ := hkp
          refine PE.imp (pe_callGK (E := fun σ => WE C.W σ) k4 g.room g.gd (isGl_ok g.sc h1) k1 k2 (k3 _ (List.mem_of_find?_eq_some e3)) (passAt g.tk) (hs.es g e1) (hk.kw g e2) (fun pos => (kw_names n2).1) (fun pos => (kw_names n2).2) h6
            (fun σ H Q => rd_esLen (fun ρ ρ' ds q => by rw [n1]; exact (hs.len q (kws := [])).2 (by rw [e1]; rfl) h2) σ H Q)
            (fun σ H Q => rd_esLen (fun ρ ρ' ds q => by
              have l1 := (hk.len q (xs := []) (sc := sc) (own := own)).1 (by rw [e2]; rfl)
              have l2 := congrArg List.length n2
              simp only [List.length_map] at l2
              omega) σ H Q)
            (fun e r z => by subst z; rw [List.all_cons, Bool.and_eq_true] at h2; exact starEach_pl h2.1) (fun pos => any_pl h2) (fun z => by subst z; exact hs.nil e1)) ?_
          rintro σ H Q ⟨ρ, B, G, fp, R0, q⟩
          have q : Post C B G H σ false _ _ := q
          refine ⟨ρ, B, G, fp, R0, (q.bind (pu1 := _) (pu2 := false) (by simp)).mono fun ds B1 G1 H1 fp1 ρ1 _ _ r1 k vs hvs => ?_⟩
          refine ⟨ρ1, B1, G1, fp1, r1, (k.bind (pu1 := _) (pu2 := false) (by simp)).mono fun zs B2 G2 H2 fp2 ρ2 b2 _ r2 k ws hws => ?_⟩
          exact call_core (fi := ⟨fe.name, fe.ps, fe.ret, Γ fe.ix⟩) h3 (by rw [roots_perm.1]; exact List.nodup_nil) (fun i hi => by rw [roots_perm.2] at hi; cases hi) r2 (arv_perm ((hvs.mono b2.b).append hws) h4 h5) k
        · cases e
      · cases e
    · cases e
  · cases e
/-! isinstance, a module's int -/
def ckIsi (T : Tb) (n : String) (a : E) (ca : Ck) : Ck := fun sc own => dfl fun x => match vCall x with
  | some (y, [a', c']) => match vName c' with
    | some z => if y = ("isinstance" : Str) ∧ z = Str.ofString n ∧ okB T sc y = true ∧ okB T sc z = true ∧ pl a' = true then (toZ T a ca sc own a').map fun pu => (.s, pu) else none
    | none => none
  | _ => none
theorem isi_names {f : B1} {n : String} (hf : isTyN f = some n) : bootBuiltins (Str.ofString n) = some (.type n) ∧ Str.ofString n ≠ "__name__" ∧ (Str.ofString n == ("__debug__" : Str)) = false ∧ f.sh = .s := by
  cases f <;> simp only [isTyN, Option.some.injEq, reduceCtorEq] at hf <;> subst hf <;> exact ⟨rfl, by decide, by decide, rfl⟩
theorem so_isi {f : B1} {n : String} (hf : isTyN f = some n) {a : E} (h : SoX T Γ (evE Γ a) ca) : SoX T Γ (evE Γ (.b1 f a)) (ckIsi T n a ca) := so_dfl fun {C sc own k X x sh pu} g e => by
  split at e
  · rename_i hx
    split at e
    · rename_i hz
      split at e
      · rename_i hc
        have hs := map_pu e; clear e; obtain ⟨rfl, e⟩ := hs
        obtain ⟨rfl, rfl, c1, c2, c3⟩ := hc
        obtain ⟨p, q, rfl⟩ := vCall_eq hx
        obtain ⟨pz, rfl⟩ := vName_eq hz
        obtain ⟨n1, n2, n3, n4⟩ := isi_names hf
        have hn : PE X (.Name (Str.ofString n) pz) (tC (.ty n)) := pe_bltn (okB_ok g c2).1 (okB_ok g c2).2 n1 rfl n2 n3
        have hp : PE X (.Call (.Name "isinstance" p) [_, .Name (Str.ofString n) pz] [] q) (tCB (rIsi X.K) (L2.tCons (tZ C (evE Γ a) pu) (L2.tCons (tC (.ty n)) L2.tNil))) := pe_callB call_isi (okB_ok g c1).1 (okB_ok g c1).2 rfl (pa_cons (h.z g e) (pa_cons hn pa_nil rfl) (starEach_pl c3)) (by decide) (by decide) (starEach_pl c3) rfl
        refine PE.imp hp fun σ H Q hq => ?_
        have := rd_un (C := C) (eva := evE Γ a) (pa := pu) (g := b1 f) (sh := .s) (r := fun x H Q => rIsi X.K [x, .ty n] H Q) (fun x H Q h => ri_isi hf (by rw [← g.K] at h; exact h)) σ H Q hq
        exact this
      · cases e
    · cases e
  · cases e
def ckB1 (T : Tb) (f : B1) (a : E) (ca : Ck) : Ck := match isTyN f with
  | some n => ckIsi T n a ca
  | none => ckB1o T f a ca
theorem so_b1 {f : B1} {a : E} (h : SoX T Γ (evE Γ a) ca) : SoX T Γ (evE Γ (.b1 f a)) (ckB1 T f a ca) := by
  unfold ckB1
  split
  · rename_i hf
    exact so_isi hf h
  · exact so_b1o h
def ckGc (T : Tb) (y : Str) (d : D) : Ck := fun sc own => dfl fun x => match vName x, d with
  | some z, .int i => if z = y ∧ isGl sc z = true ∧ T.B.contains (z, some i) = true ∧ (z == ("__debug__" : Str)) = false then some (.s, true) else none
  | _, _ => none
theorem so_gc {y : Str} {d : D} : SoX T Γ (evE Γ (.gc y d)) (ckGc T y d) := so_dfl fun {C sc own k X x sh pu} g e => by
  split at e
  · rename_i hx
    split at e
    · rename_i hc
      obtain ⟨rfl, c1, c2, c3⟩ := hc
      cases e
      obtain ⟨p, rfl⟩ := vName_eq hx
      obtain ⟨t, ht⟩ := g.free _ (by simpa using c2)
      exact pe_natS (te_const (pe_glob (v := .int _) (isGl_ok g.sc c1) ht ⟨t, rfl⟩ c3) fun _ => .int _)
    · cases e
  · cases e
end
end TV

/-! V19: what is walked, comprehensions, pops; all expressions. -/
namespace TV
open PySem PySem.Spec PyProof.Rows L2
mutual
def Tg.slotsB : Tg → List Nat
  | .v i => [i]
  | .t ts => Tgs.slotsB ts
def Tgs.slotsB : Tgs → List Nat
  | .nil => []
  | .cons t ts => Tg.slotsB t ++ Tgs.slotsB ts
end
section
variable {T : Tb} {Γ : Nat → Fn} {C : Ct} {sc : Scope} {own : Str → Bool} {k : Nat} {X : Cx} {ev eva evb evc : TV.Env → R D} {ca cb cc : Ck}
abbrev CkW := Scope → (Str → Bool) → Expr → Expr → Option Bool
def SoW (T : Tb) (Γ : Nat → Fn) (ev : TV.Env → R (List D)) (c : CkW) : Prop :=
  ∀ {C : Ct} {sc : Scope} {own : Str → Bool} {k : Nat} {X : Cx} {tg x : Expr} {pu : Bool}, GX T Γ C sc own k X → c sc own tg x = some pu → PI X tg x (tW C ev pu) ∧ ∀ z, foldedSetIterable x X.env z = pure z
def ckWSeq (ca : Ck) : CkW := fun sc own _ x => if noSet x then toS (ca sc own x).1 else none
theorem so_wseq {a : E} (ha : SoX T Γ (evE Γ a) ca) : SoW T Γ (evW Γ (.seq a)) (ckWSeq ca) := fun {C sc own k X tg x pu} g e => by
  unfold ckWSeq at e
  split at e
  · rename_i hn
    refine ⟨tw_seq ?_, noSet_is hn⟩
    rw [← g.K]
    exact pi_seq (ha.s g e)
  · cases e
def ckWR1 (T : Tb) (ca : Ck) : CkW := fun sc own _ x => match vCall x with
  | some (y, [a']) => if y = ("range" : Str) ∧ okB T sc y = true ∧ pl a' = true then toS (ca sc own a').1 else none
  | _ => none
theorem so_wr1 {a : E} (ha : SoX T Γ (evE Γ a) ca) : SoW T Γ (evW Γ (.rng1 a)) (ckWR1 T ca) := fun {C sc own k X tg x pu} g e => by
  unfold ckWR1 at e
  split at e
  · rename_i hx
    split at e
    · rename_i hc
      obtain ⟨rfl, h1, h2⟩ := hc
      obtain ⟨p, q, rfl⟩ := vCall_eq hx
      exact ⟨tw_rng1 (pi_range1 (okB_ok g h1).1 (okB_ok g h1).2 (pa_cons (ha.s g e) pa_nil (starEach_pl h2)) (starEach_pl h2)), fun _ => rfl⟩
    · cases e
  · cases e
def ckWR2 (T : Tb) (ca cb : Ck) : CkW := fun sc own _ x => match vCall x with
  | some (y, [a', b']) => if y = ("range" : Str) ∧ okB T sc y = true ∧ pl a' = true ∧ pl b' = true then two (· && ·) (toS (ca sc own a').1) (toS (cb sc own b').1) else none
  | _ => none
theorem so_wr2 {a b : E} (ha : SoX T Γ (evE Γ a) ca) (hb : SoX T Γ (evE Γ b) cb) : SoW T Γ (evW Γ (.rng2 a b)) (ckWR2 T ca cb) := fun {C sc own k X tg x pu} g e => by
  unfold ckWR2 at e
  split at e
  · rename_i hx
    split at e
    · rename_i hc
      obtain ⟨rfl, h1, h2, h3⟩ := hc
      obtain ⟨pa, pb, e1, e2, rfl⟩ := two_eq e
      obtain ⟨p, q, rfl⟩ := vCall_eq hx
      exact ⟨tw_rng2 (pi_range2 (okB_ok g h1).1 (okB_ok g h1).2 (pa_cons (ha.s g e1) (pa_cons (hb.s g e2) pa_nil (starEach_pl h3)) (starEach_pl h2)) (by rw [starEach_pl h2, starEach_pl h3]; rfl) (starEach_pl h3)), fun _ => rfl⟩
    · cases e
  · cases e
def ckWR3 (T : Tb) (ca cb cc : Ck) : CkW := fun sc own _ x => match vCall x with
  | some (y, [a', b', c']) => if y = ("range" : Str) ∧ okB T sc y = true ∧ pl a' = true ∧ pl b' = true ∧ pl c' = true then two (· && ·) (toS (ca sc own a').1) (two (· && ·) (toS (cb sc own b').1) (toS (cc sc own c').1)) else none
  | _ => none
theorem so_wr3 {a b c : E} (ha : SoX T Γ (evE Γ a) ca) (hb : SoX T Γ (evE Γ b) cb) (hc : SoX T Γ (evE Γ c) cc) : SoW T Γ (evW Γ (.rng3 a b c)) (ckWR3 T ca cb cc) := fun {C sc own k X tg x pu} g e => by
  unfold ckWR3 at e
  split at e
  · rename_i hx
    split at e
    · rename_i hh
      obtain ⟨rfl, h1, h2, h3, h4⟩ := hh
      obtain ⟨pa, pq, e1, e2, rfl⟩ := two_eq e
      obtain ⟨pb, pc, e4, e5, rfl⟩ := two_eq e2
      obtain ⟨p, q, rfl⟩ := vCall_eq hx
      exact ⟨tw_rng3 (pi_range3 (okB_ok g h1).1 (okB_ok g h1).2 (pa_cons (ha.s g e1) (pa_cons (hb.s g e4) (pa_cons (hc.s g e5) pa_nil (starEach_pl h4)) (starEach_pl h3)) (starEach_pl h2)) (starEach_pl h2) (any_pl (by simp [h3, h4]))), fun _ => rfl⟩
    · cases e
  · cases e
def ckWEnum (T : Tb) (ca : Ck) : CkW := fun sc own tg x => match vCall x, vTup tg with
  | some (y, [a']), some _ => if y = ("enumerate" : Str) ∧ okB T sc y = true ∧ pl a' = true then toS (ca sc own a').1 else none
  | _, _ => none
theorem so_wenum {a : E} (ha : SoX T Γ (evE Γ a) ca) : SoW T Γ (evW Γ (.enum a)) (ckWEnum T ca) := fun {C sc own k X tg x pu} g e => by
  unfold ckWEnum at e
  split at e
  · rename_i hx ht
    split at e
    · rename_i hc
      obtain ⟨rfl, h1, h2⟩ := hc
      obtain ⟨p, q, rfl⟩ := vCall_eq hx
      obtain ⟨j, r, rfl⟩ := vTup_eq ht
      refine ⟨tw_enum ?_, fun _ => rfl⟩
      rw [← g.K]
      exact pi_enumA (okB_ok g h1).1 (okB_ok g h1).2 (pa_cons (ha.s g e) pa_nil (starEach_pl h2)) (starEach_pl h2)
    · cases e
  · cases e
def ckWZip (T : Tb) (ca cb : Ck) : CkW := fun sc own tg x => match vCall x, vTup tg with
  | some (y, [a', b']), some _ => if y = ("zip" : Str) ∧ okB T sc y = true ∧ pl a' = true ∧ pl b' = true then two (· && ·) (toS (ca sc own a').1) (toS (cb sc own b').1) else none
  | _, _ => none
theorem so_wzip {a b : E} (ha : SoX T Γ (evE Γ a) ca) (hb : SoX T Γ (evE Γ b) cb) : SoW T Γ (evW Γ (.zip a b)) (ckWZip T ca cb) := fun {C sc own k X tg x pu} g e => by
  unfold ckWZip at e
  split at e
  · rename_i hx ht
    split at e
    · rename_i hc
      obtain ⟨rfl, h1, h2, h3⟩ := hc
      obtain ⟨pa, pb, e1, e2, rfl⟩ := two_eq e
      obtain ⟨p, q, rfl⟩ := vCall_eq hx
      obtain ⟨j, r, rfl⟩ := vTup_eq ht
      refine ⟨tw_zip ?_, fun _ => rfl⟩
      rw [← g.K]
      exact RZ.pi_zipA (okB_ok g h1).1 (okB_ok g h1).2 (pa_cons (ha.s g e1) (pa_cons (hb.s g e2) pa_nil (starEach_pl h3)) (starEach_pl h2)) (starEach_pl h2) (any_pl (by simp [h3]))
    · cases e
  · cases e
/-! ### comprehensions -/
def owB (scope : Scope) : Str → Bool := fun x => scope.names.lookup x == some .cell
def owN (T : Tb) (vs : List Nat) : List (Str × Nat) := vs.map fun i => (T.N.getD i default, i)
theorem owN_snd {vs : List Nat} : (owN T vs).map (·.2) = vs := by unfold owN; simp [Function.comp_def]
theorem GX.blk (g : GX T Γ C sc own k X) (scope : Scope) (s : Shared) (H : Hp) (c : Addr) (cl : List (Str × Addr)) (fp : List Addr) : GX T Γ C.blk (relS scope sc) (owB scope) k (X.blk s H scope (compEnvC scope cl c X.env) fp) where
  N := g.N
  nd := g.nd
  K := g.K
  κ := g.κ
  sc := by
    show relS scope X.env.scope = _
    rw [g.sc]
  own := rfl
  calm := g.calm
  gd := g.gd
  room := g.room
  tk := takes0
  free := g.free
  fns := g.fns
def lcOk (T : Tb) (sc : Scope) (vs : List Nat) (tg : Tg) (scope : Scope) (tg' : Expr) : Bool := blkC T.N sc scope (owN T vs) && vs.all (fun i => decide (T.κ[i]? = some .s)) && tg.slots.all (fun j => vs.contains j) && ckT T (relS scope sc) (owB scope) tg tg'
def eLc (T : Tb) (vs : List Nat) (tg : Tg) (cw : CkW) (ce : Ck) (sc : Scope) (own : Str → Bool) (x : Expr) : Option (Sh × Bool) := match vLc x with
  | some (elt, tg', it, [], scope) => if lcOk T sc vs tg scope tg' then two (fun a b => (.l .s, a && b)) (cw sc own tg' it) (toS (ce (relS scope sc) (owB scope) elt).1) else none
  | _ => none
def eLci (T : Tb) (vs : List Nat) (tg : Tg) (cw : CkW) (cc ce : Ck) (sc : Scope) (own : Str → Bool) (x : Expr) : Option (Sh × Bool) := match vLc x with
  | some (elt, tg', it, [c'], scope) => if lcOk T sc vs tg scope tg' then two (fun a b => (.l .s, a && b)) (cw sc own tg' it) (two (· && ·) (cc (relS scope sc) (owB scope) c').2 (toS (ce (relS scope sc) (owB scope) elt).1)) else none
  | _ => none
theorem eLc_ok {vs : List Nat} {tg : Tg} {w : W} {e : E} {cw : CkW} {ce : Ck} {x : Expr} {sh : Sh} {pu : Bool} (hw : SoW T Γ (evW Γ w) cw) (he : SoX T Γ (evE Γ e) ce) (g : GX T Γ C sc own k X) (h : eLc T vs tg cw ce sc own x = some (sh, pu)) : PE X x (tN C (evE Γ (.lc vs w tg e)) pu sh) := by
  unfold eLc at h
  split at h
  · rename_i scope hx
    split at h
    · rename_i hl
      obtain ⟨pa, pb, e1, e2, e3⟩ := two_eq h
      cases e3
      obtain ⟨p, rfl⟩ := vLc_eq hx
      unfold lcOk at hl
      simp only [Bool.and_eq_true] at hl
      obtain ⟨⟨⟨l1, l2⟩, l3⟩, l4⟩ := hl
      obtain ⟨w1, w2⟩ := hw g e1
      refine te_lc (fun v hv => ?_) (fun j hj => ?_) (tg_of (C := C.blk) g.κ l4) body_all ?_
      · rw [g.κ]
        simpa using List.all_eq_true.mp l2 v hv
      · simpa using List.all_eq_true.mp l3 j hj
      · have z := pe_lc (X := X) (pos := p) (own := owN T vs) g.calm (by rw [g.N]; exact g.nd) w1 (by rw [g.N, g.sc]; exact blkOk_by l1) (fun s H c cl fp => pg_of (g.blk scope s H c cl fp) l4) (fun s H c cl fp => pts_nil) (fun s H c cl fp => he.s (g.blk scope s H c cl fp) e2) w2
        rw [owN_snd] at z
        exact z
    · cases h
  · cases h
theorem eLci_ok {vs : List Nat} {tg : Tg} {w : W} {c e : E} {cw : CkW} {ce : Ck} {x : Expr} {sh : Sh} {pu : Bool} (hw : SoW T Γ (evW Γ w) cw) (hc : SoX T Γ (evE Γ c) cc) (he : SoX T Γ (evE Γ e) ce) (g : GX T Γ C sc own k X) (h : eLci T vs tg cw cc ce sc own x = some (sh, pu)) : PE X x (tN C (evE Γ (.lci vs w tg c e)) pu sh) := by
  unfold eLci at h
  split at h
  · rename_i scope hx
    split at h
    · rename_i hl
      obtain ⟨pa, pb, e1, e2, e3⟩ := two_eq h
      cases e3
      obtain ⟨pc, pe, e4, e5, rfl⟩ := two_eq e2
      obtain ⟨p, rfl⟩ := vLc_eq hx
      unfold lcOk at hl
      simp only [Bool.and_eq_true] at hl
      obtain ⟨⟨⟨l1, l2⟩, l3⟩, l4⟩ := hl
      obtain ⟨w1, w2⟩ := hw g e1
      refine te_lc (fun v hv => ?_) (fun j hj => ?_) (tg_of (C := C.blk) g.κ l4) body_if ?_
      · rw [g.κ]
        simpa using List.all_eq_true.mp l2 v hv
      · simpa using List.all_eq_true.mp l3 j hj
      · have z := pe_lc (X := X) (pos := p) (own := owN T vs) g.calm (by rw [g.N]; exact g.nd) w1 (by rw [g.N, g.sc]; exact blkOk_by l1) (fun s H c cl fp => pg_of (g.blk scope s H c cl fp) l4) (fun s H c cl fp => pts_one (hc.b (g.blk scope s H c cl fp) e4).1) (fun s H c cl fp => he.s (g.blk scope s H c cl fp) e5) w2
        rw [owN_snd] at z
        exact z
    · cases h
  · cases h
/-! ### places -/
def ckPl (T : Tb) (sc : Scope) : Pl → Expr → Bool
  | .v i, x => match vName x with
    | some y => okN T sc i y
    | none => false
  | .f i j k, x => match vSub x with
    | some (o, ix) => match vName o with
      | some y => okN T sc i y && decide (vConst ix = some (.str k))
      | none => false
    | none => false
theorem so_pl {p : Pl} {x : Expr} (g : GX T Γ C sc own k X) (h : ckPl T sc p x = true) : PE X x (tPl p) ∧ noSup x = true := by
  have hu := room_lt g.room
  cases p with
  | v i =>
    simp only [ckPl] at h
    split at h
    · rename_i hx
      obtain ⟨p, rfl⟩ := vName_eq hx
      exact ⟨te_plV (okN_ok g h), rfl⟩
    · cases h
  | f i j f =>
    simp only [ckPl] at h
    split at h
    · rename_i hx
      split at h
      · rename_i hy
        simp only [Bool.and_eq_true, decide_eq_true_eq] at h
        obtain ⟨p, rfl⟩ := vSub_eq hx
        obtain ⟨p', rfl⟩ := vName_eq hy
        obtain ⟨j', p2, rfl⟩ := vConst_eq h.2
        exact ⟨te_plF (e := .Constant .none 0 p) (by omega) (okN_ok g h.1) pe_str (fun _ _ => rfl), rfl⟩
      · cases h
    · cases h
def ckPop (T : Tb) (p : Pl) : Ck := fun sc _ => dfl fun x => match vMeth x with
  | some (o, m, []) => if m = ("pop" : Str) ∧ ckPl T sc p o = true ∧ plOk T.κ p = true then some (.s, false) else none
  | _ => none
theorem so_pop {p : Pl} : SoX T Γ (evE Γ (.pop p)) (ckPop T p) := so_dfl fun {C sc own k X x sh pu} g e => by
  split at e
  · rename_i hx
    split at e
    · rename_i hc
      cases e
      obtain ⟨rfl, h1, h2⟩ := hc
      obtain ⟨q, r, rfl, hl⟩ := vMeth_eq hx
      obtain ⟨z1, z2⟩ := so_pl g h1
      have z := pe_bm0 PySem.F.plainAttrs_list PySem.F.slot_list_pop PySem.F.type_list_pop mt_pop z1 (noSup_base z2) hl
      rw [g.K] at z
      exact pe_natS (te_pop (by rw [g.κ]; exact h2) z)
    · cases e
  · cases e
def isVP : Pl → Bool
  | .v _ => true
  | _ => false
def ckPopAt (T : Tb) (p : Pl) (ca : Ck) : Ck := fun sc own => dfl fun x => match vMeth x with
  | some (o, m, [a']) => match toS (ca sc own a').1 with
    | some pa => if m = ("pop" : Str) ∧ ckPl T sc p o = true ∧ plOk T.κ p = true ∧ pl a' = true ∧ (p.isV = true ∨ pa = true) then some (.s, false) else none
    | none => none
  | _ => none
theorem so_popAt {p : Pl} {a : E} (ha : SoX T Γ (evE Γ a) ca) : SoX T Γ (evE Γ (.popAt p a)) (ckPopAt T p ca) := so_dfl fun {C sc own k X x sh pu} g e => by
  split at e
  · rename_i hx
    split at e
    · rename_i ea
      split at e
      · rename_i hc
        cases e
        obtain ⟨rfl, h1, h2, h3, h4⟩ := hc
        obtain ⟨q, r, rfl, hl⟩ := vMeth_eq hx
        obtain ⟨z1, z2⟩ := so_pl g h1
        have z := pe_bm PySem.F.plainAttrs_list PySem.F.slot_list_pop PySem.F.type_list_pop mt_popAt z1 (pa_cons (ha.s g ea) pa_nil (starEach_pl h3)) (noSup_base z2) (by rw [few_pl (by simp [h3])]; rfl) hl (starEach_pl h3) rfl
        rw [g.K] at z
        exact pe_natS (te_popAt (by rw [g.κ]; exact h2) h4 z)
      · cases e
    · cases e
  · cases e
/-! ### an owned list walked, a dict asked -/
def ckLcp (T : Tb) (i : Nat) (vs : List Nat) (tg : Tg) (ce : Ck) : Ck := fun sc own => dfl fun x => match vLc x with
  | some (elt, tg', it, [], scope) => match vName it, toS (ce (relS scope sc) (owB scope) elt).1 with
    | some y, some pe => if lcOk T sc vs tg scope tg' = true ∧ okN T sc i y = true ∧ T.κ[i]? = some (.l .s) then some (.l .s, pe) else none
    | _, _ => none
  | _ => none
theorem so_lcp {i : Nat} {vs : List Nat} {tg : Tg} {e : E} {ce : Ck} (he : SoX T Γ (evE Γ e) ce) : SoX T Γ (evE Γ (.lcp i vs tg e)) (ckLcp T i vs tg ce) := so_dfl fun {C sc own k X x sh pu} g h => by
  split at h
  · rename_i hx
    split at h
    · rename_i hy e2
      split at h
      · rename_i hc
        cases h
        obtain ⟨hl, h1, h2⟩ := hc
        obtain ⟨p, rfl⟩ := vLc_eq hx
        obtain ⟨q, rfl⟩ := vName_eq hy
        unfold lcOk at hl
        simp only [Bool.and_eq_true] at hl
        obtain ⟨⟨⟨l1, l2⟩, l3⟩, l4⟩ := hl
        refine te_lcp (by rw [g.κ]; exact h2) (fun v hv => ?_) (fun j hj => ?_) (tg_of (C := C.blk) g.κ l4) body_all ?_
        · rw [g.κ]
          simpa using List.all_eq_true.mp l2 v hv
        · simpa using List.all_eq_true.mp l3 j hj
        · have z := pe_lc (X := X) (pos := p) (own := owN T vs) g.calm (by rw [g.N]; exact g.nd) (pi_seq (okN_ok (p := q) g h1)) (by rw [g.N, g.sc]; exact blkOk_by l1) (fun s H c cl fp => pg_of (g.blk _ s H c cl fp) l4) (fun s H c cl fp => pts_nil) (fun s H c cl fp => he.s (g.blk _ s H c cl fp) e2) (fun _ => rfl)
          rw [owN_snd] at z
          rw [← g.K]
          exact z
      · cases h
    · cases h
  · cases h
def ckDnew : Ck := fun _ _ => dfl fun x => match vDict x with
  | some ([], []) => some (.r [], true)
  | _ => none
theorem so_dnew : SoX T Γ (evE Γ .dnew) ckDnew := so_dfl fun {C sc own k X x sh pu} g h => by
  split at h
  · rename_i hx
    cases h
    obtain ⟨p, rfl⟩ := vDict_eq hx
    exact te_dnew pe_dnewK
  · cases h
def ckAddO (T : Tb) (f : B2) (i : Nat) (b : E) (cb : Ck) : Ck := fun sc own => dfl fun x => match vBin x with
  | some (op, a', b') => match vName a', toP T b cb sc own b' with
    | some y, some pu => if op = .Add ∧ okN T sc i y = true ∧ T.κ[i]? = some (.l .s) ∧ (f = .add ∨ f = .addL) then some (f.sh, pu) else none
    | _, _ => none
  | _ => none
theorem so_addO {f : B2} {i : Nat} {b : E} {cb : Ck} (hb : SoX T Γ (evE Γ b) cb) : SoX T Γ (evE Γ (.addO f i b)) (ckAddO T f i b cb) := so_dfl fun {C sc own k X x sh pu} g h => by
  split at h
  · rename_i hx
    split at h
    · rename_i hy eb
      split at h
      · rename_i hc
        cases h
        obtain ⟨rfl, h1, h2, h3⟩ := hc
        obtain ⟨p, rfl⟩ := vBin_eq hx
        obtain ⟨q, rfl⟩ := vName_eq hy
        rcases h3 with rfl | rfl
        · exact te_addO (by rw [g.κ]; exact h2) (pe_op vo_add (okN_ok g h1) (hb.p g eb)) fun x y H Q h => h.to g
        · exact te_addO (by rw [g.κ]; exact h2) (pe_op vo_addL (okN_ok g h1) (hb.p g eb)) fun x y H Q h => h.to g
      · cases h
    · cases h
  · cases h
def ckDget (T : Tb) (i : Nat) (ca cb : Ck) : Ck := fun sc own => dfl fun x => match vMeth x with
  | some (o, m, [a', b']) => match vName o, toS (ca sc own a').1, toS (cb sc own b').1 with
    | some y, some pa, some pb => if m = ("get" : Str) ∧ okN T sc i y = true ∧ T.κ[i]? = some (.r []) ∧ pl a' = true ∧ pl b' = true then some (.s, pa && pb) else none
    | _, _, _ => none
  | _ => none
theorem so_dget {i : Nat} {a b : E} {ca cb : Ck} (ha : SoX T Γ (evE Γ a) ca) (hb : SoX T Γ (evE Γ b) cb) : SoX T Γ (evE Γ (.dget i a b)) (ckDget T i ca cb) := so_dfl fun {C sc own k X x sh pu} g h => by
  have hu := room_lt g.room
  split at h
  · rename_i hx
    split at h
    · rename_i hy e1 e2
      split at h
      · rename_i hc
        cases h
        obtain ⟨rfl, h1, h2, h3, h4⟩ := hc
        obtain ⟨q, r, rfl, hl⟩ := vMeth_eq hx
        obtain ⟨q2, rfl⟩ := vName_eq hy
        exact pe_natS (te_dget (by rw [g.κ]; exact h2) (pe_dget2 (by omega) (okN_ok g h1) (ha.s g e1) (hb.s g e2) ⟨noSup_base rfl, by rw [few_pl (by simp [h3, h4])]; rfl, hl, by rw [starEach_pl h3, starEach_pl h4]; rfl⟩))
      · cases h
    · cases h
  · cases h
end
/-! ### all -/
def ckNo : Ck := fun _ _ _ => (none, none)
def ckWNo : CkW := fun _ _ _ _ => none
mutual
def chX (T : Tb) : E → Ck
  | .v i => ckV T i
  | .mv i => ckMv T i
  | .c d => ckC d
  | .gc x d => ckGc T x d
  | .fld i j k => ckFld T i j k
  | .b1 f a => ckB1 T f a (chX T a)
  | .b2 f a b => ckB2 T f a b (chX T a) (chX T b)
  | .ch f g a b c => ckCh T f g (chX T a) (chX T b) (chX T c)
  | .and_ a b => ckBo .And (chX T a) (chX T b)
  | .or_ a b => ckBo .Or (chX T a) (chX T b)
  | .not_ a => ckNot (chX T a)
  | .ite c a b => ckIf (chX T c) (chX T a) (chX T b)
  | .tup es => ckTup (chEs T es)
  | .lst es => ckLst (chEs T es)
  | .rec_ ks es => ckRec ks (chEs T es)
  | .call f es => ckCall T f es (chAs T es)
  | .callK f perm es ks => ckCallK T f perm (chEs T es) (chEs T ks)
  | .lc vs w tg e => fun sc own => dfl (eLc T vs tg (chW T w) (chX T e) sc own)
  | .lci vs w tg c e => fun sc own => dfl (eLci T vs tg (chW T w) (chX T c) (chX T e) sc own)
  | .lcp i vs tg e => ckLcp T i vs tg (chX T e)
  | .dget i a b => ckDget T i (chX T a) (chX T b)
  | .dnew => ckDnew
  | .addO f i b => ckAddO T f i b (chX T b)
  | .pop p => ckPop T p
  | .popAt p e => ckPopAt T p (chX T e)
def chEs (T : Tb) : Es → CkEs
  | .nil => ckNil
  | .cons e es => ckCons (chX T e) (chEs T es)
  | .star e es => ckStar T e (chX T e) (chEs T es)
def chAs (T : Tb) : As → CkAs
  | .nil => ckANil
  | .val e es => ckAVal (chX T e) (chAs T es)
  | .io i es => ckAIo T i (chAs T es)
  | .pk i es => ckAPk T i (chAs T es)
def chW (T : Tb) : W → CkW
  | .seq e => ckWSeq (chX T e)
  | .rng1 e => ckWR1 T (chX T e)
  | .rng2 a b => ckWR2 T (chX T a) (chX T b)
  | .rng3 a b c => ckWR3 T (chX T a) (chX T b) (chX T c)
  | .enum e => ckWEnum T (chX T e)
  | .zip a b => ckWZip T (chX T a) (chX T b)
end
section
variable {T : Tb} {Γ : Nat → Fn}
theorem so_no {ev : TV.Env → R D} : SoX T Γ ev ckNo where
  e := fun _ h => by cases h
  b := fun _ h => by cases h
mutual
theorem soX : ∀ e : E, SoX T Γ (evE Γ e) (chX T e)
  | .v i => by unfold chX; exact so_v
  | .mv i => by unfold chX; exact so_mv
  | .c d => by unfold chX; exact so_c
  | .gc x d => by unfold chX; exact so_gc
  | .fld i j k => by unfold chX; exact so_fld
  | .b1 f a => by unfold chX; exact so_b1 (soX a)
  | .b2 f a b => by unfold chX; exact so_b2 (soX a) (soX b)
  | .ch f g a b c => by unfold chX; exact so_ch (soX a) (soX b) (soX c)
  | .and_ a b => by unfold chX; exact so_and (soX a) (soX b)
  | .or_ a b => by unfold chX; exact so_or (soX a) (soX b)
  | .not_ a => by unfold chX; exact so_not (soX a)
  | .ite c a b => by unfold chX; exact so_if (soX c) (soX a) (soX b)
  | .tup es => by unfold chX; exact so_tup (soEs es)
  | .lst es => by unfold chX; exact so_lst (soEs es)
  | .rec_ ks es => by unfold chX; exact so_rec (soEs es)
  | .call f es => by unfold chX; exact so_call (soAs es)
  | .callK f perm es ks => by unfold chX; exact so_callK (soEs es) (soEs ks)
  | .lc vs w tg e => by unfold chX; exact so_dfl fun g h => eLc_ok (soW w) (soX e) g h
  | .lci vs w tg c e => by unfold chX; exact so_dfl fun g h => eLci_ok (soW w) (soX c) (soX e) g h
  | .lcp i vs tg e => by unfold chX; exact so_lcp (soX e)
  | .dget i a b => by unfold chX; exact so_dget (soX a) (soX b)
  | .dnew => by unfold chX; exact so_dnew
  | .addO f i b => by unfold chX; exact so_addO (soX b)
  | .pop p => by unfold chX; exact so_pop
  | .popAt p e => by unfold chX; exact so_popAt (soX e)
theorem soEs : ∀ es : Es, SoEs T Γ (evEs Γ es) (chEs T es)
  | .nil => by unfold chEs; exact so_nil
  | .cons e es => by unfold chEs; exact so_cons (soX e) (soEs es)
  | .star e es => by unfold chEs; exact so_star (soX e) (soEs es)
theorem soAs : ∀ es : As, SoAs T Γ (evAs Γ es) (chAs T es)
  | .nil => by unfold chAs; exact so_anil
  | .val e es => by unfold chAs; exact so_aval (soX e) (soAs es)
  | .io i es => by unfold chAs; exact so_aio (soAs es)
  | .pk i es => by unfold chAs; exact so_apk (soAs es)
theorem soW : ∀ w : W, SoW T Γ (evW Γ w) (chW T w)
  | .seq e => by unfold chW; exact so_wseq (soX e)
  | .rng1 e => by unfold chW; exact so_wr1 (soX e)
  | .rng2 a b => by unfold chW; exact so_wr2 (soX a) (soX b)
  | .rng3 a b c => by unfold chW; exact so_wr3 (soX a) (soX b) (soX c)
  | .enum e => by unfold chW; exact so_wenum (soX e)
  | .zip a b => by unfold chW; exact so_wzip (soX a) (soX b)
end
end
end TV

/-! V20: the check of statements. -/
namespace TV
open PySem PySem.Spec PyProof.Rows L2
/-! ### what the text must show -/
def nlc : Expr → Bool
  | .ListComp .. => false
  | .SetComp .. => false
  | .DictComp .. => false
  | _ => true
theorem sw_nlc {e : Expr} {t : Option Expr} {l : Nat} {env : PySem.Env} (h : nlc e = true) : swapsWith e t l env = pure false := by cases e <;> first | rfl | cases h
def nnm : Expr → Bool
  | .Name .. => false
  | _ => true
theorem sw_nnm {e t : Expr} {l : Nat} {env : PySem.Env} (h : nnm t = true) : swapsWith e (some t) l env = pure false := by
  cases e <;> first | rfl | (cases t <;> first | rfl | cases h)
theorem sw_cell {elt : Expr} {gs : List Comprehension} {scope : Scope} {pos py : Pos} {y : Str} {l : Nat} {env : PySem.Env} (hy : env.scope.names.lookup y ≠ some .local) : swapsWith (.ListComp elt gs scope pos) (some (.Name y py)) l env = pure false := by
  have ky : (env.kindOf y == some .local) = false := by
    unfold Env.kindOf
    simpa using hy
  unfold swapsWith
  simp only [ky]
  simp
/-- swapped stores: none -/
def swNo (sc : Scope) (ts vs : List Expr) : Bool :=
  !(ts.length == 2 || ts.length == 3) || vs.length != ts.length || (vs.any fun | .Starred .. => true | _ => false) ||
  ((ts.filterMap fun
    | .Name id pos => if sc.names.lookup id == some .local && pos.line == (ts.head?.map (·.pos.line)).getD 0 then some id else none
    | _ => none).length != ts.length) || vs.all (foldedForSure 8)
theorem bk_fun {env : PySem.Env} (h : env.scope.kind = .function) : env.blockKind = .function := by unfold Env.blockKind; rw [h]; rfl
theorem sw_no {env : PySem.Env} {ts vs : List Expr} {k1 k2 : Nat} {p1 p2 : Pos} (hk : env.scope.kind = .function) (h : swNo env.scope ts vs = true) : swappedStores [.Tuple ts k1 p1] (.Tuple vs k2 p2) env = pure none := by
  have hb := bk_fun hk
  unfold swNo at h
  simp only [Bool.or_eq_true] at h
  unfold swappedStores Env.kindOf
  dsimp only
  split
  · rfl
  rename_i n1
  split
  · rfl
  rename_i n2
  split
  · rfl
  rename_i n3
  split
  · rfl
  rename_i n4
  exfalso
  rcases h with (((h | h) | h) | h) | h
  · exact n1 (by simp [h])
  · exact n1 (by simp [h])
  · exact n2 h
  · exact n3 (by
      rw [Bool.or_eq_true]
      exact .inl h)
  · exact n4 h
def swNames (sc : Scope) (ts : List Expr) : List Str := ts.filterMap fun
    | .Name id pos => if sc.names.lookup id == some .local && pos.line == (ts.head?.map (·.pos.line)).getD 0 then some id else none
    | _ => none
def swYes (sc : Scope) (ts vs : List Expr) (names : List Str) : Bool :=
  (ts.length == 2 || ts.length == 3) && vs.length == ts.length && !(vs.any fun | .Starred .. => true | _ => false) &&
  decide (swNames sc ts = names) && names.length == ts.length && names.eraseDups.length == names.length && !(vs.all (foldedForSure 8)) && !(vs.all (constantsAlone 8))
theorem sw_yes {env : PySem.Env} {ts vs : List Expr} {names : List Str} {k1 k2 : Nat} {p1 p2 : Pos} (hk : env.scope.kind = .function) (h : swYes env.scope ts vs names = true) : swappedStores [.Tuple ts k1 p1] (.Tuple vs k2 p2) env = pure (some names) := by
  have hb := bk_fun hk
  unfold swYes at h
  simp only [Bool.and_eq_true, decide_eq_true_eq, Bool.not_eq_true'] at h
  obtain ⟨⟨⟨⟨⟨⟨⟨h1, h2⟩, h3⟩, h4⟩, h5⟩, h6⟩, h7⟩, h8⟩ := h
  have key : ∀ l : List Str, l = names → ¬ ((l.length != ts.length || l.eraseDups.length != l.length) = true) := fun l e => by
    subst e
    simp at h5 h6 ⊢
    exact ⟨h5, h6⟩
  unfold swappedStores Env.kindOf
  dsimp only
  split
  · rename_i n1
    rw [h1, hb] at n1
    simp at n1 h2
    exact absurd h2 n1
  split
  · rename_i n2
    exact absurd n2 (by rw [Bool.not_eq_true]; exact h3)
  split
  · rename_i n3
    exact (key _ h4 n3).elim
  split
  · rename_i n4
    exact absurd n4 (by rw [Bool.not_eq_true]; exact h7)
  split
  · rename_i n5
    exact absurd n5 (by rw [Bool.not_eq_true]; exact h8)
  exact congrArg (fun l => pure (some l)) h4
/-! ### views -/
def sAsg : Stmt → Option (Expr × Expr × Nat)
  | .Assign [t] e p => some (t, e, p.line)
  | _ => none
theorem sAsg_eq {st : Stmt} {t e : Expr} {l : Nat} (h : sAsg st = some (t, e, l)) : ∃ p, st = .Assign [t] e p ∧ p.line = l := by
  unfold sAsg at h
  split at h
  · cases h; exact ⟨_, rfl, rfl⟩
  · cases h
def sExpr : Stmt → Option Expr
  | .Expr e _ => some e
  | _ => none
theorem sExpr_eq {st : Stmt} {e : Expr} (h : sExpr st = some e) : ∃ p, st = .Expr e p := by cases st <;> simp [sExpr] at h; subst h; exact ⟨_, rfl⟩
def sRet : Stmt → Option (Option Expr)
  | .Return e _ => some e
  | _ => none
theorem sRet_eq {st : Stmt} {e : Option Expr} (h : sRet st = some e) : ∃ p, st = .Return e p := by cases st <;> simp [sRet] at h; subst h; exact ⟨_, rfl⟩
def sIf : Stmt → Option (Expr × List Stmt × List Stmt)
  | .If c a b _ => some (c, a, b)
  | _ => none
theorem sIf_eq {st : Stmt} {c : Expr} {a b : List Stmt} (h : sIf st = some (c, a, b)) : ∃ p, st = .If c a b p := by cases st <;> simp [sIf] at h; obtain ⟨rfl, rfl, rfl⟩ := h; exact ⟨_, rfl⟩
def sFor : Stmt → Option (Expr × Expr × List Stmt)
  | .For t i b [] _ => some (t, i, b)
  | _ => none
theorem sFor_eq {st : Stmt} {t i : Expr} {b : List Stmt} (h : sFor st = some (t, i, b)) : ∃ p, st = .For t i b [] p := by
  unfold sFor at h
  split at h
  · cases h; exact ⟨_, rfl⟩
  · cases h
def sWhl : Stmt → Option (Expr × List Stmt)
  | .While c b [] _ => some (c, b)
  | _ => none
theorem sWhl_eq {st : Stmt} {c : Expr} {b : List Stmt} (h : sWhl st = some (c, b)) : ∃ p, st = .While c b [] p := by
  unfold sWhl at h
  split at h
  · cases h; exact ⟨_, rfl⟩
  · cases h
/-! ### the context of a body -/
structure GS (T : Tb) (Γ : Nat → Fn) (rt : Sh) (fx : List Nat) (C : Ct) (sc : Scope) (k : Nat) (X : Cx) : Prop where
  x : GX T Γ C sc (fun _ => true) k X
  po : PassesOwn (model X.prog X.w) X.A X.env X.xe
  ret : C.ret = rt
  fix : ∀ p ∈ C.fix, p.1 ∈ fx
  kind : sc.kind = .function
abbrev CkS := Scope → Stmt → Bool
abbrev CkSs := Scope → List Stmt → Bool
def SoS (T : Tb) (Γ : Nat → Fn) (rt : Sh) (fx : List Nat) (ex : TV.Env → Fl) (c : CkS) : Prop := ∀ {C : Ct} {sc : Scope} {k : Nat} {X : Cx} {st : Stmt}, GS T Γ rt fx C sc k X → c sc st = true → PS X st (tX C ex)
def SoSs (T : Tb) (Γ : Nat → Fn) (rt : Sh) (fx : List Nat) (ex : TV.Env → Fl) (c : CkSs) : Prop := ∀ {C : Ct} {sc : Scope} {k : Nat} {X : Cx} {sts : List Stmt}, GS T Γ rt fx C sc k X → c sc sts = true → PSs X sts (tX C ex)
section
variable {T : Tb} {Γ : Nat → Fn} {rt : Sh} {fx : List Nat} {C : Ct} {sc : Scope} {own : Str → Bool} {k : Nat} {X : Cx} {ev eva evb evc : TV.Env → R D} {ca cb cc : Ck} {exa exb : TV.Env → Fl} {sa sb : CkSs}
theorem SoX.n {x : Expr} {pu : Bool} {sh : Sh} {c : Ck} (h : SoX T Γ ev c) (g : GX T Γ C sc own k X) (hc : natTo sh (c sc own x).1 = some pu) : PE X x (tN C ev pu sh) := by
  obtain ⟨sh', e4, e5⟩ := natTo_eq hc
  exact PE.imp (h.e g e4) e5
/-- x = [.. for ..] on one line -/
def lcT1 (T : Tb) (e : E) (sc : Scope) (x : Expr) : Option (Sh × Bool) := match e with
  | .lc vs w tg e2 => eLc T vs tg (chW T w) (chX T e2) sc (fun _ => true) x
  | .lci vs w tg c e2 => eLci T vs tg (chW T w) (chX T c) (chX T e2) sc (fun _ => true) x
  | _ => none
def lcScope : Expr → Option (Scope × Nat)
  | .ListComp _ _ s p => some (s, p.line)
  | _ => none
def lcFree (y : Str) (l : Nat) (x : Expr) : Bool := match lcScope x with
  | some (s, l') => l == l' && !(s.names.any fun (n, k) => n == y && (k == .local || k == .cell))
  | none => false
theorem setLc_ok {e : E} {x : Expr} {y : Str} {py spos : Pos} {i : Nat} {sh : Sh} {pu : Bool} (g : GX T Γ C sc (fun _ => true) k X) (hk : sc.kind = .function) (hy : T.N[i]? = some y) (hl : sc.names.lookup y = some .local) (hf : lcFree y py.line x = true) (h : lcT1 T e sc x = some (sh, pu)) :
    PS X (.Assign [.Name y py] x spos) (tAsg (tN C (evE Γ e) pu sh) (gName i)) := by
  have sw : ∀ {elt : Expr} {gs : List Comprehension} {scope : Scope} {pos : Pos} {l : Nat}, lcFree y py.line (.ListComp elt gs scope pos) = true → swapsWith (.ListComp elt gs scope pos) (some (.Name y py)) l X.env = pure true := fun {elt gs scope pos l} h => by
    unfold lcFree lcScope at h
    simp only [Bool.and_eq_true, Bool.not_eq_true'] at h
    exact sw_true (by rw [g.sc]; exact hk) (by rw [g.sc]; exact hl) h.1 h.2
  unfold lcT1 at h
  split at h
  · rename_i vs w tg e2
    unfold eLc at h
    split at h
    · rename_i scope hx
      split at h
      · rename_i hl'
        obtain ⟨pa, pb, e1, e2', e3⟩ := two_eq h
        cases e3
        obtain ⟨p, rfl⟩ := vLc_eq hx
        unfold lcOk at hl'
        simp only [Bool.and_eq_true] at hl'
        obtain ⟨⟨⟨l1, l2⟩, l3⟩, l4⟩ := hl'
        obtain ⟨w1, w2⟩ := soW (Γ := Γ) w g e1
        have z := ps_setLc (X := X) (i := i) (y := y) (py := py) (pos := p) (spos := spos) (own := owN T vs) g.calm (by rw [g.N]; exact g.nd) (by rw [g.N]; exact hy) (by rw [g.sc]; exact hl) (sw hf) w1 (by rw [g.N, g.sc]; exact blkOk_by l1) (fun s H c cl fp => pg_of (g.blk scope s H c cl fp) l4) (fun s H c cl fp => pts_nil) (fun s H c cl fp => (soX (Γ := Γ) e2).s (g.blk scope s H c cl fp) e2') w2
        rw [owN_snd] at z
        exact PS.imp z fun D σ H q => rd_lc (fun v hv => by rw [g.κ]; simpa using List.all_eq_true.mp l2 v hv) (fun j hj => by simpa using List.all_eq_true.mp l3 j hj) (tg_of (C := C.blk) g.κ l4) body_all σ H _ q
      · cases h
    · cases h
  · rename_i vs w tg c e2
    unfold eLci at h
    split at h
    · rename_i scope hx
      split at h
      · rename_i hl'
        obtain ⟨pa, pb, e1, e2', e3⟩ := two_eq h
        cases e3
        obtain ⟨pc, pe, e4, e5, rfl⟩ := two_eq e2'
        obtain ⟨p, rfl⟩ := vLc_eq hx
        unfold lcOk at hl'
        simp only [Bool.and_eq_true] at hl'
        obtain ⟨⟨⟨l1, l2⟩, l3⟩, l4⟩ := hl'
        obtain ⟨w1, w2⟩ := soW (Γ := Γ) w g e1
        have z := ps_setLc (X := X) (i := i) (y := y) (py := py) (pos := p) (spos := spos) (own := owN T vs) g.calm (by rw [g.N]; exact g.nd) (by rw [g.N]; exact hy) (by rw [g.sc]; exact hl) (sw hf) w1 (by rw [g.N, g.sc]; exact blkOk_by l1) (fun s H c cl fp => pg_of (g.blk scope s H c cl fp) l4) (fun s H cC cl fp => pts_one ((soX (Γ := Γ) c).b (g.blk scope s H cC cl fp) e4).1) (fun s H c cl fp => (soX (Γ := Γ) e2).s (g.blk scope s H c cl fp) e5) w2
        rw [owN_snd] at z
        exact PS.imp z fun D σ H q => rd_lc (fun v hv => by rw [g.κ]; simpa using List.all_eq_true.mp l2 v hv) (fun j hj => by simpa using List.all_eq_true.mp l3 j hj) (tg_of (C := C.blk) g.κ l4) body_if σ H _ q
      · cases h
    · cases h
  · cases h
def ckAsgV (T : Tb) (fx : List Nat) (i : Nat) (e : E) : CkS := fun sc st => match sAsg st with
  | some (.Name y py, x, l) => match T.κ[i]? with
    | some sh => decide (T.N[i]? = some y) && isLoc (fun _ => true) sc y && !(fx.contains i) &&
      (if nlc x || (decide (sc.names.lookup y ≠ some .local) && (lcScope x).isSome) then (natTo sh (chX T e sc (fun _ => true) x).1).isSome else decide (sc.names.lookup y = some .local) && lcFree y py.line x && (natTo sh (lcT1 T e sc x)).isSome)
    | none => false
  | _ => false
theorem lcScope_eq {x : Expr} (h : (lcScope x).isSome = true) : ∃ elt gs s p, x = .ListComp elt gs s p := by cases x <;> simp [lcScope] at h; exact ⟨_, _, _, _, rfl⟩
theorem so_asgV {i : Nat} {e : E} : SoS T Γ rt fx (exS Γ (.asg (.v i) e)) (ckAsgV T fx i e) := fun {C sc k X st} g h => by
  unfold ckAsgV at h
  split at h
  · rename_i y py x l hx
    split at h
    · rename_i sh hk
      simp only [Bool.and_eq_true, decide_eq_true_eq, Bool.not_eq_true'] at h
      obtain ⟨⟨⟨h1, h2⟩, h3⟩, h4⟩ := h
      obtain ⟨p, rfl, rfl⟩ := sAsg_eq hx
      obtain ⟨l1, l2⟩ := isLoc_ok h2
      have hf : ∀ q ∈ C.fix, q.1 ≠ i := fun q hq z => by
        have := g.fix q hq
        rw [z] at this
        simp [this] at h3
      split at h4
      · rename_i hc
        obtain ⟨pu, h4⟩ := Option.isSome_iff_exists.mp h4
        refine tx_set hf (by rw [g.x.κ]; exact hk) (ps_set (by rw [g.x.N]; exact g.x.nd) (by rw [g.x.N]; exact h1) (by rw [g.x.sc]; exact l1) ((soX e).n g.x h4) ?_ (by rw [g.x.sc, g.x.own]; exact l2))
        simp only [Bool.or_eq_true, Bool.and_eq_true, decide_eq_true_eq] at hc
        rcases hc with hc | ⟨hc, hd⟩
        · exact sw_nlc hc
        · obtain ⟨elt, gs, s, p', rfl⟩ := lcScope_eq hd
          exact sw_cell (by rw [g.x.sc]; exact hc)
      · simp only [Bool.and_eq_true, decide_eq_true_eq] at h4
        obtain ⟨⟨h5, h6⟩, h7⟩ := h4
        obtain ⟨pu, h7⟩ := Option.isSome_iff_exists.mp h7
        obtain ⟨sh', e4, e5⟩ := natTo_eq h7
        exact tx_set hf (by rw [g.x.κ]; exact hk) (PS.imp (setLc_ok g.x g.kind h1 h5 h6 e4) fun D σ H q => e5 σ H _ q)
    · cases h
  · cases h
def ckAsgT (T : Tb) (fx : List Nat) (ts : Tgs) (e : E) : CkS := fun sc st => match sAsg st with
  | some (t, x, _) => nnm t && ckT T sc (fun _ => true) (.t ts) t && (Tg.t ts).slots.all (fun j => !(fx.contains j)) && (toS (chX T e sc (fun _ => true) x).1).isSome && (match t, x with
    | .Tuple es _ _, .Tuple vs _ _ => swNo sc es vs
    | .Tuple _ _ _, _ => true
    | _, _ => false)
  | none => false
theorem so_asgT {ts : Tgs} {e : E} : SoS T Γ rt fx (exS Γ (.asg (.t ts) e)) (ckAsgT T fx ts e) := fun {C sc k X st} g h => by
  unfold ckAsgT at h
  split at h
  · rename_i t x l hx
    simp only [Bool.and_eq_true] at h
    obtain ⟨⟨⟨⟨h1, h2⟩, h3⟩, h4⟩, h5⟩ := h
    obtain ⟨p, rfl, rfl⟩ := sAsg_eq hx
    obtain ⟨pu, h4⟩ := Option.isSome_iff_exists.mp h4
    have hf : ∀ q ∈ C.fix, q.1 ∉ (Tg.t ts).slots := fun q hq z => by
      have := List.all_eq_true.mp h3 _ z
      have h := g.fix q hq
      simp [h] at this
    refine tx_asg hf (tg_of g.x.κ h2) (ps_asg ((soX e).s g.x h4) (pg_of g.x h2) (sw_nnm h1) ?_ ?_)
    · split at h5
      · exact sw_no (by rw [g.x.sc]; exact g.kind) (by rw [g.x.sc]; exact h5)
      · rename_i es k1 p1 hne
        unfold swappedStores
        cases x <;> first | rfl | exact absurd rfl (hne _ _ _)
      · cases h5
    · rw [assignEach_pl (by cases t <;> first | rfl | (simp [ckT, vTup] at h2))]
      rfl
  · cases h
theorem parN {σ : L2.St} : ∀ (is : List Nat) (vs : List V), (is.zip vs).foldl (fun s q => s.set q.1 (some q.2)) σ = (is.zip vs).foldl (fun s q => s.set q.1 (some q.2)) σ := fun _ _ => rfl
def ckPar (T : Tb) (fx : List Nat) (is : List Nat) (es : Es) : CkS := fun sc st => match sAsg st with
  | some (.Tuple ts _ _, .Tuple vs _ _, _) => match is.mapM (fun i => T.κ[i]?), is.mapM (fun i => T.N[i]?) with
    | some shs, some names => swYes sc ts vs names && decide (ts.map vName = names.map some) && names.all (fun y => decide (sc.names.lookup y = some .local)) && decide is.Nodup && is.all (fun j => !(fx.contains j)) && (chEs T es).nt sc (fun _ => true) shs vs
    | _, _ => false
  | _ => false
theorem mapM_some {α β : Type} {f : α → Option β} : ∀ {l : List α} {r : List β}, l.mapM f = some r → l.map f = r.map some
  | [], r, h => by simp at h; subst h; rfl
  | a :: l, r, h => by
    rw [List.mapM_cons] at h
    cases e1 : f a with
    | none => rw [e1] at h; cases h
    | some b =>
      rw [e1] at h
      cases e2 : l.mapM f with
      | none => rw [e2] at h; cases h
      | some r' =>
        rw [e2] at h
        cases h
        simp [e1, mapM_some e2]
end
end TV

/-! V21: the check of a body. -/
namespace TV
open PySem PySem.Spec PyProof.Rows L2
section
variable {T : Tb} {Γ : Nat → Fn} {rt : Sh} {fx : List Nat} {C : Ct} {sc : Scope} {own : Str → Bool} {k : Nat} {X : Cx} {ev eva evb evc : TV.Env → R D} {ca cb cc : Ck} {exa exb : TV.Env → Fl} {sa sb : CkSs}
theorem fx_no (g : GS T Γ rt fx C sc k X) {is : List Nat} (h : is.all (fun j => !(fx.contains j)) = true) : ∀ q ∈ C.fix, q.1 ∉ is := fun q hq z => by
  have := List.all_eq_true.mp h _ z
  have h := g.fix q hq
  simp [h] at this
theorem par_mono {shs : List Sh} {evs : TV.Env → R (List D)} {t : TA} (h : ParR C shs evs t) : ∀ {σ : L2.St} {H : Hp} {P P' : List V → Hp → Prop}, t σ H P → (∀ vs H1, vs.length = shs.length → P vs H1 → P' vs H1) → t σ H P' := by
  induction h with
  | nil => exact fun {σ H P P'} q i => i [] H rfl q
  | cons _ ih => exact fun {σ H P P'} ⟨ρ, B, G, fp, r, q⟩ i => ⟨ρ, B, G, fp, r, q.mono fun d B' G' H' fp' ρ' _ _ _ k v as ow nd out => ih (k v as ow nd out) fun vs H1 hl p => i (v :: vs) H1 (by simp [hl]) p⟩
theorem so_par {is : List Nat} {es : Es} : SoS T Γ rt fx (exS Γ (.par is es)) (ckPar T fx is es) := fun {C sc k X st} g h => by
  unfold ckPar at h
  split at h
  · rename_i ts k1 p1 vs k2 p2 l hx
    split at h
    · rename_i shs names hs hn
      simp only [Bool.and_eq_true, decide_eq_true_eq] at h
      obtain ⟨⟨⟨⟨⟨h1, h2⟩, h3⟩, h4⟩, h5⟩, h6⟩ := h
      obtain ⟨p, rfl, rfl⟩ := sAsg_eq hx
      obtain ⟨t, t1, t2⟩ := (soEs (Γ := Γ) es).nt g.x h6
      have hs := mapM_some hs
      have hn := mapM_some hn
      have sy := sw_yes (env := X.env) (k1 := k1) (p1 := p1) (k2 := k2) (p2 := p2) (by rw [g.x.sc]; exact g.kind) (by rw [g.x.sc]; exact h1)
      have lens : ts.length = names.length := by simpa using congrArg List.length h2
      have len2 : is.length = names.length := by simpa using congrArg List.length hn
      have loc : ∀ y ∈ names, X.env.scope.names.lookup y = some .local := fun y hy => by
        rw [g.x.sc]
        simpa using List.all_eq_true.mp h3 y hy
      unfold swYes at h1
      simp only [Bool.and_eq_true] at h1
      obtain ⟨⟨⟨⟨⟨⟨⟨l1, l2⟩, _⟩, _⟩, _⟩, _⟩, _⟩, _⟩ := h1
      simp only [Bool.or_eq_true, beq_iff_eq] at l1 l2
      refine tx_par (shs := shs) (fx_no g h5) (by rw [g.x.κ]; exact hs) t2 ?_
      rcases l1 with l1 | l1
      · match ts, names, is, vs, lens, len2, l1, l2, h2, hn with
        | [a, b], [x, y], [i, j], [u, v], _, _, _, _, h2, hn =>
          simp only [List.map_cons, List.map_nil, List.cons.injEq, and_true] at h2 hn
          obtain ⟨pa, rfl⟩ := vName_eq h2.1
          obtain ⟨pb, rfl⟩ := vName_eq h2.2
          have hij : i ≠ j := fun z => by subst z; simp at h4
          refine PS.imp (ps_par g.x.calm (by rw [g.x.N]; exact g.x.nd) (by rw [g.x.N]; exact hn.1) (by rw [g.x.N]; exact hn.2) hij (loc x (by simp)) (loc y (by simp)) t1 sy rfl) fun D σ H q => ?_
          refine par_mono t2 q fun vs H1 hl p => ?_
          have hl : vs.length = 2 := by
            have := congrArg List.length hs
            simp at this
            omega
          match vs, hl with
          | [v, w], _ => exact ⟨v, w, rfl, p rfl rfl⟩
      · match ts, names, is, vs, lens, len2, l1, l2, h2, hn with
        | [a, b, c], [x, y, z], [i, j, m], [u, v, w], _, _, _, _, h2, hn =>
          simp only [List.map_cons, List.map_nil, List.cons.injEq, and_true] at h2 hn
          obtain ⟨pa, rfl⟩ := vName_eq h2.1
          obtain ⟨pb, rfl⟩ := vName_eq h2.2.1
          obtain ⟨pc, rfl⟩ := vName_eq h2.2.2
          have hnd := h4
          simp only [List.nodup_cons, List.mem_cons, List.not_mem_nil, or_false, not_or] at hnd
          refine PS.imp (ps_par3 g.x.calm (by rw [g.x.N]; exact g.x.nd) (by rw [g.x.N]; exact hn.1) (by rw [g.x.N]; exact hn.2.1) (by rw [g.x.N]; exact hn.2.2) hnd.1.1 hnd.1.2 hnd.2.1 (loc x (by simp)) (loc y (by simp)) (loc z (by simp)) t1 sy rfl) fun D σ H q => ?_
          refine par_mono t2 q fun vs H1 hl p => ?_
          have hl : vs.length = 3 := by
            have := congrArg List.length hs
            simp at this
            omega
          match vs, hl with
          | [v, w, u], _ => exact ⟨v, w, u, rfl, p rfl rfl⟩
    · cases h
  · cases h
/-! two names by way of a tuple (names of comprehensions among them) -/
theorem Rel.more {K : PySem.W.Frag} {κ : List Sh} {Z B G H H' : Hp} {ρ : TV.Env} {σ : L2.St} {fp : Nat → List Addr} (r : Rel K κ Z B G H ρ σ fp) (e : Same H H') : Rel K κ Z B G H' ρ σ fp where
  bg := r.bg
  gh := r.gh.trans e
  zg := r.zg
  len := r.len
  at_ := fun i d h => let ⟨v, s, h1, h2, h3⟩ := r.at_ i d h; ⟨v, s, h1, h2, h3.mono (Same.refl _) (Same.refl _) fun a _ o q => e a o q⟩
  nd := r.nd
  dj := r.dj
  out := fun i a ha => ⟨(r.out i a ha).1, let ⟨o, ho⟩ := (r.out i a ha).2; ⟨o, e _ _ ho⟩⟩
theorem tx_par2 {st : Stmt} {is : List Nat} {shs : List Sh} {evs : TV.Env → R (List D)} {t : TA} (hf : ∀ p ∈ C.fix, p.1 ∉ is) (hk : is.map (fun i => C.κ[i]?) = shs.map some) (hp : ParR C shs evs t)
    (h : PS X st fun E σ H => t σ H fun vs H1 => ∀ p, H1 p = none → E.nx ((is.zip vs).foldl (fun s q => s.set q.1 (some q.2)) σ) (upd H1 p (.tup vs))) :
    PS X st (tX C fun ρ => (evs ρ).fl fun ds ρ => Fl.of (bindL is ds ρ)) := PS.imp h fun E σ H ⟨ρ, B, G, fp, r, fx, q⟩ =>
  par_run hp r ((q.fl fx false).mono fun ds B' G' H' fp' ρ' u _ r' k vs fs ow nd out p hpn => by
    cases e : bindL is ds ρ' with
    | none => rw [e] at k; exact k.elim
    | some ρ2 =>
      rw [e] at k
      obtain ⟨σ2, fp2, h1, h2, _⟩ := store_all hk ow nd out r' e
      subst h2
      exact k _ B' G' _ fp2 .refl (h1.more (same_upd hpn _)) (fx.keep hf fun j hj => fold_keep hj))
def ckPar2 (T : Tb) (fx : List Nat) (is : List Nat) (es : Es) : CkS := fun sc st => match sAsg st, is with
  | some (.Tuple [.Name x px, .Name y py] _ _, .Tuple [u, v] _ _, _), [i, j] => match T.κ[i]?, T.κ[j]? with
    | some s1, some s2 => decide (T.N[i]? = some x) && decide (T.N[j]? = some y) && isLoc (fun _ => true) sc x && isLoc (fun _ => true) sc y && !(fx.contains i) && !(fx.contains j) && swNo sc [.Name x px, .Name y py] [u, v] && (chEs T es).nt sc (fun _ => true) [s1, s2] [u, v]
    | _, _ => false
  | _, _ => false
theorem so_par2 {is : List Nat} {es : Es} : SoS T Γ rt fx (exS Γ (.par is es)) (ckPar2 T fx is es) := fun {C sc k X st} g h => by
  unfold ckPar2 at h
  split at h
  · rename_i x px y py k1 p1 u v k2 p2 l i j hx
    split at h
    · rename_i s1 s2 hs1 hs2
      simp only [Bool.and_eq_true, decide_eq_true_eq, Bool.not_eq_true'] at h
      obtain ⟨⟨⟨⟨⟨⟨⟨n1, n2⟩, o1⟩, o2⟩, f1⟩, f2⟩, sn⟩, ne⟩ := h
      obtain ⟨p, rfl, rfl⟩ := sAsg_eq hx
      obtain ⟨t, t1, t2⟩ := (soEs (Γ := Γ) es).nt g.x ne
      obtain ⟨a1, a2⟩ := isLoc_ok o1
      obtain ⟨b1, b2⟩ := isLoc_ok o2
      have hf : ∀ q ∈ C.fix, q.1 ∉ [i, j] := fun q hq z => by
        have := g.fix q hq
        simp only [List.mem_cons, List.not_mem_nil, or_false] at z
        rcases z with z | z
        · rw [z] at this; simp [this] at f1
        · rw [z] at this; simp [this] at f2
      refine tx_par2 (shs := [s1, s2]) hf (by rw [g.x.κ]; simp [hs1, hs2]) t2 ?_
      refine PS.imp (ps_asg (pe_tup t1) (pg_tup g.x.calm (pgs_cons (pg_name (by rw [g.x.N]; exact g.x.nd) (by rw [g.x.N]; exact n1) (by rw [g.x.sc]; exact a1) (by rw [g.x.sc, g.x.own]; exact a2)) (pgs_cons (pg_name (by rw [g.x.N]; exact g.x.nd) (by rw [g.x.N]; exact n2) (by rw [g.x.sc]; exact b1) (by rw [g.x.sc, g.x.own]; exact b2)) pgs_nil)) rfl rfl) (by rfl) (sw_no (by rw [g.x.sc]; exact g.kind) (by rw [g.x.sc]; exact sn)) rfl) fun E σ H q => ?_
      refine par_mono t2 q fun vs H1 hl z => ?_
      match vs, hl with
      | [v1, v2], _ => exact ⟨by show 2 ≤ sizeLine; decide, fun a ha => ⟨a, [v1, v2], rfl, .of upd_same, rfl, v1, [v2], rfl, v2, [], rfl, rfl, z a ha⟩⟩
    · cases h
  · cases h
end
end TV

/-! V22: the check of a whole body. -/
namespace TV
open PySem PySem.Spec PyProof.Rows L2
section
variable {T : Tb} {Γ : Nat → Fn} {rt : Sh} {fx : List Nat} {C : Ct} {sc : Scope} {own : Str → Bool} {k : Nat} {X : Cx} {ev eva evb evc : TV.Env → R D} {ca cb cc : Ck} {exa exb : TV.Env → Fl} {sa sb : CkSs}
def ckNilS : CkSs := fun _ sts => match sts with
  | [] => true
  | _ => false
theorem so_nilS : SoSs T Γ rt fx (exSs Γ .nil) ckNilS := fun {C sc k X sts} g h => by
  unfold ckNilS at h
  split at h
  · exact tx_nil pss_nil
  · cases h
def ckConsS (c : CkS) (cs : CkSs) : CkSs := fun sc sts => match sts with
  | st :: sts => c sc st && cs sc sts
  | _ => false
theorem so_consS {s : S} {ss : Ss} {c : CkS} {cs : CkSs} (h1 : SoS T Γ rt fx (exS Γ s) c) (h2 : SoSs T Γ rt fx (exSs Γ ss) cs) : SoSs T Γ rt fx (exSs Γ (.cons s ss)) (ckConsS c cs) := fun {C sc k X sts} g h => by
  unfold ckConsS at h
  split at h
  · rw [Bool.and_eq_true] at h
    exact tx_seq (pss_cons (h1 g h.1) (h2 g h.2))
  · cases h
def ckIfs (c : E) (ca cb : CkSs) (T : Tb) : CkS := fun sc st => match sIf st with
  | some (c', a', b') => (chX T c sc (fun _ => true) c').2.isSome && ca sc a' && cb sc b'
  | none => false
theorem so_ifs {c : E} {a b : Ss} {ca cb : CkSs} (ha : SoSs T Γ rt fx (exSs Γ a) ca) (hb : SoSs T Γ rt fx (exSs Γ b) cb) : SoS T Γ rt fx (exS Γ (.ifs c a b)) (ckIfs c ca cb T) := fun {C sc k X st} g h => by
  unfold ckIfs at h
  split at h
  · rename_i hx
    simp only [Bool.and_eq_true] at h
    obtain ⟨p, rfl⟩ := sIf_eq hx
    obtain ⟨pu, h1⟩ := Option.isSome_iff_exists.mp h.1.1
    exact tx_if (ps_if ((soX c).b g.x h1).1 (ha g h.1.2) (hb g h.2))
  · cases h
def ckFor (T : Tb) (fx : List Nat) (w : W) (tg : Tg) (cb : CkSs) : CkS := fun sc st => match sFor st with
  | some (t, i, b) => (chW T w sc (fun _ => true) t i).isSome && ckT T sc (fun _ => true) tg t && tg.slots.all (fun j => !(fx.contains j)) && cb sc b
  | none => false
theorem so_for {w : W} {tg : Tg} {b : Ss} {cb : CkSs} (hb : SoSs T Γ rt fx (exSs Γ b) cb) : SoS T Γ rt fx (exS Γ (.for_ w tg b)) (ckFor T fx w tg cb) := fun {C sc k X st} g h => by
  unfold ckFor at h
  split at h
  · rename_i hx
    simp only [Bool.and_eq_true] at h
    obtain ⟨⟨⟨h1, h2⟩, h3⟩, h4⟩ := h
    obtain ⟨p, rfl⟩ := sFor_eq hx
    obtain ⟨pu, h1⟩ := Option.isSome_iff_exists.mp h1
    obtain ⟨w1, w2⟩ := soW (Γ := Γ) w g.x h1
    exact tx_for (fx_no g h3) (tg_of g.x.κ h2) (ps_for g.po g.x.calm w1 (pg_of g.x h2) (hb g h4) w2)
  · cases h
def ckWhl (T : Tb) (c : E) (cb : CkSs) : CkS := fun sc st => match sWhl st with
  | some (c', b) => (chX T c sc (fun _ => true) c').2.isSome && cb sc b
  | none => false
theorem so_whl {n : Nat} {c : E} {b : Ss} {cb : CkSs} (hb : SoSs T Γ rt fx (exSs Γ b) cb) : SoS T Γ rt fx (exS Γ (.whl n c b)) (ckWhl T c cb) := fun {C sc k X st} g h => by
  unfold ckWhl at h
  split at h
  · rename_i hx
    simp only [Bool.and_eq_true] at h
    obtain ⟨p, rfl⟩ := sWhl_eq hx
    obtain ⟨pu, h1⟩ := Option.isSome_iff_exists.mp h.1
    exact tx_whl (ps_while g.po ((soX c).b g.x h1).1 (hb g h.2))
  · cases h
def ckRet (T : Tb) (rt : Sh) (e : E) : CkS := fun sc st => match sRet st with
  | some (some e') => (natTo rt (chX T e sc (fun _ => true) e').1).isSome
  | _ => false
theorem so_ret {e : E} : SoS T Γ rt fx (exS Γ (.ret e)) (ckRet T rt e) := fun {C sc k X st} g h => by
  unfold ckRet at h
  split at h
  · rename_i hx
    obtain ⟨p, rfl⟩ := sRet_eq hx
    obtain ⟨pu, h1⟩ := Option.isSome_iff_exists.mp h
    exact tx_ret g.ret (ps_ret ((soX e).n g.x h1))
  · cases h
def ckRetN (rt : Sh) : CkS := fun _ st => match sRet st with
  | some none => decide (rt = .s)
  | _ => false
theorem so_retN : SoS T Γ rt fx (exS Γ .retN) (ckRetN rt) := fun {C sc k X st} g h => by
  unfold ckRetN at h
  split at h
  · rename_i hx
    obtain ⟨p, rfl⟩ := sRet_eq hx
    exact tx_retN (g.ret.trans (of_decide_eq_true h)) ps_retN
  · cases h
def ckEx (T : Tb) (e : E) : CkS := fun sc st => match sExpr st with
  | some e' => nlc e' && (toS (chX T e sc (fun _ => true) e').1).isSome
  | none => false
theorem so_ex {e : E} : SoS T Γ rt fx (exS Γ (.ex e)) (ckEx T e) := fun {C sc k X st} g h => by
  unfold ckEx at h
  split at h
  · rename_i hx
    rw [Bool.and_eq_true] at h
    obtain ⟨p, rfl⟩ := sExpr_eq hx
    obtain ⟨pu, h1⟩ := Option.isSome_iff_exists.mp h.2
    exact tx_ex (ps_expr ((soX e).s g.x h1) (sw_nlc h.1))
  · cases h
def ckApp (T : Tb) (p : Pl) (e : E) : CkS := fun sc st => match sExpr st with
  | some x => match vMeth x with
    | some (o, m, [a']) => match toS (chX T e sc (fun _ => true) a').1 with
      | some pa => decide (m = ("append" : Str)) && ckPl T sc p o && plOk T.κ p && pl a' && (p.isV || pa)
      | none => false
    | _ => false
  | none => false
theorem so_app {p : Pl} {e : E} : SoS T Γ rt fx (exS Γ (.app p e)) (ckApp T p e) := fun {C sc k X st} g h => by
  unfold ckApp at h
  split at h
  · rename_i hx
    split at h
    · rename_i hm
      split at h
      · rename_i ha
        simp only [Bool.and_eq_true, decide_eq_true_eq, Bool.or_eq_true] at h
        obtain ⟨⟨⟨⟨rfl, h1⟩, h2⟩, h3⟩, h4⟩ := h
        obtain ⟨q, rfl⟩ := sExpr_eq hx
        obtain ⟨q1, q2, rfl, hl⟩ := vMeth_eq hm
        obtain ⟨z1, z2⟩ := so_pl g.x h1
        have z := pe_bm PySem.F.plainAttrs_list PySem.F.slot_list_append PySem.F.type_list_append mt_append z1 (pa_cons ((soX (Γ := Γ) e).s g.x ha) pa_nil (starEach_pl h3)) (noSup_base z2) (by rw [few_pl (by simp [h3])]; rfl) hl (starEach_pl h3) rfl
        rw [g.x.K] at z
        exact tx_app (by rw [g.x.κ]; exact h2) h4 (ps_expr z rfl)
      · cases h
    · cases h
  · cases h
def ckExt (T : Tb) (p : Pl) (e : E) : CkS := fun sc st => match sExpr st with
  | some x => match vMeth x with
    | some (o, m, [a']) => match toP T e (chX T e) sc (fun _ => true) a' with
      | some pa => decide (m = ("extend" : Str)) && ckPl T sc p o && plOk T.κ p && pl a' && (p.isV || pa)
      | none => false
    | _ => false
  | none => false
theorem so_ext {p : Pl} {e : E} : SoS T Γ rt fx (exS Γ (.ext p e)) (ckExt T p e) := fun {C sc k X st} g h => by
  unfold ckExt at h
  split at h
  · rename_i hx
    split at h
    · rename_i hm
      split at h
      · rename_i ha
        simp only [Bool.and_eq_true, decide_eq_true_eq, Bool.or_eq_true] at h
        obtain ⟨⟨⟨⟨rfl, h1⟩, h2⟩, h3⟩, h4⟩ := h
        obtain ⟨q, rfl⟩ := sExpr_eq hx
        obtain ⟨q1, q2, rfl, hl⟩ := vMeth_eq hm
        obtain ⟨z1, z2⟩ := so_pl g.x h1
        have z := pe_bm PySem.F.plainAttrs_list PySem.F.slot_list_extend PySem.F.type_list_extend mt_extend z1 (pa_cons ((soX (Γ := Γ) e).p g.x ha) pa_nil (starEach_pl h3)) (noSup_base z2) (by rw [few_pl (by simp [h3])]; rfl) hl (starEach_pl h3) rfl
        rw [g.x.K] at z
        exact tx_ext (by rw [g.x.κ]; exact h2) h4 (ps_expr z rfl)
      · cases h
    · cases h
  · cases h
def ckSetF (T : Tb) (i j : Nat) (k : Str) (e : E) : CkS := fun sc st => match sAsg st with
  | some (t, x, _) => match vSub t with
    | some (o, ix) => match vName o, T.κ[i]? with
      | some y, some (.r ks) => match ks[j]? with
        | some (k', b) => decide (k' = k) && okN T sc i y && decide (vConst ix = some (.str k)) && decide ((ks.map (·.1)).Nodup) && decide (ks.length ≤ 15) && (natTo (fSh b) (chX T e sc (fun _ => true) x).1).isSome
        | none => false
      | _, _ => false
    | none => false
  | none => false
theorem so_setF {i j : Nat} {f : Str} {e : E} : SoS T Γ rt fx (exS Γ (.setF i j f e)) (ckSetF T i j f e) := fun {C sc k X st} g h => by
  have hu := room_lt g.x.room
  unfold ckSetF at h
  split at h
  · rename_i hx
    split at h
    · rename_i hs
      split at h
      · rename_i hy hk
        split at h
        · rename_i hj
          simp only [Bool.and_eq_true, decide_eq_true_eq] at h
          obtain ⟨⟨⟨⟨⟨rfl, h1⟩, h2⟩, h3⟩, h4⟩, h5⟩ := h
          obtain ⟨p, rfl, rfl⟩ := sAsg_eq hx
          obtain ⟨q, rfl⟩ := vSub_eq hs
          obtain ⟨q1, rfl⟩ := vName_eq hy
          obtain ⟨j', q2, rfl⟩ := vConst_eq h2
          obtain ⟨pu, h5⟩ := Option.isSome_iff_exists.mp h5
          exact tx_setF (by rw [g.x.κ]; exact hk) hj h3 h4 (ps_dput (by omega) (okN_ok g.x h1) pe_str ((soX e).n g.x h5) (sw_nnm rfl))
        · cases h
      · cases h
    · cases h
  · cases h
theorem sw_sole {e t : Expr} {l : Nat} {env : PySem.Env} (h : nnm t = true) : swapsWithSole [t] e l env = pure false := sw_nnm h
theorem assign_sub {o i : Expr} {pos : Pos} {env : PySem.Env} (h : noSl i = true) : ∀ v, assign (.Subscript o i pos) env v = (do
      let ov ← holding [v] (eval o env)
      let iv ← holding [v, ov] (eval i env)
      standAt pos
      holding [v, ov, iv] (setItem ov iv v)
      release [v, ov, iv] []) := by cases i <;> first | (intro _; rfl) | cases h
def ckSetI (T : Tb) (p : Pl) (a e : E) : CkS := fun sc st => match sAsg st with
  | some (t, x, _) => match vSub t with
    | some (o, ix) => match toS (chX T a sc (fun _ => true) ix).1 with
      | some pa => noSl ix && (ckPl T sc p o && plOk T.κ p && (p.isV || pa) && (toS (chX T e sc (fun _ => true) x).1).isSome)
      | none => false
    | none => false
  | none => false
theorem so_setI {p : Pl} {a e : E} : SoS T Γ rt fx (exS Γ (.setI p a e)) (ckSetI T p a e) := fun {C sc k X st} g h => by
  unfold ckSetI at h
  split at h
  · rename_i hx
    split at h
    · rename_i hs
      split at h
      · rename_i ha
        simp only [Bool.and_eq_true, Bool.or_eq_true] at h
        obtain ⟨h0, ⟨⟨h1, h2⟩, h3⟩, h4⟩ := h
        obtain ⟨q, rfl, rfl⟩ := sAsg_eq hx
        obtain ⟨q1, rfl⟩ := vSub_eq hs
        obtain ⟨pu, h4⟩ := Option.isSome_iff_exists.mp h4
        obtain ⟨z1, z2⟩ := so_pl g.x h1
        exact tx_setI (by rw [g.x.κ]; exact h2) h3 (ps_asg ((soX e).s g.x h4) (pg_sub z1 ((soX a).s g.x ha) set_list (assign_sub h0)) (sw_sole rfl) (by unfold swappedStores; rfl) rfl)
      · cases h
    · cases h
  · cases h
def ckDset (T : Tb) (i : Nat) (a e : E) : CkS := fun sc st => match sAsg st with
  | some (t, x, _) => match vSub t with
    | some (o, ix) => match vName o, toS (chX T a sc (fun _ => true) ix).1, toS (chX T e sc (fun _ => true) x).1 with
      | some y, some _, some _ => okN T sc i y && decide (T.κ[i]? = some (.r []))
      | _, _, _ => false
    | none => false
  | none => false
theorem so_dset {i : Nat} {a e : E} : SoS T Γ rt fx (exS Γ (.dset i a e)) (ckDset T i a e) := fun {C sc k X st} g h => by
  have hu := room_lt g.x.room
  unfold ckDset at h
  split at h
  · rename_i hx
    split at h
    · rename_i hs
      split at h
      · rename_i hy ha he
        simp only [Bool.and_eq_true, decide_eq_true_eq] at h
        obtain ⟨h1, h2⟩ := h
        obtain ⟨p, rfl, rfl⟩ := sAsg_eq hx
        obtain ⟨q, rfl⟩ := vSub_eq hs
        obtain ⟨q1, rfl⟩ := vName_eq hy
        exact tx_dset (by rw [g.x.κ]; exact h2) (ps_dput (by omega) (okN_ok g.x h1) ((soX a).s g.x ha) ((soX e).s g.x he) (sw_nnm rfl))
      · cases h
    · cases h
  · cases h
def ckPass : CkS := fun _ st => match st with
  | .Pass _ => true
  | _ => false
theorem so_pass : SoS T Γ rt fx (exS Γ .pass) ckPass := fun {C sc k X st} g h => by
  unfold ckPass at h
  split at h
  · exact tx_pass ps_pass
  · cases h
def ckBrk : CkS := fun _ st => match st with
  | .Break _ => true
  | _ => false
theorem so_brk : SoS T Γ rt fx (exS Γ .brk) ckBrk := fun {C sc k X st} g h => by
  unfold ckBrk at h
  split at h
  · exact tx_brk ps_break
  · cases h
def ckCt : CkS := fun _ st => match st with
  | .Continue _ => true
  | _ => false
theorem so_ct : SoS T Γ rt fx (exS Γ .ct) ckCt := fun {C sc k X st} g h => by
  unfold ckCt at h
  split at h
  · exact tx_ct ps_continue
  · cases h
theorem so_stop : SoS T Γ rt fx (exS Γ .stop) (fun _ _ => true) := fun {C sc k X st} g h => ⟨fun pins s σ H D I ⟨_, _, _, _, _, _, q⟩ => (show False from q).elim⟩
end
mutual
def chS (T : Tb) (rt : Sh) (fx : List Nat) : S → CkS
  | .asg (.v i) e => ckAsgV T fx i e
  | .asg (.t ts) e => ckAsgT T fx ts e
  | .par is es => fun sc st => ckPar T fx is es sc st || ckPar2 T fx is es sc st
  | .ifs c a b => ckIfs c (chSs T rt fx a) (chSs T rt fx b) T
  | .for_ w tg b => ckFor T fx w tg (chSs T rt fx b)
  | .whl _ c b => ckWhl T c (chSs T rt fx b)
  | .ret e => ckRet T rt e
  | .retN => ckRetN rt
  | .ex e => ckEx T e
  | .app p e => ckApp T p e
  | .ext p e => ckExt T p e
  | .setF i j k e => ckSetF T i j k e
  | .setI p a e => ckSetI T p a e
  | .dset i a e => ckDset T i a e
  | .pass => ckPass
  | .brk => ckBrk
  | .ct => ckCt
  | .stop => fun _ _ => true
def chSs (T : Tb) (rt : Sh) (fx : List Nat) : Ss → CkSs
  | .nil => ckNilS
  | .cons s ss => ckConsS (chS T rt fx s) (chSs T rt fx ss)
end
section
variable {T : Tb} {Γ : Nat → Fn} {rt : Sh} {fx : List Nat}
mutual
theorem soS : ∀ s : S, SoS T Γ rt fx (exS Γ s) (chS T rt fx s)
  | .asg (.v i) e => by unfold chS; exact so_asgV
  | .asg (.t ts) e => by unfold chS; exact so_asgT
  | .par is es => by
    unfold chS
    intro g h
    exact (Bool.or_eq_true_iff.mp h).elim (so_par g) (so_par2 g)
  | .ifs c a b => by unfold chS; exact so_ifs (soSs a) (soSs b)
  | .for_ w tg b => by unfold chS; exact so_for (soSs b)
  | .whl _ c b => by unfold chS; exact so_whl (soSs b)
  | .ret e => by unfold chS; exact so_ret
  | .retN => by unfold chS; exact so_retN
  | .ex e => by unfold chS; exact so_ex
  | .app p e => by unfold chS; exact so_app
  | .ext p e => by unfold chS; exact so_ext
  | .setF i j k e => by unfold chS; exact so_setF
  | .setI p a e => by unfold chS; exact so_setI
  | .dset i a e => by unfold chS; exact so_dset
  | .pass => by unfold chS; exact so_pass
  | .brk => by unfold chS; exact so_brk
  | .ct => by unfold chS; exact so_ct
  | .stop => by unfold chS; exact so_stop
theorem soSs : ∀ ss : Ss, SoSs T Γ rt fx (exSs Γ ss) (chSs T rt fx ss)
  | .nil => by unfold chSs; exact so_nilS
  | .cons s ss => by unfold chSs; exact so_consS (soS s) (soSs ss)
end
end
end TV

/-! V23: a def keeps its promise; all of them. -/
namespace TV
open PySem PySem.Spec PyProof.Rows L2
def iosOf : Nat → List Sh → List Nat
  | _, [] => []
  | i, p :: ps => if p.isM then i :: iosOf (i + 1) ps else iosOf (i + 1) ps
structure Df where
  nm : Str
  pn : List Str
  ps : List Sh
  ret : Sh
  N : List Str
  κ : List Sh
  kw : List KPat
  body : Ss
def Df.ios (d : Df) : List Nat := iosOf 0 d.ps
def Df.fe (d : Df) (i : Nat) : FE := ⟨d.nm, d.ps, d.pn, d.ret, d.kw, i⟩
def Df.sem (d : Df) (Γ : Nat → Fn) : Fn := run Γ d.N.length d.ios (decide (d.ret = .s)) d.body
def fes (l : List Df) : List FE := l.zipIdx.map fun p => p.1.fe p.2
def Df.T (d : Df) (l : List Df) (B : List BN) : Tb := ⟨d.N, d.κ, fes l, B⟩
/-- what the defs do, down to the depth k -/
def Gam (l : List Df) : Nat → Nat → Fn
  | 0 => fun _ _ => .no
  | k + 1 => fun i => match l[i]? with
    | some d => d.sem (Gam l k)
    | none => fun _ => .no
def Sh.par (s : Sh) : Bool := s.isM || decide (s = .s) || decide (s = .z)
/-- the check of a def -/
def okDf (l : List Df) (B : List BN) (d : Df) (params : Arguments) (body : List Stmt) (scope : Scope) : Bool :=
  decide d.N.Nodup && decide (d.N.take d.pn.length = d.pn) && decide (d.ps.length = d.pn.length) && decide (d.κ.take d.ps.length = d.ps) && d.ret.noz && d.ps.all Sh.par &&
  decide (scope.kind = .function) && !scope.isCoroutine && !scope.isGenerator && d.pn.all (fun x => decide (scope.names.lookup x = some .local) || decide (scope.names.lookup x = some .cell)) && scope.names.all (fun y => decide (y.2 ≠ .free)) &&
  chSs (d.T l B) d.ret d.ios d.body scope body
section
variable {K : PySem.W.Frag} {κ : List Sh} {Z B G H B' G' H' : Hp} {σ : L2.St} {ρ ρ' : Env} {fp fp' : Nat → List Addr}
theorem ArgsR.len {ps : List Sh} {ds : List D} {vs : List V} {fs : List (List Addr)} (h : ArgsR K B G H ps ds vs fs) : vs.length = ps.length ∧ ds.length = ps.length ∧ fs.length = ps.length := by
  induction h with
  | nil => exact ⟨rfl, rfl, rfl⟩
  | cons _ _ ih => exact ⟨by simp [ih.1], by simp [ih.2.1], by simp [ih.2.2]⟩
theorem ArgsR.at_ {ps : List Sh} {ds : List D} {vs : List V} {fs : List (List Addr)} (h : ArgsR K B G H ps ds vs fs) : ∀ {i : Nat} {d : D}, ds[i]? = some d → ∃ p v as, ps[i]? = some p ∧ vs[i]? = some v ∧ fs[i]? = some as ∧ Ow K B G H p d v as := by
  induction h with
  | nil => intro i d e; simp at e
  | cons o _ ih =>
    intro i d e
    cases i with
    | zero => simp at e; subst e; exact ⟨_, _, _, rfl, rfl, rfl, o⟩
    | succ i => exact ih (by simpa using e)
theorem fs_flat {fs : List (List Addr)} {i : Nat} {as : List Addr} (e : fs[i]? = some as) : ∀ a ∈ as, a ∈ fs.flatten := fun a ha => List.mem_flatten.mpr ⟨as, List.mem_of_getElem? e, ha⟩
theorem fs_dj : ∀ {fs : List (List Addr)} {i j : Nat} {as bs : List Addr}, fs.flatten.Nodup → fs[i]? = some as → fs[j]? = some bs → i ≠ j → ∀ a ∈ as, a ∉ bs
  | [], i, j, as, bs, _, e, _, _, a, _ => by simp at e
  | f :: fs, 0, 0, _, _, _, _, _, h, _, _ => absurd rfl h
  | f :: fs, 0, j + 1, as, bs, nd, e, e2, _, a, ha => by
    simp at e e2; subst e
    rw [List.flatten_cons, List.nodup_append] at nd
    exact fun hb => nd.2.2 a ha a (fs_flat e2 a hb) rfl
  | f :: fs, i + 1, 0, as, bs, nd, e, e2, _, a, ha => by
    simp at e e2; subst e2
    rw [List.flatten_cons, List.nodup_append] at nd
    exact fun hb => nd.2.2 a hb a (fs_flat e a ha) rfl
  | f :: fs, i + 1, j + 1, as, bs, nd, e, e2, h, a, ha => by
    rw [List.flatten_cons, List.nodup_append] at nd
    exact fs_dj nd.2.1 (by simpa using e) (by simpa using e2) (fun z => h (by omega)) a ha
/-- the entry -/
theorem rel_start {ps : List Sh} {ds : List D} {vs : List V} {fs : List (List Addr)} {N : List Str} (bg : Same B G) (gh : Same G H) (hA : ArgsR K B G H ps ds vs fs) (nd : fs.flatten.Nodup) (hn : ∀ a ∈ fs.flatten, G a = none) (hκ : κ.take ps.length = ps) (hl : ps.length ≤ N.length) :
    Rel K κ G B G H (ds.map some ++ List.replicate (N.length - ds.length) none) (start N vs) (fun i => fs.getD i []) := by
  obtain ⟨l1, l2, l3⟩ := hA.len
  have get : ∀ i, fs.getD i [] ≠ [] → fs[i]? = some (fs.getD i []) := fun i h => by
    rw [List.getD_eq_getElem?_getD] at h ⊢
    cases e : fs[i]? with
    | none => rw [e] at h; exact absurd rfl h
    | some a => rfl
  have mem : ∀ i a, a ∈ fs.getD i [] → fs[i]? = some (fs.getD i []) := fun i a ha => get i fun z => by rw [z] at ha; cases ha
  refine ⟨bg, gh, Same.refl _, by unfold L2.start; simp [l1, l2], fun i d e => ?_, fun i => ?_, fun i j hij a ha hb => ?_, fun i a ha => ?_⟩
  · have hi : i < ds.length := by
      by_cases hi : i < ds.length
      · exact hi
      · rw [List.getElem?_append_right (by simpa using hi), List.getElem?_replicate] at e
        split at e <;> cases e
    rw [List.getElem?_append_left (by simpa using hi), List.getElem?_map] at e
    have e : ds[i]? = some d := by
      cases q : ds[i]? with
      | none => rw [q] at e; cases e
      | some x => rw [q] at e; cases e; rfl
    obtain ⟨p, v, as, h1, h2, h3, ow⟩ := hA.at_ e
    refine ⟨v, p, ?_, ?_, ?_⟩
    · unfold L2.start
      rw [List.getElem?_append_left (by simp; omega), List.getElem?_map, h2]; rfl
    · rw [← hκ, List.getElem?_take_of_lt (by omega)] at h1
      exact h1
    · rw [List.getD_eq_getElem?_getD, h3]; exact ow
  · by_cases h : fs.getD i [] = []
    · rw [h]; exact List.nodup_nil
    · exact flat_nd nd (List.mem_of_getElem? (get i h))
  · exact fs_dj nd (mem i a ha) (mem j a hb) hij a ha hb
  · refine ⟨hn a (fs_flat (mem i a ha) a ha), ?_⟩
    have hi : i < ds.length := by
      have := (List.getElem?_eq_some_iff.mp (mem i a ha)).1
      omega
    obtain ⟨p, v, as, h1, h2, h3, ow⟩ := hA.at_ (List.getElem?_eq_getElem hi)
    rw [mem i a ha] at h3
    cases h3
    exact ow.inH a ha
/-- the end: the owned parameters as they are left -/
theorem outs_of (r : Rel K κ Z B' G' H' ρ' σ fp) : ∀ {ps : List Sh} {vs : List V} {i : Nat}, vs.length = ps.length → ps.all Sh.par = true → (∀ j p, ps[j]? = some p → κ[i + j]? = some p) → (∀ j p v, ps[j]? = some p → p.isM = true → vs[j]? = some v → σ[i + j]? = some (some v)) →
    OutsR K B' G' H' ps vs ((iosOf i ps).map (gv ρ')) ((iosOf i ps).map fp)
  | [], [], i, _, _, _, _ => .nil
  | p :: ps, v :: vs, i, hl, hp, hκ, hσ => by
    rw [List.all_cons, Bool.and_eq_true] at hp
    have ih := outs_of r (ps := ps) (vs := vs) (i := i + 1) (by simpa using hl) hp.2 (fun j q e => by
      have := hκ (j + 1) q (by simpa using e)
      rw [show i + (j + 1) = i + 1 + j by omega] at this
      exact this) (fun j q v e m e2 => by
      have := hσ (j + 1) q v (by simpa using e) m (by simpa using e2)
      rw [show i + (j + 1) = i + 1 + j by omega] at this
      exact this)
    unfold iosOf
    cases hm : p.isM with
    | false =>
      simp only [Bool.false_eq_true, if_false]
      exact .skip hm ih
    | true =>
      simp only [if_true, List.map_cons]
      refine .m hm (fun d e => ?_) ih
      obtain ⟨w, s, h1, h2, ow⟩ := r.at_ i d (gv_some e)
      have k := hκ 0 p rfl
      rw [Nat.add_zero, h2] at k
      cases k
      have z := hσ 0 p v rfl hm rfl
      rw [Nat.add_zero, h1] at z
      cases z
      exact ow.anyG (noz_of_isM hm)
  | [], _ :: _, _, hl, _, _, _ => by simp at hl
  | _ :: _, [], _, hl, _, _, _ => by simp at hl
theorem iosOf_lt : ∀ {ps : List Sh} {i j : Nat}, j ∈ iosOf i ps → i ≤ j ∧ ∃ p, ps[j - i]? = some p ∧ p.isM = true
  | [], _, _, h => by simp [iosOf] at h
  | p :: ps, i, j, h => by
    unfold iosOf at h
    split at h
    · rename_i hm
      rcases List.mem_cons.mp h with e | h
      · subst e; exact ⟨Nat.le_refl _, p, by simp, hm⟩
      · obtain ⟨h1, q, h2, h3⟩ := iosOf_lt h
        refine ⟨by omega, q, ?_, h3⟩
        rw [show j - i = (j - (i + 1)) + 1 by omega]
        simpa using h2
    · obtain ⟨h1, q, h2, h3⟩ := iosOf_lt h
      refine ⟨by omega, q, ?_, h3⟩
      rw [show j - i = (j - (i + 1)) + 1 by omega]
      simpa using h2
theorem iosOf_nd : ∀ {ps : List Sh} {i : Nat}, (iosOf i ps).Nodup
  | [], _ => by simp [iosOf]
  | p :: ps, i => by
    unfold iosOf
    split
    · refine List.nodup_cons.mpr ⟨fun h => ?_, iosOf_nd⟩
      have := (iosOf_lt h).1
      omega
    · exact iosOf_nd
theorem fps_nd (r : Rel K κ Z B' G' H' ρ' σ fp) : ∀ {is : List Nat}, is.Nodup → ((is.map fp).flatten).Nodup
  | [], _ => by simp
  | i :: is, h => by
    rw [List.map_cons, List.flatten_cons, List.nodup_append]
    obtain ⟨h1, h2⟩ := List.nodup_cons.mp h
    refine ⟨r.nd i, fps_nd r h2, fun a ha b hb e => ?_⟩
    subst e
    obtain ⟨f, hf, hb⟩ := List.mem_flatten.mp hb
    obtain ⟨j, hj, rfl⟩ := List.mem_map.mp hf
    exact r.dj i j (fun z => h1 (z ▸ hj)) a ha hb
end
/-- THE RULE: a def by its check -/
theorem fnG_of {P : Program} {w : World} {K : PySem.W.Frag} {mg : Str → Option Value} {base : Heap} {EX : D → Value → Option Addr → Hp → Hp → Prop} {l : List Df} {Bn : List BN} {d : Df} {k : Nat} {name qual : Str} {params : Arguments} {stmts : List Stmt} {scope : Scope} {dvs : List V} {kws : List (Str × V)} {f : Addr} {fd : FuncData} {Γ : Nat → Fn}
    (F : FunD K name qual params stmts scope dvs kws f fd) (hok : okDf l Bn d params stmts scope = true) (free : ∀ b ∈ Bn, Fr mg b)
    (fns : ∀ fe ∈ fes l, ∃ f fd, mg fe.name = some (.ref f) ∧ PySem.W.keepIn K (.ref f) = true ∧ Binds K fd fe.pn [] ∧ (∀ kp ∈ fe.kw, KBd K fd fe.pn kp) ∧ FnG P w K mg base (L2.CX P w) k f fd fe.pn (spOf K EX ⟨fe.name, fe.ps, fe.ret, Γ fe.ix⟩)) :
    FnG P w K mg base (L2.CX P w) (k + 1) f fd d.pn (spOf K EX ⟨d.nm, d.ps, d.ret, d.sem Γ⟩) := by
  unfold okDf at hok
  simp only [Bool.and_eq_true, decide_eq_true_eq, Bool.not_eq_true'] at hok
  obtain ⟨⟨⟨⟨⟨⟨⟨⟨⟨⟨⟨o1, o2⟩, o3⟩, o4⟩, o5⟩, o6⟩, o7⟩, o8⟩, o9⟩, o10⟩, o11⟩, o12⟩ := hok
  have S : FnScope d.N d.pn scope := ⟨o7, o8, o9, o1, o2, fun x hx => by
    have := List.all_eq_true.mp o10 x hx
    simpa using this, fun y hy => by
    have := List.all_eq_true.mp o11 y hy
    simpa using this⟩
  have hpn : d.pn.length ≤ d.N.length := by
    have := congrArg List.length o2
    rw [List.length_take] at this
    omega
  have len : ∀ vs H Q E, spOf K EX ⟨d.nm, d.ps, d.ret, d.sem Γ⟩ vs H Q E → vs.length = d.pn.length := fun vs H Q E ⟨ds, B, G, fs, _, _, hA, _⟩ => by rw [← o3]; exact hA.len.1
  obtain ⟨_, _, dfV, kwV, dcV, pmV, anV, cdv, ctV, oslV, rfl, look, hcode, _, _⟩ := F.ex
  refine ⟨len, fun A outer s H args us vs Q E hr hgd e0 hb r hsp => ?_⟩
  have hl := len _ _ _ _ hsp
  have kinH : K.In s.heap := e0.mod.kin.keeps fun p o he => (e0.bs p o he).1
  have noLim : s.heap.NoLimit := e0.mod.nolimit.keeps fun p o he => (e0.bs p o he).1
  have kinds : ∀ y ∈ d.pn.zip us, scope.names.lookup y.1 = some .local ∨ (scope.names.lookup y.1 = some .cell ∧ ((cellsFrom (s.heap.objs.size + 1) scope.names []).lookup y.1).isSome = true) := fun ⟨n, v⟩ hy => by
    rcases S.par n (List.of_mem_zip hy).1 with isL | isC
    · exact .inl isL
    · exact .inr ⟨isC, PySem.W.cellsFrom_some _ _ _ (.inl isC)⟩
  refine codeAny_call_function hr.depth (kinH _ _ look) rfl S.co S.gen rfl (PySem.W.codeRec_of kinH hcode) (hb _ _ _ _ ?_)
  refine wpAny_newFunctionEnv_cells S.kind kinds fun env he s1 inC => ?_
  subst he
  refine ⟨noLim.keeps inC.toInCall.keep, codeAny_func ?_⟩
  have I : Inv (cxOf (L2.CX P w) P w K mg base d.N qual scope f cdv A outer s H E) [] (start d.N vs) H s1 := inv_start S hr.hd e0 hl r inC
  obtain ⟨ds, B, G, fs, bg, gh, hA, nd, hn, post⟩ := hsp
  obtain ⟨al1, al2, al3⟩ := hA.len
  let C : Ct := ⟨K, d.κ, G, d.ret, d.ios.map fun i => (i, vs.getD i .non), fun cls dd _ H => E cls dd H, EX⟩
  have g : GS (d.T l Bn) Γ d.ret d.ios C scope k (cxOf (L2.CX P w) P w K mg base d.N qual scope f cdv A outer s H E) :=
    { x := { N := rfl, nd := o1, K := rfl, κ := rfl, sc := rfl, own := rfl, calm := rfl, gd := hgd, room := hr.deeper _, tk := takes_of rfl rfl rfl rfl, free := free, fns := fns }
      po := passes_of rfl
      ret := rfl
      fix := fun p hp => by
        obtain ⟨i, hi, rfl⟩ := List.mem_map.mp hp
        exact hi
      kind := o7 }
  have hS := soSs d.body g o12
  have rel : Rel K d.κ G B G H (ds.map some ++ List.replicate (d.N.length - ds.length) none) (start d.N vs) (fun i => fs.getD i []) := rel_start bg gh hA nd hn o4 (by omega)
  have σat : ∀ i v, vs[i]? = some v → (start d.N vs)[i]? = some (some v) := fun i v e => by
    unfold L2.start
    rw [List.getElem?_append_left (by simpa using (List.getElem?_eq_some_iff.mp e).1), List.getElem?_map, e]; rfl
  have fx0 : Fx C (start d.N vs) := fun p hp => by
    obtain ⟨i, hi, rfl⟩ := List.mem_map.mp hp
    obtain ⟨_, q, h2, _⟩ := iosOf_lt hi
    have hi2 : i < vs.length := by
      have := (List.getElem?_eq_some_iff.mp h2).1
      omega
    refine σat i _ ?_
    rw [List.getD_eq_getElem?_getD, List.getElem?_eq_getElem hi2]; rfl
  have fin : ∀ {σ' : L2.St} {B' G' H' : Hp} {ρ' : Env} {fp' : Nat → List Addr}, Rel K d.κ G B' G' H' ρ' σ' fp' → Fx C σ' → OutsR K B' G' H' d.ps vs (d.ios.map (gv ρ')) (d.ios.map fp') := fun {σ' B' G' H' ρ' fp'} r' fx => by
    refine outs_of r' (by omega) o6 (fun j p e => ?_) (fun j p v e m e2 => ?_)
    · rw [Nat.zero_add]
      have hj := (List.getElem?_eq_some_iff.mp e).1
      have e2 : (d.κ.take d.ps.length)[j]? = some p := by rw [o4]; exact e
      rw [List.getElem?_take_of_lt hj] at e2
      exact e2
    · rw [Nat.zero_add]
      have hj : j ∈ d.ios := by
        unfold Df.ios
        have key : ∀ (ps : List Sh) (i j : Nat) (p : Sh), ps[j]? = some p → p.isM = true → i + j ∈ iosOf i ps := fun ps => by
          induction ps with
          | nil => intro i j p e; simp at e
          | cons q ps ih =>
            intro i j p e m
            cases j with
            | zero =>
              simp at e; subst e
              simp [iosOf, m]
            | succ j =>
              have := ih (i + 1) j p (by simpa using e) m
              rw [show i + (j + 1) = i + 1 + j by omega]
              unfold iosOf
              split
              · exact List.mem_cons_of_mem _ this
              · exact this
        have := key d.ps 0 j p e m
        rwa [Nat.zero_add] at this
      have := fx (j, vs.getD j .non) (List.mem_map.mpr ⟨j, hj, rfl⟩)
      rw [List.getD_eq_getElem?_getD, e2] at this
      exact this
  have none' : ∀ {σ' : L2.St} {B' G' H' : Hp} {ρ' : Env} {fp' : Nat → List Addr}, Rel K d.κ G B' G' H' ρ' σ' fp' → ∀ a ∈ (d.ios.map fp').flatten, G' a = none ∧ ∃ o, H' a = some o := fun {σ' B' G' H' ρ' fp'} r' a ha => by
    obtain ⟨f, hf, hb⟩ := List.mem_flatten.mp ha
    obtain ⟨j, _, rfl⟩ := List.mem_map.mp hf
    exact r'.out j a hb
  have hq : tX C (exSs Γ d.body) { nx := fun _ H' => Q .non H', rt := Q } (start d.N vs) H := by
    refine ⟨_, B, G, _, rel, fx0, ?_⟩
    have post : PostF K EX ⟨d.nm, d.ps, d.ret, d.sem Γ⟩ B G vs Q E (d.sem Γ ds) := post
    unfold Df.sem run at post
    cases ex : exSs Γ d.body (ds.map some ++ List.replicate (d.N.length - ds.length) none) with
    | ret dv ρ' =>
      rw [ex] at post
      intro v σ' B' G' H' fp' as u r' fx ow nd' out
      refine post v H' B' G' as _ u r'.bg r'.gh (ow.anyG o5) (fin r' fx) ?_ fun a ha => ?_
      · rw [List.nodup_append]
        refine ⟨nd', fps_nd r' iosOf_nd, fun a ha b hb e => ?_⟩
        subst e
        obtain ⟨f, hf, hb⟩ := List.mem_flatten.mp hb
        obtain ⟨j, _, rfl⟩ := List.mem_map.mp hf
        exact (out a ha).2 j hb
      · rcases List.mem_append.mp ha with ha | ha
        · exact ⟨(out a ha).1, ow.inH a ha⟩
        · exact none' r' a ha
    | nx ρ' =>
      rw [ex] at post
      by_cases hret : d.ret = .s
      · simp only [hret, decide_true, if_true] at post
        intro σ' B' G' H' fp' u r' fx
        exact post .non H' B' G' [] _ u r'.bg r'.gh (.s .non) (fin r' fx) (by rw [List.nil_append]; exact fps_nd r' iosOf_nd) fun a ha => none' r' a (by simpa using ha)
      · simp only [hret, decide_false] at post
        exact post.elim
    | err xd ρ' =>
      rw [ex] at post
      intro cls dx σ' B' G' H' fp' u r' fx he
      exact post cls dx H' B' G' _ u r'.bg r'.gh (fin r' fx) (fps_nd r' iosOf_nd) (none' r') he
    | brk ρ' => rw [ex] at post; exact post.elim
    | ct ρ' => rw [ex] at post; exact post.elim
    | no => rw [ex] at post; exact post.elim
  refine wpAny_mono (hS.run [] s1 (start d.N vs) H _ I hq) (fun fl s' hs => ?_) fun e s' hs => hs
  have fin2 : ∀ {σ' : L2.St} {H' : Hp} {v : V} {u : Value}, Inv (cxOf (L2.CX P w) P w K mg base d.N qual scope f cdv A outer s H E) [] σ' H' s' → RelV v u → Q v H' → CE outer P w H s Q u s' :=
    fun {σ' H' v u} inv rv q => ⟨v, H', inv.os, inv.bare, inv.base, inv.hok, rv, q⟩
  cases fl with
  | ret u =>
    obtain ⟨v, σ', H', inv, rv, q⟩ := hs
    exact fin2 inv rv q
  | next =>
    obtain ⟨σ', H', inv, q⟩ := hs
    exact fin2 (v := V.non) (u := Value.none) inv rfl q
  | brk =>
    obtain ⟨_, _, _, q⟩ := hs
    exact False.elim q
  | cont =>
    obtain ⟨_, _, _, q⟩ := hs
    exact False.elim q
end TV

/-! V24: all defs of a text; the law's end. -/
namespace TV
open PySem PySem.Spec PyProof.Rows L2
/-- a def as it stands: its function object, its name, its check -/
structure DfOk (K : PySem.W.Frag) (mg : Str → Option Value) (l : List Df) (Bn : List BN) (d : Df) (f : Addr) (fd : FuncData) : Prop where
  ok : ∃ name qual params stmts scope dvs kws, FunD K name qual params stmts scope dvs kws f fd ∧ okDf l Bn d params stmts scope = true
  mg : mg d.nm = some (.ref f)
  bd : Binds K fd d.pn []
  kb : ∀ kp ∈ d.kw, KBd K fd d.pn kp
theorem mem_fes {l : List Df} {fe : FE} (h : fe ∈ fes l) : ∃ (i : Nat) (d : Df), l[i]? = some d ∧ fe = d.fe i := by
  unfold fes at h
  obtain ⟨⟨d, i⟩, h1, rfl⟩ := List.mem_map.mp h
  have := List.mem_zipIdx_iff_getElem?.mp h1
  exact ⟨i, d, this, rfl⟩
section
variable {P : Program} {w : World} {K : PySem.W.Frag} {mg : Str → Option Value} {base : Heap} {EX : D → Value → Option Addr → Hp → Hp → Prop} {l : List Df} {Bn : List BN}
/-- all defs, at every depth -/
theorem tower (h : ∀ d ∈ l, ∃ f fd, DfOk K mg l Bn d f fd) (free : ∀ b ∈ Bn, Fr mg b) : ∀ (k : Nat), ∀ fe ∈ fes l, ∃ f fd, mg fe.name = some (.ref f) ∧ PySem.W.keepIn K (.ref f) = true ∧ Binds K fd fe.pn [] ∧ (∀ kp ∈ fe.kw, KBd K fd fe.pn kp) ∧
    FnG P w K mg base (L2.CX P w) k f fd fe.pn (spOf K EX ⟨fe.name, fe.ps, fe.ret, Gam l k fe.ix⟩)
  | 0, fe, hfe => by
    obtain ⟨i, d, hd, rfl⟩ := mem_fes hfe
    obtain ⟨f, fd, ⟨⟨name, qual, params, stmts, scope, dvs, kws, F, _⟩, hm, hb, kb⟩⟩ := h d (List.mem_of_getElem? hd)
    have no : ∀ vs H Q E, ¬ spOf K EX ⟨d.nm, d.ps, d.ret, Gam l 0 i⟩ vs H Q E := fun vs H Q E ⟨ds, B, G, fs, _, _, _, _, _, q⟩ => q
    exact ⟨f, fd, hm, F.kp, hb, kb, fun vs H Q E q => (no vs H Q E q).elim, fun A outer s H args us vs Q E _ _ _ _ _ q => (no vs H Q E q).elim⟩
  | k + 1, fe, hfe => by
    have ih := tower h free k
    obtain ⟨i, d, hd, rfl⟩ := mem_fes hfe
    obtain ⟨f, fd, ⟨⟨name, qual, params, stmts, scope, dvs, kws, F, ok⟩, hm, hb, kb⟩⟩ := h d (List.mem_of_getElem? hd)
    refine ⟨f, fd, hm, F.kp, hb, kb, ?_⟩
    have e : Gam l (k + 1) i = d.sem (Gam l k) := by simp only [Gam, hd]
    show FnG P w K mg base (L2.CX P w) (k + 1) f fd d.pn (spOf K EX ⟨d.nm, d.ps, d.ret, Gam l (k + 1) i⟩)
    rw [e]
    exact fnG_of F ok free ih
/-- the whole thing of a text -/
theorem law_fn {i : Nat} {d : Df} {fa : Addr} (h : ∀ d ∈ l, ∃ f fd, DfOk K mg l Bn d f fd) (free : ∀ b ∈ Bn, Fr mg b) (hd : l[i]? = some d) (hm : mg d.nm = some (.ref fa)) (k : Nat) :
    ∃ fd, Binds K fd d.pn [] ∧ FnG P w K mg base (L2.CX P w) k fa fd d.pn (spOf K EX ⟨d.nm, d.ps, d.ret, Gam l k i⟩) := by
  have hfe : d.fe i ∈ fes l := by
    unfold fes
    exact List.mem_map.mpr ⟨(d, i), List.mem_zipIdx_iff_getElem?.mpr hd, rfl⟩
  obtain ⟨f, fd, h1, _, h3, _, h4⟩ := tower (P := P) (w := w) (base := base) (EX := EX) h free k (d.fe i) hfe
  have h1 : mg d.nm = some (.ref f) := h1
  rw [hm] at h1
  cases h1
  exact ⟨fd, h3, h4⟩
end
/-- the law's promise at a script -/
theorem sp_law {K : PySem.W.Frag} {EX : D → Value → Option Addr → Hp → Hp → Prop} {nm : Str} {sem : Fn} {H : Hp} {a : Addr} {ns : List Int} (hS : SqL K H a (ns.map V.int)) {os : Env} (hs : sem [.list (ns.map .int)] = .ok (.bool true) os) :
    spOf K EX ⟨nm, [.z], .s, sem⟩ [.ref a] H (fun v _ => v = .bl true) fun _ _ _ => False := by
  have dv : ∀ ns : List Int, DvAll K (fun _ => none) (ns.map V.int) (ns.map PyData.int) := fun ns => by
    induction ns with
    | nil => exact .nil
    | cons n ns ih => exact .cons (.int n) ih
  refine ⟨[.list (ns.map .int)], fun _ => none, H, [[]], fun _ _ e => by simp at e, Same.refl _, .cons (.z hS (dv ns)) .nil, by simp, fun a ha => by simp at ha, ?_⟩
  show PostF K EX ⟨nm, [.z], .s, sem⟩ _ _ _ _ _ (sem [.list (ns.map .int)])
  rw [hs]
  intro v H' B' G' as fs _ _ _ ow _ _ _
  have ow : Ow K B' G' H' .s (.bool true) v as := ow
  cases ow with
  | s h => exact h.bl'
end TV

/-! V25: the law's call behind the top, by a promise of FnG's kind. -/
namespace TV
open PySem PySem.Spec PyProof.Rows L2
section
variable {P : Program} {w : World} {K : PySem.W.Frag} {mg mb : Str → Option Value} {k : Nat} {fa a : Addr} {fd : FuncData} {x : Str} {sp : Sp} {t1 : Shared} {us : List Value} {ns : List Int}
/-- from an abstract heap that knows the script at most -/
theorem call_from {T : Hp} (only : ∀ b, T b ≠ none → b = a) (froz : T a = none ∨ ∃ o xs, T a = some (.frz o (.lst xs))) (hok : HOk P w T t1.heap) (apart : T a ≠ none → K.lookup a = none)
    (inK : K.In t1.heap) (nsG : t1.heap.Ns mainGlobals mg) (nsB : t1.heap.Ns builtinsNs mb) (boot : ∀ x : Str, x ≠ "__name__" → mb x = bootBuiltins x) (noL : t1.heap.NoLimit) (gens : t1.gens = #[])
    (at_ : t1.heap.get? a = some { cls := .type "list", data := .seq us.toArray }) (room : Room k callerA)
    (F : ∀ base : Heap, K.In base → base.Ns mainGlobals mg → FnG P w K mg base (L2.CX P w) k fa fd [x] sp) (bind : ∀ (s : Shared) (u : Value), BindsTo s fd ⟨[u], []⟩ [(x, u)])
    (hsp : sp [.ref a] T (fun v _ => v = .bl true) fun _ _ _ => False) :
    codeAny (model P w) callerA (.call (.ref fa) ⟨[.ref a], []⟩) (fun r t => r = .ok (.ret (.bool true)) ∧ OldK t1.heap t.heap ∧ t.os = t1.os ∧ AllBare t.gens) t1 := by
  have down : ∀ {b : Addr} {o : Obj}, t1.heap.get? b = some o → T b = none → (hidT t1.heap T).get? b = some o := fun he hn => hidT_get he hn
  have free : ∀ {b : Addr}, b ≠ a → T b = none := fun {b} hb => by
    cases hT : T b with
    | none => rfl
    | some u => exact absurd (only b (by rw [hT]; simp)) hb
  have dictNo : ∀ {b : Addr} {m : Str → Option Value}, t1.heap.Ns b m → T b = none := fun {b m} ⟨o, es, ep, he, hd, _⟩ => free fun hb => by
    rw [hb, at_] at he
    cases he
    exact absurd hd (by simp)
  have nsD : ∀ {b : Addr} {m : Str → Option Value}, t1.heap.Ns b m → (hidT t1.heap T).Ns b m := fun {b m} hb => by
    have hn := dictNo hb
    obtain ⟨o, es, ep, he, hd, hr⟩ := hb
    exact ⟨o, es, ep, down he hn, hd, hr⟩
  have inK2 : K.In (hidT t1.heap T) := fun b o he => down (inK b o he) (by
    cases hT : T b with
    | none => rfl
    | some u =>
      have hb := only b (by rw [hT]; simp)
      subst hb
      rw [apart (by rw [hT]; simp)] at he
      cases he)
  have md : Mod K mg (hidT t1.heap T) := ⟨inK2, nsD nsG, ⟨mb, nsD nsB, boot⟩, let ⟨mc, h1, h2⟩ := noL; ⟨mc, nsD h1, h2⟩⟩
  have env : Env0 P w K mg (hidT t1.heap T) callerA [] t1 T :=
    { frames := rfl, mod := md, bs := fun b o he => of_hidT he, bsz := Nat.le_of_eq (hidT_size _ _), funs := trivial, frf := (fun b hb => absurd (show b ∈ ([] : List Addr) from hb) (by simp)), hok := hok, bare := .of_eq gens }
  refine codeAny_mono ((F _ inK2 (nsD nsG)).run callerA [] t1 T ⟨[.ref a], []⟩ [.ref a] [.ref a] _ _ room rfl env (bind t1 (.ref a)) (.cons rfl .nil) hsp) fun r t h => ?_
  cases r with
  | error e =>
    obtain ⟨_, _, _, _, _, _, _, _, _, _, _, _, z⟩ : L2.CX P w [] T t1 (fun _ _ _ => False) e t := h
    exact z.elim
  | ok fl =>
    cases fl with
    | next => exact False.elim h
    | brk => exact False.elim h
    | cont => exact False.elim h
    | ret u =>
      obtain ⟨v, T', hos, hb, un, hok2, rv, q⟩ := h
      have q : v = .bl true := q
      subst q
      obtain rfl : u = Value.bool true := rv
      refine ⟨rfl, OldK.of_keep fun b o he => ?_, hos, hb⟩
      cases hT : T b with
      | none => exact un.keep b o he hT (fun z => by cases z) (by simp)
      | some u =>
        have hb := only b (by rw [hT]; simp)
        subst hb
        rcases froz with z | ⟨ob, xs, z⟩
        · rw [hT] at z; cases z
        · obtain ⟨e1, _⟩ := hok b _ z
          obtain ⟨e2, _⟩ := hok2 b _ (un.frzs b ob _ z)
          rw [he] at e1
          cases e1
          exact e2
theorem call_law (inK : K.In t1.heap) (nsG : t1.heap.Ns mainGlobals mg) (nsB : t1.heap.Ns builtinsNs mb) (boot : ∀ x : Str, x ≠ "__name__" → mb x = bootBuiltins x) (noL : t1.heap.NoLimit) (gens : t1.gens = #[])
    (at_ : t1.heap.get? a = some { cls := .type "list", data := .seq us.toArray }) (areI : IntsAre us ns) (few : ns.length ≤ sizeLine) (room : Room k callerA)
    (F : ∀ base : Heap, K.In base → base.Ns mainGlobals mg → FnG P w K mg base (L2.CX P w) k fa fd [x] sp) (bind : ∀ (s : Shared) (u : Value), BindsTo s fd ⟨[u], []⟩ [(x, u)])
    (hsp : ∀ T : Hp, SqL K T a (ns.map V.int) → sp [.ref a] T (fun v _ => v = .bl true) fun _ _ _ => False) :
    codeAny (model P w) callerA (.call (.ref fa) ⟨[.ref a], []⟩) (fun r t => r = .ok (.ret (.bool true)) ∧ OldK t1.heap t.heap ∧ t.os = t1.os ∧ AllBare t.gens) t1 := by
  have rel := vals_ints areI
  have ln := areI.length
  cases hk : K.lookup a with
  | some o =>
    have he := inK a o hk
    rw [at_] at he
    cases he
    refine call_from (T := fun _ => none) (fun b z => absurd rfl z) (.inl rfl) (fun b u z => by cases z) (fun z => absurd rfl z) inK nsG nsB boot noL gens at_ room F bind (hsp _ ?_)
    exact .inr ⟨_, us.toArray, _, hk, rfl, rfl, rfl, by rw [List.size_toArray, ln]; exact few, by simpa using rel⟩
  | none =>
    refine call_from (T := fun b => if b = a then some (.frz { cls := .type "list", data := .seq us.toArray } (.lst (ns.map V.int))) else none) (fun b z => ?_) (.inr ⟨_, _, if_pos rfl⟩) (fun b u z => ?_) (fun _ => hk) inK nsG nsB boot noL gens at_ room F bind (hsp _ (.inl (.inr ⟨_, if_pos rfl⟩)))
    · by_cases hb : b = a
      · exact hb
      · exact absurd (if_neg hb) z
    · by_cases hb : b = a
      · subst hb
        have z := (if_pos rfl).symm.trans z
        cases z
        exact ⟨at_, by rw [List.length_map]; exact few, us, _, rel, at_⟩
      · have z := (if_neg hb).symm.trans z
        cases z
end
/-- the walk of a law by facts of its defs -/
theorem walk_law {l : PySem.W.OpenLaw} {n k : Nat} {q : Program} {loose : List Str} {XP : (Str → Option Value) → Heap → Prop} {YP : World → Heap → Prop} {d : DefRec} {x : Str}
    (hn : l.most = some n) (hn2 : n ≤ sizeLine) (hdf : d.params.defaults = []) (room : Room k callerA)
    (F : ∀ (w : World) (mg : Str → Option Value) (fa : Addr) (h : Heap), YP w h → h.Ns mainGlobals mg → mg d.name = some (.ref fa) →
      ∃ (K : PySem.W.Frag) (fd : FuncData) (sp : List Int → Sp), K.In h ∧ (∀ (s : Shared) (u : Value), BindsTo s fd ⟨[u], []⟩ [(x, u)]) ∧
        ∀ ns : List Int, ns.length ≤ n → (∀ (T : Hp) (a : Addr), SqL K T a (ns.map V.int) → sp ns [.ref a] T (fun v _ => v = .bl true) fun _ _ _ => False) ∧
        ∀ base : Heap, K.In base → base.Ns mainGlobals mg → FnG l.prog w K mg base (L2.CX l.prog w) k fa fd [x] (sp ns)) :
    PySem.W.WalkO q loose XP YP l.row.toRowW d [] (fun f vs => PySem.call f vs) := by
  refine Att.attach_call hn hdf fun w s0 t1 mg mb fa o pm cd doc a us ns G Y ho hd hcd hmg hobj hints hlen hg => ?_
  obtain ⟨K, fd, sp, inK, bind, hF⟩ := F w mg fa _ Y G.T.g hmg
  obtain ⟨h1, h2⟩ := hF ns hlen
  exact call_law inK G.T.g G.T.b G.T.builtins G.T.nolimit hg hobj hints (Nat.le_trans hlen hn2) room h2 bind fun T hS => h1 T a hS
end TV

/-! V26: to reckon step by step: an evaluation at an environment that is there. -/
namespace TV
open PySem
section
variable {Γ : Nat → Fn} {a : Option D} {as : Env} {d : D}
@[simp] theorem gv_z : gv (some d :: as) 0 = some d := rfl
@[simp] theorem gv_n : gv (none :: as) 0 = none := rfl
@[simp] theorem gv_s {i : Nat} : gv (a :: as) (i + 1) = gv as i := rfl
/-! continuations -/
def ifK (A B : Env → Fl) : D → Env → Fl := fun x ρ => match x with
  | .bool true => A ρ
  | .bool false => B ρ
  | _ => .no
@[simp] theorem ifK_b {A B : Env → Fl} {b : Bool} {ρ : Env} : ifK A B (.bool b) ρ = if b = true then A ρ else B ρ := by cases b <;> rfl
def iteK (A B : Env → R D) : D → Env → R D := fun x ρ => match x with
  | .bool true => A ρ
  | .bool false => B ρ
  | _ => .no
@[simp] theorem iteK_b {A B : Env → R D} {b : Bool} {ρ : Env} : iteK A B (.bool b) ρ = if b = true then A ρ else B ρ := by cases b <;> rfl
def andK (B : Env → R D) : D → Env → R D := fun x ρ => match x with
  | .bool true => B ρ
  | .bool false => .ok (.bool false) ρ
  | _ => .no
@[simp] theorem andK_b {B : Env → R D} {b : Bool} {ρ : Env} : andK B (.bool b) ρ = if b = true then B ρ else .ok (.bool false) ρ := by cases b <;> rfl
def orK (B : Env → R D) : D → Env → R D := fun x ρ => match x with
  | .bool true => .ok (.bool true) ρ
  | .bool false => B ρ
  | _ => .no
@[simp] theorem orK_b {B : Env → R D} {b : Bool} {ρ : Env} : orK B (.bool b) ρ = if b = true then .ok (.bool true) ρ else B ρ := by cases b <;> rfl
def notK : D → Env → R D := fun x ρ => match x with
  | .bool b => .ok (.bool (!b)) ρ
  | _ => .no
@[simp] theorem notK_b {b : Bool} {ρ : Env} : notK (.bool b) ρ = .ok (.bool (!b)) ρ := rfl
def asgK (tg : Tg) : D → Env → Fl := fun d ρ => Fl.of (bindT tg d ρ)
@[simp] theorem asgK_v {i : Nat} {d : D} {ρ : Env} : asgK (.v i) d ρ = .nx (ρ.set i (some d)) := rfl
def b1K (f : B1) : D → Env → R D := fun d ρ => R.of (b1 f d) ρ
@[simp] theorem b1K_e {f : B1} {d : D} {ρ : Env} : b1K f d ρ = R.of (b1 f d) ρ := rfl
def b2K' (f : B2) (x : D) : D → Env → R D := fun y ρ => R.of (b2 f x y) ρ
@[simp] theorem b2K'_e {f : B2} {x y : D} {ρ : Env} : b2K' f x y ρ = R.of (b2 f x y) ρ := rfl
def b2K (f : B2) (B : Env → R D) : D → Env → R D := fun x ρ => (B ρ).bind (b2K' f x)
@[simp] theorem b2K_e {f : B2} {B : Env → R D} {x : D} {ρ : Env} : b2K f B x ρ = (B ρ).bind (b2K' f x) := rfl
def tupK : List D → Env → R D := fun ds ρ => if ds.length ≤ LIM then .ok (.tuple ds) ρ else .no
def lstK : List D → Env → R D := fun ds ρ => if ds.length ≤ LIM then .ok (.list ds) ρ else .no
def recK : List D → Env → R D := fun ds ρ => .ok (.tuple ds) ρ
@[simp] theorem tupK_e {ds : List D} {ρ : Env} : tupK ds ρ = if ds.length ≤ LIM then .ok (.tuple ds) ρ else .no := rfl
@[simp] theorem lstK_e {ds : List D} {ρ : Env} : lstK ds ρ = if ds.length ≤ LIM then .ok (.list ds) ρ else .no := rfl
@[simp] theorem recK_e {ds : List D} {ρ : Env} : recK ds ρ = .ok (.tuple ds) ρ := rfl
def consK' (d : D) : List D → Env → R (List D) := fun ds ρ => .ok (d :: ds) ρ
@[simp] theorem consK'_e {d : D} {ds : List D} {ρ : Env} : consK' d ds ρ = .ok (d :: ds) ρ := rfl
def consK (B : Env → R (List D)) : D → Env → R (List D) := fun d ρ => (B ρ).bind (consK' d)
@[simp] theorem consK_e {B : Env → R (List D)} {d : D} {ρ : Env} : consK B d ρ = (B ρ).bind (consK' d) := rfl
def starK' (xs : List D) : List D → Env → R (List D) := fun ds ρ => .ok (xs ++ ds) ρ
@[simp] theorem starK'_e {xs ds : List D} {ρ : Env} : starK' xs ds ρ = .ok (xs ++ ds) ρ := rfl
def starK (B : Env → R (List D)) : D → Env → R (List D) := fun d ρ => match itemsD d with
  | some xs => (B ρ).bind (starK' xs)
  | none => .no
@[simp] theorem starK_l {B : Env → R (List D)} {xs : List D} {ρ : Env} : starK B (.list xs) ρ = (B ρ).bind (starK' xs) := rfl
@[simp] theorem starK_t {B : Env → R (List D)} {xs : List D} {ρ : Env} : starK B (.tuple xs) ρ = (B ρ).bind (starK' xs) := rfl
def valK' (d : Ar) : List Ar → Env → R (List Ar) := fun ds ρ => .ok (d :: ds) ρ
@[simp] theorem valK'_e {d : Ar} {ds : List Ar} {ρ : Env} : valK' d ds ρ = .ok (d :: ds) ρ := rfl
def valK (B : Env → R (List Ar)) : D → Env → R (List Ar) := fun d ρ => (B ρ).bind (valK' (.val d))
@[simp] theorem valK_e {B : Env → R (List Ar)} {d : D} {ρ : Env} : valK B d ρ = (B ρ).bind (valK' (.val d)) := rfl
def callK (f : Fn) : List Ar → Env → R D := fun as ρ => callR f as ρ
@[simp] theorem callK_e {f : Fn} {as : List Ar} {ρ : Env} : callK f as ρ = callR f as ρ := rfl
def exK : D → Env → Fl := fun _ ρ => .nx ρ
@[simp] theorem exK_e {d : D} {ρ : Env} : exK d ρ = .nx ρ := rfl
def parK (is : List Nat) : List D → Env → Fl := fun ds ρ => Fl.of (bindL is ds ρ)
@[simp] theorem parK_e {is : List Nat} {ds : List D} {ρ : Env} : parK is ds ρ = Fl.of (bindL is ds ρ) := rfl
/-! steps -/
@[simp] theorem e_v {i : Nat} : evE Γ (.v i) (a :: as) = R.of (gv (a :: as) i) (a :: as) := rfl
@[simp] theorem e_mv {i : Nat} : evE Γ (.mv i) (a :: as) = mvD i (a :: as) := rfl
@[simp] theorem e_c {d : D} : evE Γ (.c d) (a :: as) = .ok d (a :: as) := rfl
@[simp] theorem e_fld {i j : Nat} {k : Str} : evE Γ (.fld i j k) (a :: as) = R.of (getPl (a :: as) (.f i j k)) (a :: as) := rfl
@[simp] theorem e_b1 {f : B1} {x : E} : evE Γ (.b1 f x) (a :: as) = (evE Γ x (a :: as)).bind (b1K f) := rfl
@[simp] theorem e_b2 {f : B2} {x y : E} : evE Γ (.b2 f x y) (a :: as) = (evE Γ x (a :: as)).bind (b2K f (evE Γ y)) := rfl
@[simp] theorem e_and {x y : E} : evE Γ (.and_ x y) (a :: as) = (evE Γ x (a :: as)).bind (andK (evE Γ y)) := rfl
@[simp] theorem e_or {x y : E} : evE Γ (.or_ x y) (a :: as) = (evE Γ x (a :: as)).bind (orK (evE Γ y)) := rfl
@[simp] theorem e_not {x : E} : evE Γ (.not_ x) (a :: as) = (evE Γ x (a :: as)).bind notK := rfl
@[simp] theorem e_ite {c x y : E} : evE Γ (.ite c x y) (a :: as) = (evE Γ c (a :: as)).bind (iteK (evE Γ x) (evE Γ y)) := rfl
@[simp] theorem e_tup {es : Es} : evE Γ (.tup es) (a :: as) = (evEs Γ es (a :: as)).bind tupK := rfl
@[simp] theorem e_lst {es : Es} : evE Γ (.lst es) (a :: as) = (evEs Γ es (a :: as)).bind lstK := rfl
@[simp] theorem e_rec {ks : List (Str × Bool)} {es : Es} : evE Γ (.rec_ ks es) (a :: as) = (evEs Γ es (a :: as)).bind recK := rfl
@[simp] theorem e_call {f : Nat} {es : As} : evE Γ (.call f es) (a :: as) = (evAs Γ es (a :: as)).bind (callK (Γ f)) := rfl
@[simp] theorem e_lcp {i : Nat} {vs : List Nat} {tg : Tg} {e : E} : evE Γ (.lcp i vs tg e) (a :: as) = lcpD i vs tg (allD (evE Γ e)) (a :: as) := rfl
@[simp] theorem e_dget {i : Nat} {x y : E} : evE Γ (.dget i x y) (a :: as) = dgetD i (evE Γ x) (evE Γ y) (a :: as) := rfl
@[simp] theorem e_dnew : evE Γ .dnew (a :: as) = .ok (.dict []) (a :: as) := rfl
@[simp] theorem e_addO {f : B2} {i : Nat} {x : E} : evE Γ (.addO f i x) (a :: as) = addOD (b2 f) i (evE Γ x) (a :: as) := rfl
@[simp] theorem e_pop {p : Pl} : evE Γ (.pop p) (a :: as) = popD p (a :: as) := rfl
@[simp] theorem es_nil : evEs Γ .nil (a :: as) = .ok [] (a :: as) := rfl
@[simp] theorem es_cons {e : E} {es : Es} : evEs Γ (.cons e es) (a :: as) = (evE Γ e (a :: as)).bind (consK (evEs Γ es)) := rfl
@[simp] theorem es_star {e : E} {es : Es} : evEs Γ (.star e es) (a :: as) = (evE Γ e (a :: as)).bind (starK (evEs Γ es)) := rfl
@[simp] theorem as_nil : evAs Γ .nil (a :: as) = .ok [] (a :: as) := rfl
@[simp] theorem as_val {e : E} {es : As} : evAs Γ (.val e es) (a :: as) = (evE Γ e (a :: as)).bind (valK (evAs Γ es)) := rfl
theorem as_io {i : Nat} {es : As} {d : D} (h : gv (a :: as) i = some d) : evAs Γ (.io i es) (a :: as) = (evAs Γ es (a :: as)).bind (valK' (.io i)) := by
  show (match gv (a :: as) i with
    | some _ => (evAs Γ es (a :: as)).bind fun ds ρ => .ok (Ar.io i :: ds) ρ
    | none => .no) = _
  rw [h]; rfl
theorem as_pk {i : Nat} {es : As} {d : D} (h : gv (a :: as) i = some d) : evAs Γ (.pk i es) (a :: as) = (evAs Γ es (a :: as)).bind (valK' (.pk i)) := by
  show (match gv (a :: as) i with
    | some _ => (evAs Γ es (a :: as)).bind fun ds ρ => .ok (Ar.pk i :: ds) ρ
    | none => .no) = _
  rw [h]; rfl
@[simp] theorem as_io0 {es : As} : evAs Γ (.io 0 es) (some d :: as) = (evAs Γ es (some d :: as)).bind (valK' (.io 0)) := rfl
@[simp] theorem as_io1 {es : As} : evAs Γ (.io 1 es) (a :: some d :: as) = (evAs Γ es (a :: some d :: as)).bind (valK' (.io 1)) := rfl
@[simp] theorem as_pk0 {es : As} : evAs Γ (.pk 0 es) (some d :: as) = (evAs Γ es (some d :: as)).bind (valK' (.pk 0)) := rfl
@[simp] theorem s_asg {tg : Tg} {e : E} : exS Γ (.asg tg e) (a :: as) = (evE Γ e (a :: as)).fl (asgK tg) := rfl
@[simp] theorem s_par {is : List Nat} {es : Es} : exS Γ (.par is es) (a :: as) = (evEs Γ es (a :: as)).fl (parK is) := rfl
@[simp] theorem s_ifs {c : E} {x y : Ss} : exS Γ (.ifs c x y) (a :: as) = (evE Γ c (a :: as)).fl (ifK (exSs Γ x) (exSs Γ y)) := rfl
@[simp] theorem s_ret {e : E} : exS Γ (.ret e) (a :: as) = (evE Γ e (a :: as)).fl .ret := rfl
@[simp] theorem s_retN : exS Γ .retN (a :: as) = .ret .none (a :: as) := rfl
@[simp] theorem s_ex {e : E} : exS Γ (.ex e) (a :: as) = (evE Γ e (a :: as)).fl exK := rfl
@[simp] theorem s_app {p : Pl} {e : E} : exS Γ (.app p e) (a :: as) = appD p (evE Γ e) (a :: as) := rfl
@[simp] theorem s_ext {p : Pl} {e : E} : exS Γ (.ext p e) (a :: as) = extD p (evE Γ e) (a :: as) := rfl
@[simp] theorem s_setF {i j : Nat} {k : Str} {e : E} : exS Γ (.setF i j k e) (a :: as) = setFD i j (evE Γ e) (a :: as) := rfl
@[simp] theorem s_dset {i : Nat} {x e : E} : exS Γ (.dset i x e) (a :: as) = dsetD i (evE Γ x) (evE Γ e) (a :: as) := rfl
@[simp] theorem s_pass : exS Γ .pass (a :: as) = .nx (a :: as) := rfl
@[simp] theorem s_brk : exS Γ .brk (a :: as) = .brk (a :: as) := rfl
@[simp] theorem s_ct : exS Γ .ct (a :: as) = .ct (a :: as) := rfl
@[simp] theorem s_stop : exS Γ .stop (a :: as) = .no := rfl
@[simp] theorem ss_nil : exSs Γ .nil (a :: as) = .nx (a :: as) := rfl
@[simp] theorem ss_cons {s : S} {ss : Ss} : exSs Γ (.cons s ss) (a :: as) = (exS Γ s (a :: as)).thn (exSs Γ ss) := rfl
/-! operations -/
@[simp] theorem o_neg {i : Int} : b1 .neg (.int i) = some (.int (-i)) := rfl
@[simp] theorem o_lenL {ds : List D} : b1 .len (.list ds) = some (.int ds.length) := rfl
@[simp] theorem o_lenT {ds : List D} : b1 .len (.tuple ds) = some (.int ds.length) := rfl
@[simp] theorem o_abs {i : Int} : b1 .abs (.int i) = some (.int (if i < 0 then -i else i)) := rfl
@[simp] theorem o_int {i : Int} : b1 .int (.int i) = some (.int i) := rfl
@[simp] theorem o_intB {b : Bool} : b1 .int (.bool b) = some (.int (if b then 1 else 0)) := rfl
@[simp] theorem o_tupL {ds : List D} : b1 .tup (.list ds) = some (.tuple ds) := rfl
@[simp] theorem o_lstT {ds : List D} : b1 .lst (.tuple ds) = some (.list ds) := rfl
@[simp] theorem o_addI {i j : Int} : b2 .add (.int i) (.int j) = some (.int (i + j)) := rfl
@[simp] theorem o_subI {i j : Int} : b2 .sub (.int i) (.int j) = some (.int (i - j)) := rfl
@[simp] theorem o_lt {i j : Int} : b2 .lt (.int i) (.int j) = some (.bool (decide (i < j))) := rfl
@[simp] theorem o_le {i j : Int} : b2 .le (.int i) (.int j) = some (.bool (decide (i ≤ j))) := rfl
@[simp] theorem o_gt {i j : Int} : b2 .gt (.int i) (.int j) = some (.bool (decide (j < i))) := rfl
@[simp] theorem o_ge {i j : Int} : b2 .ge (.int i) (.int j) = some (.bool (decide (j ≤ i))) := rfl
@[simp] theorem o_idxL {ds : List D} {i : Int} : b2 .idx (.list ds) (.int i) = atD ds i := rfl
@[simp] theorem o_idxT {ds : List D} {i : Int} : b2 .idx (.tuple ds) (.int i) = atD ds i := rfl
@[simp] theorem o_eq {x y : D} : b2 .eq x y = (eqD x y).map .bool := rfl
@[simp] theorem o_ne {x y : D} : b2 .ne x y = (eqD x y).map fun r => .bool (!r) := rfl
theorem o_mulI {i j : Int} (h : mulOk i j = true) : b2 .mul (.int i) (.int j) = some (.int (i * j)) := if_pos h
theorem o_fdiv {i j : Int} (h : 0 < j) (h2 : j < 1073741824) : b2 .fdiv (.int i) (.int j) = some (.int (i / j)) := if_pos (by rw [decide_eq_true h, decide_eq_true h2]; rfl)
theorem o_mod {i j : Int} (h : 0 < j) : b2 .mod (.int i) (.int j) = some (.int (i % j)) := if_pos h
end
end TV

/-! V27: pure data: ints, texts, None, lists and tuples of such; equality. -/
namespace TV
open PySem
mutual
/-- ints, texts, None, lists, tuples -/
def pd : D → Bool
  | .none => true
  | .int _ => true
  | .str x => PyData.strOk x
  | .list xs => pds xs
  | .tuple xs => pds xs
  | _ => false
def pds : List D → Bool
  | [] => true
  | x :: xs => pd x && pds xs
end
mutual
theorem pd_lay : ∀ {d : D}, pd d = true → d.canLay0 = true
  | .none, _ => by simp [PyData.canLay0]
  | .int _, _ => by simp [PyData.canLay0]
  | .str x, h => by simpa [PyData.canLay0, pd] using h
  | .list xs, h => by simp only [pd] at h; simp only [PyData.canLay0]; exact pds_lay h
  | .tuple xs, h => by simp only [pd] at h; simp only [PyData.canLay0]; exact pds_lay h
  | .bool _, h => by simp [pd] at h
  | .dict _, h => by simp [pd] at h
theorem pds_lay : ∀ {ds : List D}, pds ds = true → PyData.canLayAll0 ds = true
  | [], _ => by simp [PyData.canLayAll0]
  | x :: xs, h => by
    simp only [pds, Bool.and_eq_true] at h
    simp only [PyData.canLayAll0, Bool.and_eq_true]
    exact ⟨pd_lay h.1, pds_lay h.2⟩
end
mutual
theorem eqv_iff : ∀ {a b : D}, pd a = true → pd b = true → (PyData.eqv a b = true ↔ a = b)
  | .none, b, _, hb => by cases b <;> simp_all [PyData.eqv, pd]
  | .int i, b, _, hb => by cases b <;> simp_all [PyData.eqv, pd]
  | .str x, b, _, hb => by cases b <;> simp_all [PyData.eqv, pd]
  | .list xs, b, ha, hb => by
    cases b with
    | list ys =>
      simp only [pd] at ha hb
      simp only [PyData.eqv, PyData.list.injEq]
      exact eqvs_iff ha hb
    | _ => simp_all [PyData.eqv, pd]
  | .tuple xs, b, ha, hb => by
    cases b with
    | tuple ys =>
      simp only [pd] at ha hb
      simp only [PyData.eqv, PyData.tuple.injEq]
      exact eqvs_iff ha hb
    | _ => simp_all [PyData.eqv, pd]
  | .bool _, _, h, _ => by simp [pd] at h
  | .dict _, _, h, _ => by simp [pd] at h
theorem eqvs_iff : ∀ {as bs : List D}, pds as = true → pds bs = true → (PyData.eqvAll as bs = true ↔ as = bs)
  | [], [], _, _ => by simp [PyData.eqvAll]
  | [], _ :: _, _, _ => by simp [PyData.eqvAll]
  | _ :: _, [], _, _ => by simp [PyData.eqvAll]
  | a :: as, b :: bs, ha, hb => by
    simp only [pds, Bool.and_eq_true] at ha hb
    simp only [PyData.eqvAll, Bool.and_eq_true, List.cons.injEq]
    exact and_congr (eqv_iff ha.1 hb.1) (eqvs_iff ha.2 hb.2)
end
/-- .. so that == tells whether they are the same -/
theorem eqD_pd {a b : D} (ha : pd a = true) (hb : pd b = true) (da : a.depth ≤ 64) (db : b.depth ≤ 64) : ∃ r, eqD a b = some r ∧ (r = true ↔ a = b) := by
  refine ⟨PyData.eqv a b, ?_, eqv_iff ha hb⟩
  unfold eqD shaped SeqAt.shaped
  rw [pd_lay ha, pd_lay hb, decide_eq_true da, decide_eq_true db]
  rfl
theorem eqD_yes {a b : D} (ha : pd a = true) (da : a.depth ≤ 64) (e : a = b) : eqD a b = some true := by
  subst e
  obtain ⟨r, h1, h2⟩ := eqD_pd ha ha da da
  rw [h1, h2.mpr rfl]
theorem eqD_no {a b : D} (ha : pd a = true) (hb : pd b = true) (da : a.depth ≤ 64) (db : b.depth ≤ 64) (e : a ≠ b) : eqD a b = some false := by
  obtain ⟨r, h1, h2⟩ := eqD_pd ha hb da db
  cases r with
  | true => exact absurd (h2.mp rfl) e
  | false => exact h1
end TV

/-! V28: loops by invariants. -/
namespace TV
open PySem
theorem forF_inv {body : D → Env → Fl} (I : List D → Env → Prop) (step : ∀ d ds ρ, I (d :: ds) ρ → ∃ ρ', (body d ρ = .nx ρ' ∨ body d ρ = .ct ρ') ∧ I ds ρ') : ∀ ds ρ, I ds ρ → ∃ ρ', forF body ds ρ = .nx ρ' ∧ I [] ρ'
  | [], ρ, h => ⟨ρ, rfl, h⟩
  | d :: ds, ρ, h => by
    obtain ⟨ρ1, h1, h2⟩ := step d ds ρ h
    obtain ⟨ρ2, h3, h4⟩ := forF_inv I step ds ρ1 h2
    refine ⟨ρ2, ?_, h4⟩
    rcases h1 with h1 | h1 <;> simp [forF, h1, h3]
/-- a loop that may end by a return: all turns go on, or the first that does not returns -/
theorem forF_ret {body : D → Env → Fl} (I : List D → Env → Prop) (Rt : D → Env → Prop) (step : ∀ d ds ρ, I (d :: ds) ρ → (∃ ρ', (body d ρ = .nx ρ' ∨ body d ρ = .ct ρ') ∧ I ds ρ') ∨ ∃ v ρ', body d ρ = .ret v ρ' ∧ Rt v ρ') :
    ∀ ds ρ, I ds ρ → (∃ ρ', forF body ds ρ = .nx ρ' ∧ I [] ρ') ∨ ∃ v ρ', forF body ds ρ = .ret v ρ' ∧ Rt v ρ'
  | [], ρ, h => .inl ⟨ρ, rfl, h⟩
  | d :: ds, ρ, h => by
    rcases step d ds ρ h with ⟨ρ1, h1, h2⟩ | ⟨v, ρ1, h1, h2⟩
    · rcases forF_ret I Rt step ds ρ1 h2 with ⟨ρ2, h3, h4⟩ | ⟨v, ρ2, h3, h4⟩
      · exact .inl ⟨ρ2, by rcases h1 with h1 | h1 <;> simp [forF, h1, h3], h4⟩
      · exact .inr ⟨v, ρ2, by rcases h1 with h1 | h1 <;> simp [forF, h1, h3], h4⟩
    · exact .inr ⟨v, ρ1, by simp [forF, h1], h2⟩
/-- a comprehension's turns: an invariant, and what each turn gives -/
theorem lcF_inv {body : D → Env → R (Option D)} (I : Env → Prop) (Q : D → Option D → Prop) : ∀ ds ρ, (∀ d ∈ ds, ∀ ρ, I ρ → ∃ o ρ', body d ρ = .ok o ρ' ∧ I ρ' ∧ Q d o) → I ρ →
    ∃ os ρ', lcF body ds ρ = .ok (os.filterMap id) ρ' ∧ I ρ' ∧ os.length = ds.length ∧ ∀ p ∈ ds.zip os, Q p.1 p.2
  | [], ρ, _, h => ⟨[], ρ, rfl, h, rfl, fun _ hp => by cases hp⟩
  | d :: ds, ρ, step, h => by
    obtain ⟨o, ρ1, h1, h2, h3⟩ := step d List.mem_cons_self ρ h
    obtain ⟨os, ρ2, h4, h5, h6, h7⟩ := lcF_inv I Q ds ρ1 (fun d hd => step d (List.mem_cons_of_mem _ hd)) h2
    refine ⟨o :: os, ρ2, ?_, h5, by simp [h6], fun p hp => ?_⟩
    · simp only [lcF, h1, R.bind_ok, h4]
      cases o <;> rfl
    · rw [List.zip_cons_cons] at hp
      rcases List.mem_cons.mp hp with e | hp
      · subst e; exact h3
      · exact h7 p hp
/-- .. where each turn gives a value that hangs on the item alone, the environment kept -/
theorem lcF_map {body : D → Env → R (Option D)} {f : D → D} {ρ : Env} : ∀ ds, (∀ d ∈ ds, body d ρ = .ok (some (f d)) ρ) → lcF body ds ρ = .ok (ds.map f) ρ
  | [], _ => rfl
  | d :: ds, h => by
    have ih := lcF_map (f := f) ds fun x hx => h x (List.mem_cons_of_mem _ hx)
    simp only [lcF, h d List.mem_cons_self, R.bind_ok, ih, List.map_cons]
section
variable {Γ : Nat → Fn} {a : Option D} {as : Env} {d : D}
def seqK : D → Env → R (List D) := fun d ρ => R.of (itemsD d) ρ
@[simp] theorem seqK_l {ds : List D} {ρ : Env} : seqK (.list ds) ρ = .ok ds ρ := rfl
@[simp] theorem seqK_t {ds : List D} {ρ : Env} : seqK (.tuple ds) ρ = .ok ds ρ := rfl
@[simp] theorem w_seq {e : E} : evW Γ (.seq e) (a :: as) = (evE Γ e (a :: as)).bind seqK := rfl
def enumK : D → Env → R (List D) := fun d ρ => R.of ((itemsD d).map enumD) ρ
@[simp] theorem enumK_l {ds : List D} {ρ : Env} : enumK (.list ds) ρ = .ok (enumD ds) ρ := rfl
@[simp] theorem enumK_t {ds : List D} {ρ : Env} : enumK (.tuple ds) ρ = .ok (enumD ds) ρ := rfl
@[simp] theorem w_enum {e : E} : evW Γ (.enum e) (a :: as) = (evE Γ e (a :: as)).bind enumK := rfl
def rng1K : D → Env → R (List D) := fun d ρ => match d with
  | .int n => if n ≤ LIM && decide (-LIM ≤ n) then .ok (rngD 0 n) ρ else .no
  | _ => .no
theorem rng1K_i {n : Int} {ρ : Env} (h : n ≤ LIM) (h2 : -LIM ≤ n) : rng1K (.int n) ρ = .ok (rngD 0 n) ρ := if_pos (by rw [decide_eq_true h, decide_eq_true h2]; rfl)
@[simp] theorem w_rng1 {e : E} : evW Γ (.rng1 e) (a :: as) = (evE Γ e (a :: as)).bind rng1K := rfl
def zipK' (x : D) : D → Env → R (List D) := fun y ρ => match x, y with
  | .list as, .list bs => .ok (zipD as bs) ρ
  | .tuple as, .tuple bs => .ok (zipD as bs) ρ
  | _, _ => .no
@[simp] theorem zipK'_l {xs ys : List D} {ρ : Env} : zipK' (.list xs) (.list ys) ρ = .ok (zipD xs ys) ρ := rfl
@[simp] theorem zipK'_t {xs ys : List D} {ρ : Env} : zipK' (.tuple xs) (.tuple ys) ρ = .ok (zipD xs ys) ρ := rfl
def zipK (B : Env → R D) : D → Env → R (List D) := fun x ρ => (B ρ).bind (zipK' x)
@[simp] theorem zipK_e {B : Env → R D} {x : D} {ρ : Env} : zipK B x ρ = (B ρ).bind (zipK' x) := rfl
@[simp] theorem w_zip {e f : E} : evW Γ (.zip e f) (a :: as) = (evE Γ e (a :: as)).bind (zipK (evE Γ f)) := rfl
def forK (tg : Tg) (b : Env → Fl) : List D → Env → Fl := fun ds ρ => forF (forT tg b) ds ρ
@[simp] theorem s_for {w : W} {tg : Tg} {b : Ss} : exS Γ (.for_ w tg b) (a :: as) = (evW Γ w (a :: as)).fl (forK tg (exSs Γ b)) := rfl
@[simp] theorem forK_e {tg : Tg} {b : Env → Fl} {ds : List D} {ρ : Env} : forK tg b ds ρ = forF (forT tg b) ds ρ := rfl
@[simp] theorem forT_v {i : Nat} {b : Env → Fl} {d : D} {ρ : Env} : forT (.v i) b d ρ = b (ρ.set i (some d)) := rfl
@[simp] theorem e_lc {vs : List Nat} {w : W} {tg : Tg} {e : E} : evE Γ (.lc vs w tg e) (a :: as) = lcD vs tg (evW Γ w) (allD (evE Γ e)) (a :: as) := rfl
@[simp] theorem e_lci {vs : List Nat} {w : W} {tg : Tg} {c e : E} : evE Γ (.lci vs w tg c e) (a :: as) = lcD vs tg (evW Γ w) (ifD (evE Γ c) (evE Γ e)) (a :: as) := rfl
@[simp] theorem o_slUL' {ds : List D} {i : Int} : b2 .slU (.list ds) (.int i) = some (.list (TV.cutD ds none (some i))) := rfl
@[simp] theorem o_slUT' {ds : List D} {i : Int} : b2 .slU (.tuple ds) (.int i) = some (.tuple (TV.cutD ds none (some i))) := rfl
theorem cut_n {ds : List D} {n : Nat} : TV.cutD ds none (some (n : Int)) = ds.take n := by
  unfold TV.cutD
  rw [HT.sIx_nat, HT.sIx_none, List.drop_zero, Nat.sub_zero]
  rcases Nat.le_total n ds.length with h | h
  · rw [Nat.min_eq_left h]
  · rw [Nat.min_eq_right h, List.take_of_length_le (Nat.le_refl _), List.take_of_length_le h]
theorem o_zipL {x y : D} : b2 .zipL x y = zipLD x y := by cases x <;> cases y <;> rfl
theorem o_mulL {xs : List D} {k : Int} (h0 : 0 ≤ k) (h1 : k ≤ LIM) (h2 : xs.length * k.toNat ≤ LIM) : b2 .mulL (.list xs) (.int k) = some (.list (List.replicate k.toNat xs).flatten) := by
  simp only [b2, decide_eq_true h0, decide_eq_true h1, decide_eq_true h2, Bool.and_self, if_true]
theorem o_addL {xs ys : List D} (h : xs.length + ys.length ≤ LIM) : b2 .addL (.list xs) (.list ys) = some (.list (xs ++ ys)) := if_pos h
theorem o_addS {xs ys : List D} (h : xs.length + ys.length ≤ LIM) : b2 .add (.list xs) (.list ys) = some (.list (xs ++ ys)) := if_pos h
theorem o_addT {xs ys : List D} (h : xs.length + ys.length ≤ LIM) : b2 .add (.tuple xs) (.tuple ys) = some (.tuple (xs ++ ys)) := if_pos h
end
end TV

/-! V29: keywords' binding of a def without defaults. -/
namespace TV
open PySem PySem.Spec PyProof.Rows L2
theorem kbd_of {K : PySem.W.Frag} {x qual : Str} {params : Arguments} {body : List Stmt} {scope : Scope} {kws : List (Str × V)} {f : Addr} {fd : FuncData} {pn : List Str} {kp : KPat} (F : FunD K x qual params body scope [] kws f fd)
    (h : ∀ (kV doc pm : Value) (an : Option Addr) (cdv ct : Value) (us ws : List Value), us.length = kp.n → ws.length = kp.ks.length → bindArgs (PySem.W.fnOf x qual params body scope .none kV doc pm an cdv ct) ⟨us, kp.ks.zip ws⟩ = pure (pn.zip (kp.perm.map fun j => (us ++ ws).getD j .none))) : KBd K fd pn kp := fun s us ws _ h1 h2 => by
  obtain ⟨oc, od, dV, kV, doc, pm, an, cdv, ct, osl, rfl, lk, hcd, hD, hK⟩ := F.ex
  rcases hD with ⟨_, rfl⟩ | ⟨e, _⟩
  · exact .of_eq (h kV doc pm an cdv ct us ws h1 h2)
  · exact absurd rfl e
theorem kb_nil {K : PySem.W.Frag} {fd : FuncData} {pn : List Str} : ∀ kp ∈ ([] : List KPat), KBd K fd pn kp := fun _ h => by cases h
theorem kb_cons {K : PySem.W.Frag} {fd : FuncData} {pn : List Str} {kp : KPat} {ks : List KPat} (h : KBd K fd pn kp) (t : ∀ kp ∈ ks, KBd K fd pn kp) : ∀ k ∈ kp :: ks, KBd K fd pn k := fun k hk => by
  rcases List.mem_cons.mp hk with e | hk
  · exact e ▸ h
  · exact t k hk
theorem all_nil {α : Type} {p : α → Prop} : ∀ x ∈ ([] : List α), p x := fun _ h => by cases h
theorem all_cons {α : Type} {p : α → Prop} {x : α} {xs : List α} (h : p x) (t : ∀ y ∈ xs, p y) : ∀ y ∈ x :: xs, p y := fun y hy => by
  rcases List.mem_cons.mp hy with e | hy
  · exact e ▸ h
  · exact t y hy
section
variable {P : Program} {w : World} {K : PySem.W.Frag} {mg : Str → Option Value} {base : Heap} {EX : D → Value → Option Addr → Hp → Hp → Prop} {l : List Df} {Bn : List BN}
theorem law_fn2 {i : Nat} {d : Df} {fa : Addr} {fd : FuncData} (h : ∀ d ∈ l, ∃ f fd, DfOk K mg l Bn d f fd) (free : ∀ b ∈ Bn, Fr mg b) (hd : l[i]? = some d) (q : DfOk K mg l Bn d fa fd) (k : Nat) :
    FnG P w K mg base (L2.CX P w) (k + 1) fa fd d.pn (spOf K EX ⟨d.nm, d.ps, d.ret, Gam l (k + 1) i⟩) := by
  obtain ⟨⟨name, qual, params, stmts, scope, dvs, kws, F, ok⟩, hm, hb, kb⟩ := q
  have e : Gam l (k + 1) i = d.sem (Gam l k) := by simp only [Gam, hd]
  rw [e]
  exact fnG_of F ok free (tower h free k)
end
end TV

namespace Tx
open PySem PySem.Spec PyProof.Rows L2 TV
def top (i : Nat) : Stmt := PySem.Challenge.pw_tornreads_k75_readers_by_names_and_again.main.body.getD i (.Pass ⟨0, 0, 0, 0⟩)
def f_is_integer : Df := ⟨"is_integer", ["value"], [.s], .s, ["value"], [.s], [], .cons (.ret (.and_ (.b1 .isInt (.v 0)) (.not_ (.b1 .isBool (.v 0))))) (.nil)⟩
abbrev i_is_integer : Nat := 0
def f_is_sign : Df := ⟨"is_sign", ["value"], [.s], .s, ["value"], [.s], [], .cons (.ret (.and_ (.call 0 (.val (.v 0) (.nil))) (.ch .le .le (.c (.int 0)) (.v 0) (.gc "MAX_SIGN" (.int 199))))) (.nil)⟩
abbrev i_is_sign : Nat := 1
def e0_is_sign_row : TV.E := .call 1 (.val (.v 1) (.nil))
def f_is_sign_row : Df := ⟨"is_sign_row", ["value"], [.s], .s, ["value", "item"], [.s, .s], [], .cons (.ret (.and_ (.b1 .isTup (.v 0)) (.b1 .all_ (.lc [1] (.seq (.v 0)) (.v 1) e0_is_sign_row)))) (.nil)⟩
abbrev i_is_sign_row : Nat := 2
def f_is_value : Df := ⟨"is_value", ["value"], [.s], .s, ["value"], [.s], [], .cons (.ret (.and_ (.call 0 (.val (.v 0) (.nil))) (.b2 .le (.b1 .abs (.v 0)) (.gc "MAX_VALUE" (.int 1000000000000))))) (.nil)⟩
abbrev i_is_value : Nat := 3
def e0_is_cell_lot : TV.E := .b2 .lt (.v 3) (.v 4)
def e1_is_cell_lot : TV.E := .and_ (.call 0 (.val (.v 2) (.nil))) (.ch .le .lt (.c (.int 0)) (.v 2) (.v 0))
def f_is_cell_lot : Df := ⟨"is_cell_lot", ["many", "value"], [.s, .s], .s, ["many", "value", "item", "one", "other"], [.s, .s, .s, .s, .s], [], .cons (.ifs (.or_ (.not_ (.b1 .isTup (.v 1))) (.b2 .eq (.v 1) (.tup (.nil)))) (.cons (.ret (.c (.bool false))) (.nil)) (.nil)) (.cons (.ifs (.not_ (.b1 .all_ (.lc [2] (.seq (.v 1)) (.v 2) e1_is_cell_lot))) (.cons (.ret (.c (.bool false))) (.nil)) (.nil)) (.cons (.ret (.b1 .all_ (.lc [3, 4] (.zip (.v 1) (.b2 .slL (.v 1) (.c (.int 1)))) (.t (.cons (.v 3) (.cons (.v 4) (.nil)))) e0_is_cell_lot))) (.nil)))⟩
abbrev i_is_cell_lot : Nat := 4
def f_cells_of : Df := ⟨"cells_of", ["table"], [.s], .s, ["table"], [.s], [], .cons (.ret (.b1 .len (.b2 .idx (.b2 .idx (.v 0) (.c (.int 0))) (.c (.int 0))))) (.nil)⟩
abbrev i_cells_of : Nat := 5
def e0_seen : TV.E := .b2 .idx (.v 3) (.v 4)
def f_seen : Df := ⟨"seen", ["table", "lot", "state"], [.s, .s, .s], .s, ["table", "lot", "state", "word", "cell"], [.s, .s, .s, .s, .s], [], .cons (.asg (.v 3) (.b2 .idx (.b2 .idx (.v 0) (.c (.int 0))) (.v 2))) (.cons (.ret (.b1 .tup (.lc [4] (.seq (.v 1)) (.v 4) e0_seen))) (.nil))⟩
abbrev i_seen : Nat := 6
def b0_led_to : TV.Ss := .cons (.whl 1000000 (.and_ (.b2 .lt (.v 5) (.b1 .len (.v 1))) (.b2 .le (.b2 .idx (.v 1) (.v 5)) (.v 3))) (.cons (.asg (.v 5) (.b2 .add (.v 5) (.c (.int 1)))) (.nil))) (.cons (.ifs (.and_ (.b2 .gt (.v 5) (.c (.int 0))) (.or_ (.b2 .is_ (.v 0) (.c .none)) (.b2 .le (.b2 .sub (.v 3) (.b2 .idx (.v 1) (.b2 .sub (.v 5) (.c (.int 1))))) (.v 0)))) (.cons (.app (.v 4) (.v 3)) (.nil)) (.nil)) (.nil))
def f_led_to : Df := ⟨"led_to", ["speed", "ahead", "states"], [.s, .s, .s], .s, ["speed", "ahead", "states", "state", "found", "spot"], [.s, .s, .s, .s, .l .s, .s], [], .cons (.par [4, 5] (.cons (.lst (.nil)) (.cons (.c (.int 0)) (.nil)))) (.cons (.for_ (.seq (.v 2)) (.v 3) b0_led_to) (.cons (.ret (.mv 4)) (.nil)))⟩
abbrev i_led_to : Nat := 7
def b0_leading_to : TV.Ss := .cons (.whl 1000000 (.and_ (.b2 .lt (.v 5) (.b1 .len (.v 2))) (.b2 .lt (.b2 .idx (.v 2) (.v 5)) (.v 3))) (.cons (.asg (.v 5) (.b2 .add (.v 5) (.c (.int 1)))) (.nil))) (.cons (.ifs (.and_ (.b2 .lt (.v 5) (.b1 .len (.v 2))) (.or_ (.b2 .is_ (.v 0) (.c .none)) (.b2 .le (.b2 .sub (.b2 .idx (.v 2) (.v 5)) (.v 3)) (.v 0)))) (.cons (.app (.v 4) (.v 3)) (.nil)) (.nil)) (.nil))
def f_leading_to : Df := ⟨"leading_to", ["speed", "states", "later"], [.s, .s, .s], .s, ["speed", "states", "later", "state", "found", "spot"], [.s, .s, .s, .s, .l .s, .s], [], .cons (.par [4, 5] (.cons (.lst (.nil)) (.cons (.c (.int 0)) (.nil)))) (.cons (.for_ (.seq (.v 1)) (.v 3) b0_leading_to) (.cons (.ret (.mv 4)) (.nil)))⟩
abbrev i_leading_to : Nat := 8
def c0_come_to : TV.E := .b2 .eq (.call 6 (.val (.v 0) (.val (.v 5) (.val (.v 8) (.nil))))) (.v 6)
def e0_come_to : TV.E := .v 8
def b0_come_to : TV.Ss := .cons (.asg (.v 7) (.lci [8] (.rng1 (.b1 .len (.b2 .idx (.v 0) (.c (.int 0))))) (.v 8) c0_come_to e0_come_to)) (.cons (.ifs (.b2 .ne (.v 4) (.lst (.nil))) (.cons (.asg (.v 7) (.call 7 (.val (.v 1) (.val (.b2 .idx (.v 4) (.b1 .neg (.c (.int 1)))) (.val (.v 7) (.nil)))))) (.nil)) (.nil)) (.cons (.app (.v 4) (.v 7)) (.cons (.ifs (.b2 .eq (.v 7) (.lst (.nil))) (.cons (.ret (.mv 4)) (.nil)) (.nil)) (.nil))))
def f_come_to : Df := ⟨"come_to", ["table", "speed", "looks", "word"], [.s, .s, .s, .s], .s, ["table", "speed", "looks", "word", "found", "lot", "sight", "states", "state"], [.s, .s, .s, .s, .l .s, .s, .s, .s, .s], [], .cons (.asg (.v 4) (.lst (.nil))) (.cons (.for_ (.zip (.v 2) (.v 3)) (.t (.cons (.v 5) (.cons (.v 6) (.nil)))) b0_come_to) (.cons (.ret (.mv 4)) (.nil)))⟩
abbrev i_come_to : Nat := 9
def b0_lived_through : TV.Ss := .cons (.app (.v 5) (.call 8 (.val (.v 1) (.val (.v 6) (.val (.b2 .idx (.v 5) (.b1 .neg (.c (.int 1)))) (.nil)))))) (.nil)
def f_lived_through : Df := ⟨"lived_through", ["table", "speed", "looks", "word"], [.s, .s, .s, .s], .s, ["table", "speed", "looks", "word", "found", "kept", "states"], [.s, .s, .s, .s, .s, .l .s, .s], [], .cons (.asg (.v 4) (.call 9 (.val (.v 0) (.val (.v 1) (.val (.v 2) (.val (.v 3) (.nil))))))) (.cons (.ifs (.b2 .eq (.b2 .idx (.v 4) (.b1 .neg (.c (.int 1)))) (.lst (.nil))) (.cons (.stop) (.nil)) (.nil)) (.cons (.asg (.v 5) (.lst (.cons (.b2 .idx (.v 4) (.b1 .neg (.c (.int 1)))) (.nil)))) (.cons (.for_ (.seq (.b1 .rv2 (.v 4))) (.v 6) b0_lived_through) (.cons (.ret (.b1 .rev (.v 5))) (.nil)))))⟩
abbrev i_lived_through : Nat := 10
def f_is_read : Df := ⟨"is_read", ["table", "speed", "looks", "word"], [.s, .s, .s, .s], .s, ["table", "speed", "looks", "word"], [.s, .s, .s, .s], [], .cons (.ret (.b2 .ne (.b2 .idx (.call 9 (.val (.v 0) (.val (.v 1) (.val (.v 2) (.val (.v 3) (.nil)))))) (.b1 .neg (.c (.int 1)))) (.lst (.nil)))) (.nil)⟩
abbrev i_is_read : Nat := 11
def e0_least_states : TV.E := .b2 .idx (.v 4) (.c (.int 0))
def f_least_states : Df := ⟨"least_states", ["table", "speed", "looks", "word"], [.s, .s, .s, .s], .s, ["table", "speed", "looks", "word", "states"], [.s, .s, .s, .s, .s], [], .cons (.ifs (.not_ (.call 11 (.val (.v 0) (.val (.v 1) (.val (.v 2) (.val (.v 3) (.nil))))))) (.cons (.ret (.c .none)) (.nil)) (.nil)) (.cons (.ret (.b1 .tup (.lc [4] (.seq (.call 10 (.val (.v 0) (.val (.v 1) (.val (.v 2) (.val (.v 3) (.nil))))))) (.v 4) e0_least_states))) (.nil))⟩
abbrev i_least_states : Nat := 12
def e0_greatest_states : TV.E := .b2 .idx (.v 4) (.b1 .neg (.c (.int 1)))
def f_greatest_states : Df := ⟨"greatest_states", ["table", "speed", "looks", "word"], [.s, .s, .s, .s], .s, ["table", "speed", "looks", "word", "states"], [.s, .s, .s, .s, .s], [], .cons (.ifs (.not_ (.call 11 (.val (.v 0) (.val (.v 1) (.val (.v 2) (.val (.v 3) (.nil))))))) (.cons (.ret (.c .none)) (.nil)) (.nil)) (.cons (.ret (.b1 .tup (.lc [4] (.seq (.call 10 (.val (.v 0) (.val (.v 1) (.val (.v 2) (.val (.v 3) (.nil))))))) (.v 4) e0_greatest_states))) (.nil))⟩
abbrev i_greatest_states : Nat := 13
def f_sure_states : Df := ⟨"sure_states", ["table", "speed", "looks", "word"], [.s, .s, .s, .s], .s, ["table", "speed", "looks", "word", "kept"], [.s, .s, .s, .s, .s], [], .cons (.asg (.v 4) (.call 10 (.val (.v 0) (.val (.v 1) (.val (.v 2) (.val (.v 3) (.nil))))))) (.cons (.ret (.tup (.cons (.b2 .idx (.b2 .idx (.v 4) (.c (.int 0))) (.b1 .neg (.c (.int 1)))) (.cons (.b2 .idx (.b2 .idx (.v 4) (.b1 .neg (.c (.int 1)))) (.c (.int 0))) (.nil))))) (.nil))⟩
abbrev i_sure_states : Nat := 14
def f_sure_values : Df := ⟨"sure_values", ["table", "speed", "looks", "word"], [.s, .s, .s, .s], .s, ["table", "speed", "looks", "word", "begin", "end"], [.s, .s, .s, .s, .s, .s], [], .cons (.asg (.t (.cons (.v 4) (.cons (.v 5) (.nil)))) (.call 14 (.val (.v 0) (.val (.v 1) (.val (.v 2) (.val (.v 3) (.nil))))))) (.cons (.ret (.tup (.cons (.b2 .idx (.b2 .idx (.v 0) (.c (.int 1))) (.v 4)) (.cons (.b2 .idx (.b2 .idx (.v 0) (.c (.int 1))) (.v 5)) (.nil))))) (.nil))⟩
abbrev i_sure_values : Nat := 15
def f_is_pair : Df := ⟨"is_pair", ["value"], [.s], .s, ["value"], [.s], [], .cons (.ret (.and_ (.b1 .isTup (.v 0)) (.b2 .eq (.b1 .len (.v 0)) (.c (.int 2))))) (.nil)⟩
abbrev i_is_pair : Nat := 16
def f_is_begun : Df := ⟨"is_begun", ["value", "word", "many"], [.s, .s, .s], .s, ["value", "word", "many"], [.s, .s, .s], [], .cons (.ret (.and_ (.b1 .isTup (.v 0)) (.and_ (.b2 .eq (.b1 .len (.v 0)) (.v 2)) (.and_ (.b1 .isStr (.b2 .idx (.v 0) (.c (.int 0)))) (.b2 .eq (.b2 .idx (.v 0) (.c (.int 0))) (.v 1)))))) (.nil)⟩
abbrev i_is_begun : Nat := 17
def f_has_branches : Df := ⟨"has_branches", ["value"], [.s], .s, ["value"], [.s], [], .cons (.ret (.and_ (.call 17 (.val (.v 0) (.val (.c (.str "look")) (.val (.c (.int 3)) (.nil))))) (.b1 .isTup (.b2 .idx (.v 0) (.c (.int 2)))))) (.nil)⟩
abbrev i_has_branches : Nat := 18
def c0_nodes_in : TV.E := .call 16 (.val (.v 8) (.nil))
def e0_nodes_in : TV.E := .tup (.cons (.tup (.star (.v 3) (.cons (.v 7) (.nil)))) (.cons (.b2 .add (.v 4) (.c (.int 1))) (.cons (.b2 .idx (.v 8) (.c (.int 1))) (.nil))))
def f_nodes_in : Df := ⟨"nodes_in", ["value"], [.s], .s, ["value", "found", "todo", "way", "many", "node", "below", "k", "pair"], [.s, .l .s, .l .s, .s, .s, .s, .s, .s, .s], [], .cons (.par [1, 2] (.cons (.lst (.nil)) (.cons (.lst (.cons (.tup (.cons (.tup (.nil)) (.cons (.c (.int 0)) (.cons (.v 0) (.nil))))) (.nil))) (.nil)))) (.cons (.whl 1000000 (.and_ (.b2 .ne (.v 2) (.lst (.nil))) (.b2 .le (.b1 .len (.v 1)) (.gc "MAX_NODES" (.int 60)))) (.cons (.asg (.t (.cons (.v 3) (.cons (.v 4) (.cons (.v 5) (.nil))))) (.pop (.v 2))) (.cons (.app (.v 1) (.tup (.cons (.v 3) (.cons (.v 4) (.cons (.v 5) (.nil)))))) (.cons (.ifs (.call 18 (.val (.v 5) (.nil))) (.cons (.asg (.v 6) (.lci [7, 8] (.enum (.b2 .idx (.v 5) (.c (.int 2)))) (.t (.cons (.v 7) (.cons (.v 8) (.nil)))) c0_nodes_in e0_nodes_in)) (.cons (.ext (.v 2) (.b1 .rev (.v 6))) (.nil))) (.nil)) (.nil))))) (.cons (.ret (.mv 1)) (.nil)))⟩
abbrev i_nodes_in : Nat := 19
def f_is_sight : Df := ⟨"is_sight", ["lot", "value"], [.s, .s], .s, ["lot", "value"], [.s, .s], [], .cons (.ret (.and_ (.call 2 (.val (.v 1) (.nil))) (.b2 .eq (.b1 .len (.v 1)) (.b1 .len (.v 0))))) (.nil)⟩
abbrev i_is_sight : Nat := 20
def e0_look_fault : TV.E := .b2 .lt (.v 7) (.v 8)
def e1_look_fault : TV.E := .call 20 (.val (.v 3) (.val (.v 6) (.nil)))
def e2_look_fault : TV.E := .b2 .idx (.v 5) (.c (.int 0))
def f_look_fault : Df := ⟨"look_fault", ["table", "many", "node"], [.s, .s, .s], .s, ["table", "many", "node", "lot", "sights", "pair", "sight", "one", "other"], [.s, .s, .s, .s, .s, .s, .s, .s, .s], [], .cons (.ifs (.b2 .ge (.v 1) (.gc "MAX_LOOKS" (.int 8))) (.cons (.ret (.c (.str "deep"))) (.nil)) (.nil)) (.cons (.asg (.t (.cons (.v 3) (.cons (.v 4) (.nil)))) (.tup (.cons (.b2 .idx (.v 2) (.c (.int 1))) (.cons (.lc [5] (.seq (.b2 .idx (.v 2) (.c (.int 2)))) (.v 5) e2_look_fault) (.nil))))) (.cons (.ifs (.not_ (.call 4 (.val (.call 5 (.val (.v 0) (.nil))) (.val (.v 3) (.nil))))) (.cons (.ret (.c (.str "lot"))) (.nil)) (.nil)) (.cons (.ifs (.not_ (.b1 .all_ (.lc [6] (.seq (.v 4)) (.v 6) e1_look_fault))) (.cons (.ret (.c (.str "sight"))) (.nil)) (.nil)) (.cons (.ret (.ite (.b1 .all_ (.lc [7, 8] (.zip (.v 4) (.b2 .slL (.v 4) (.c (.int 1)))) (.t (.cons (.v 7) (.cons (.v 8) (.nil)))) e0_look_fault)) (.c .none) (.c (.str "order")))) (.nil)))))⟩
abbrev i_look_fault : Nat := 21
def e0_node_fault : TV.E := .call 16 (.val (.v 4) (.nil))
def f_node_fault : Df := ⟨"node_fault", ["table", "way", "many", "node"], [.s, .s, .s, .s], .s, ["table", "way", "many", "node", "pair"], [.s, .s, .s, .s, .s], [], .cons (.ifs (.and_ (.call 18 (.val (.v 3) (.nil))) (.b1 .all_ (.lc [4] (.seq (.b2 .idx (.v 3) (.c (.int 2)))) (.v 4) e0_node_fault))) (.cons (.ret (.call 21 (.val (.v 0) (.val (.v 2) (.val (.v 3) (.nil)))))) (.nil)) (.nil)) (.cons (.ifs (.or_ (.b2 .eq (.v 1) (.tup (.nil))) (.and_ (.not_ (.call 17 (.val (.v 3) (.val (.c (.str "tell")) (.val (.c (.int 2)) (.nil)))))) (.not_ (.call 17 (.val (.v 3) (.val (.c (.str "again")) (.val (.c (.int 1)) (.nil)))))))) (.cons (.ret (.c (.str "form"))) (.nil)) (.nil)) (.cons (.ret (.ite (.and_ (.b2 .eq (.b2 .idx (.v 3) (.c (.int 0))) (.c (.str "tell"))) (.not_ (.call 3 (.val (.b2 .idx (.v 3) (.c (.int 1))) (.nil))))) (.c (.str "tell")) (.c .none))) (.nil)))⟩
abbrev i_node_fault : Nat := 22
def b0_reader_error : TV.Ss := .cons (.asg (.v 6) (.call 22 (.val (.v 0) (.val (.v 3) (.val (.v 4) (.val (.v 5) (.nil))))))) (.cons (.ifs (.b2 .isnt (.v 6) (.c .none)) (.cons (.ret (.tup (.cons (.v 6) (.cons (.v 3) (.nil))))) (.nil)) (.nil)) (.nil))
def f_reader_error : Df := ⟨"reader_error", ["table", "value"], [.s, .s], .s, ["table", "value", "nodes", "way", "many", "node", "word"], [.s, .s, .s, .s, .s, .s, .s], [⟨0, ["value", "table"], [1, 0]⟩], .cons (.asg (.v 2) (.call 19 (.val (.v 1) (.nil)))) (.cons (.ifs (.b2 .gt (.b1 .len (.v 2)) (.gc "MAX_NODES" (.int 60))) (.cons (.ret (.tup (.cons (.c (.str "many")) (.cons (.tup (.nil)) (.nil))))) (.nil)) (.nil)) (.cons (.for_ (.seq (.v 2)) (.t (.cons (.v 3) (.cons (.v 4) (.cons (.v 5) (.nil))))) b0_reader_error) (.cons (.ret (.c .none)) (.nil))))⟩
abbrev i_reader_error : Nat := 23
def b0_paths_on : TV.Ss := .cons (.ext (.v 3) (.call 24 (.val (.tup (.star (.v 0) (.cons (.b2 .idx (.v 2) (.c (.int 1))) (.nil)))) (.val (.tup (.star (.v 1) (.cons (.v 4) (.nil)))) (.val (.v 5) (.nil)))))) (.nil)
def f_paths_on : Df := ⟨"paths_on", ["looks", "word", "node"], [.s, .s, .s], .s, ["looks", "word", "node", "found", "sight", "below"], [.s, .s, .s, .l .s, .s, .s], [], .cons (.ifs (.b2 .ne (.b2 .idx (.v 2) (.c (.int 0))) (.c (.str "look"))) (.cons (.ret (.lst (.cons (.tup (.cons (.v 0) (.cons (.v 1) (.cons (.v 2) (.nil))))) (.nil)))) (.nil)) (.nil)) (.cons (.asg (.v 3) (.lst (.nil))) (.cons (.for_ (.seq (.b2 .idx (.v 2) (.c (.int 2)))) (.t (.cons (.v 4) (.cons (.v 5) (.nil)))) b0_paths_on) (.cons (.ret (.mv 3)) (.nil))))⟩
abbrev i_paths_on : Nat := 24
def f_paths_of : Df := ⟨"paths_of", ["reader"], [.s], .s, ["reader"], [.s], [⟨0, ["reader"], [0]⟩], .cons (.ret (.b1 .tup (.call 24 (.val (.tup (.nil)) (.val (.tup (.nil)) (.val (.v 0) (.nil))))))) (.nil)⟩
abbrev i_paths_of : Nat := 25
def f_wrong_run : Df := ⟨"wrong_run", ["table", "speed", "looks", "word", "value"], [.s, .s, .s, .s, .s], .s, ["table", "speed", "looks", "word", "value", "low", "high"], [.s, .s, .s, .s, .s, .s, .s], [], .cons (.ifs (.not_ (.call 11 (.val (.v 0) (.val (.v 1) (.val (.v 2) (.val (.v 3) (.nil))))))) (.cons (.ret (.c .none)) (.nil)) (.nil)) (.cons (.asg (.t (.cons (.v 5) (.cons (.v 6) (.nil)))) (.call 15 (.val (.v 0) (.val (.v 1) (.val (.v 2) (.val (.v 3) (.nil))))))) (.cons (.ifs (.b2 .lt (.v 4) (.v 5)) (.cons (.ret (.call 13 (.val (.v 0) (.val (.v 1) (.val (.v 2) (.val (.v 3) (.nil))))))) (.nil)) (.nil)) (.cons (.ret (.ite (.b2 .gt (.v 4) (.v 6)) (.call 12 (.val (.v 0) (.val (.v 1) (.val (.v 2) (.val (.v 3) (.nil)))))) (.c .none))) (.nil))))⟩
abbrev i_wrong_run : Nat := 26
def b0_wrong_path : TV.Ss := .cons (.asg (.v 4) (.ite (.b2 .eq (.b2 .idx (.v 7) (.c (.int 0))) (.c (.str "tell"))) (.call 26 (.val (.v 0) (.val (.v 1) (.val (.v 5) (.val (.v 6) (.val (.b2 .idx (.v 7) (.c (.int 1))) (.nil))))))) (.c .none))) (.cons (.ifs (.b2 .isnt (.v 4) (.c .none)) (.cons (.ret (.tup (.cons (.v 3) (.cons (.v 4) (.nil))))) (.nil)) (.nil)) (.nil))
def f_wrong_path : Df := ⟨"wrong_path", ["table", "speed", "reader"], [.s, .s, .s], .s, ["table", "speed", "reader", "number", "run", "looks", "word", "leaf"], [.s, .s, .s, .s, .s, .s, .s, .s], [⟨0, ["speed", "reader", "table"], [2, 0, 1]⟩], .cons (.for_ (.enum (.call 25 (.val (.v 2) (.nil)))) (.t (.cons (.v 3) (.cons (.t (.cons (.v 5) (.cons (.v 6) (.cons (.v 7) (.nil))))) (.nil)))) b0_wrong_path) (.cons (.ret (.c .none)) (.nil))⟩
abbrev i_wrong_path : Nat := 27
def f_filled_leaf : Df := ⟨"filled_leaf", ["table", "speed", "looks", "word"], [.s, .s, .s, .s], .s, ["table", "speed", "looks", "word", "low", "high"], [.s, .s, .s, .s, .s, .s], [], .cons (.ifs (.not_ (.call 11 (.val (.v 0) (.val (.v 1) (.val (.v 2) (.val (.v 3) (.nil))))))) (.cons (.ret (.tup (.cons (.c (.str "again")) (.nil)))) (.nil)) (.nil)) (.cons (.asg (.t (.cons (.v 4) (.cons (.v 5) (.nil)))) (.call 15 (.val (.v 0) (.val (.v 1) (.val (.v 2) (.val (.v 3) (.nil))))))) (.cons (.ret (.ite (.b2 .le (.v 4) (.v 5)) (.tup (.cons (.c (.str "tell")) (.cons (.v 4) (.nil)))) (.tup (.cons (.c (.str "again")) (.nil))))) (.nil)))⟩
abbrev i_filled_leaf : Nat := 28
def b0_filled_on : TV.Ss := .cons (.app (.v 5) (.tup (.cons (.v 6) (.cons (.call 29 (.val (.v 0) (.val (.v 1) (.val (.tup (.star (.v 2) (.cons (.b2 .idx (.v 4) (.c (.int 1))) (.nil)))) (.val (.tup (.star (.v 3) (.cons (.v 6) (.nil)))) (.val (.v 7) (.nil))))))) (.nil))))) (.nil)
def f_filled_on : Df := ⟨"filled_on", ["table", "speed", "looks", "word", "node"], [.s, .s, .s, .s, .s], .s, ["table", "speed", "looks", "word", "node", "found", "sight", "below"], [.s, .s, .s, .s, .s, .l .s, .s, .s], [], .cons (.ifs (.b2 .ne (.b2 .idx (.v 4) (.c (.int 0))) (.c (.str "look"))) (.cons (.ret (.call 28 (.val (.v 0) (.val (.v 1) (.val (.v 2) (.val (.v 3) (.nil))))))) (.nil)) (.nil)) (.cons (.asg (.v 5) (.lst (.nil))) (.cons (.for_ (.seq (.b2 .idx (.v 4) (.c (.int 2)))) (.t (.cons (.v 6) (.cons (.v 7) (.nil)))) b0_filled_on) (.cons (.ret (.tup (.cons (.c (.str "look")) (.cons (.b2 .idx (.v 4) (.c (.int 1))) (.cons (.b1 .tup (.v 5)) (.nil)))))) (.nil))))⟩
abbrev i_filled_on : Nat := 29
def f_filled_reader : Df := ⟨"filled_reader", ["table", "speed", "reader"], [.s, .s, .s], .s, ["table", "speed", "reader"], [.s, .s, .s], [⟨0, ["reader", "table", "speed"], [1, 2, 0]⟩], .cons (.ret (.call 29 (.val (.v 0) (.val (.v 1) (.val (.tup (.nil)) (.val (.tup (.nil)) (.val (.v 2) (.nil)))))))) (.nil)⟩
abbrev i_filled_reader : Nat := 30
def b0_node_behind : TV.Ss := .cons (.ifs (.b2 .eq (.v 2) (.v 1)) (.cons (.ret (.v 3)) (.nil)) (.nil)) (.nil)
def f_node_behind : Df := ⟨"node_behind", ["node", "sight"], [.s, .s], .s, ["node", "sight", "told", "below"], [.s, .s, .s, .s], [], .cons (.for_ (.seq (.b2 .idx (.v 0) (.c (.int 2)))) (.t (.cons (.v 2) (.cons (.v 3) (.nil)))) b0_node_behind) (.cons (.ret (.tup (.cons (.c (.str "again")) (.nil)))) (.nil))⟩
abbrev i_node_behind : Nat := 31
def b0_tells_in : TV.Ss := .cons (.asg (.v 4) (.call 31 (.val (.v 4) (.val (.call 6 (.val (.v 0) (.val (.b2 .idx (.v 4) (.c (.int 1))) (.val (.v 7) (.nil))))) (.nil))))) (.cons (.ifs (.b2 .eq (.b2 .idx (.v 4) (.c (.int 0))) (.c (.str "tell"))) (.cons (.app (.v 3) (.tup (.cons (.b2 .idx (.v 4) (.c (.int 1))) (.cons (.v 5) (.cons (.v 6) (.nil)))))) (.nil)) (.nil)) (.cons (.ifs (.b2 .ne (.b2 .idx (.v 4) (.c (.int 0))) (.c (.str "look"))) (.cons (.par [4, 5] (.cons (.v 1) (.cons (.b2 .add (.v 6) (.c (.int 1))) (.nil)))) (.nil)) (.nil)) (.nil)))
def f_tells_in : Df := ⟨"tells_in", ["table", "reader", "life"], [.s, .s, .s], .s, ["table", "reader", "life", "found", "node", "first", "moment", "state"], [.s, .s, .s, .l .s, .s, .s, .s, .s], [⟨0, ["life", "reader", "table"], [2, 1, 0]⟩], .cons (.par [3, 4, 5] (.cons (.lst (.nil)) (.cons (.v 1) (.cons (.c (.int 0)) (.nil))))) (.cons (.for_ (.enum (.v 2)) (.t (.cons (.v 6) (.cons (.v 7) (.nil)))) b0_tells_in) (.cons (.ret (.b1 .tup (.v 3))) (.nil)))⟩
abbrev i_tells_in : Nat := 32
def b0__law_deck : TV.Ss := .cons (.asg (.v 3) (.b1 .abs (.v 2))) (.cons (.ifs (.b2 .ge (.v 3) (.b2 .pow (.c (.int 10)) (.c (.int 18)))) (.cons (.setF 1 0 "deep" (.b2 .addL (.lst (.cons (.v 3) (.nil))) (.fld 1 0 "deep"))) (.nil)) (.nil)) (.cons (.asg (.v 4) (.b2 .add (.b2 .mul (.b2 .add (.b2 .add (.b2 .add (.fld 1 1 "state") (.b2 .mul (.c (.int 2)) (.v 3))) (.b1 .int (.b2 .lt (.v 2) (.c (.int 0))))) (.c (.int 1))) (.c (.int 1181783497276652981))) (.c (.int 521288629)))) (.cons (.setF 1 1 "state" (.b2 .mod (.b1 .int (.v 4)) (.c (.int 2305843009213693951)))) (.nil))))
def f__law_deck : Df := ⟨"_law_deck", ["script"], [.z], .r [("deep", true), ("state", false)], ["script", "deck", "cell", "whole", "state"], [.z, .r [("deep", true), ("state", false)], .s, .s, .s], [], .cons (.asg (.v 1) (.rec_ [("deep", true), ("state", false)] (.cons (.lst (.nil)) (.cons (.b2 .add (.c (.int 3075)) (.b1 .len (.b2 .slU (.v 0) (.c (.int 63))))) (.nil))))) (.cons (.for_ (.seq (.b2 .slU (.v 0) (.c (.int 63)))) (.v 2) b0__law_deck) (.cons (.ret (.mv 1)) (.nil)))⟩
abbrev i__law_deck : Nat := 33
def f__law_draw : Df := ⟨"_law_draw", ["deck", "many"], [.r [("deep", true), ("state", false)], .s], .s, ["deck", "many", "one", "two", "whole"], [.r [("deep", true), ("state", false)], .s, .s, .s, .s], [], .cons (.ifs (.b2 .lt (.v 1) (.c (.int 2))) (.cons (.ret (.c (.int 0))) (.nil)) (.nil)) (.cons (.ifs (.b2 .ne (.fld 0 0 "deep") (.lst (.nil))) (.cons (.asg (.v 4) (.pop (.f 0 0 "deep"))) (.cons (.ifs (.b2 .ge (.v 4) (.v 1)) (.cons (.app (.f 0 0 "deep") (.b2 .fdiv (.v 4) (.v 1))) (.nil)) (.nil)) (.cons (.ret (.b2 .mod (.b1 .int (.v 4)) (.v 1))) (.nil)))) (.nil)) (.cons (.asg (.v 2) (.b2 .mod (.b1 .int (.b2 .add (.b2 .mul (.fld 0 1 "state") (.c (.int 1181783497276652981))) (.c (.int 88172645463325)))) (.c (.int 2305843009213693951)))) (.cons (.setF 0 1 "state" (.v 2)) (.cons (.asg (.v 3) (.b2 .mod (.b1 .int (.b2 .add (.b2 .add (.b2 .mul (.v 2) (.v 2)) (.b2 .mul (.c (.int 374761393)) (.v 2))) (.c (.int 11)))) (.c (.int 2305843009213693921)))) (.cons (.ret (.b2 .mod (.b1 .int (.b2 .fdiv (.v 3) (.c (.int 1048576)))) (.v 1))) (.nil))))))⟩
abbrev i__law_draw : Nat := 34
def f__law_pick : Df := ⟨"_law_pick", ["deck", "items"], [.r [("deep", true), ("state", false)], .s], .s, ["deck", "items"], [.r [("deep", true), ("state", false)], .s], [], .cons (.ret (.b2 .idx (.v 1) (.call 34 (.io 0 (.val (.b1 .len (.v 1)) (.nil)))))) (.nil)⟩
abbrev i__law_pick : Nat := 35
def b0__law_table : TV.Ss := .cons (.asg (.v 7) (.b2 .add (.v 7) (.call 35 (.io 0 (.val (.lst (.cons (.c (.int 0)) (.cons (.c (.int 1)) (.cons (.c (.int 1)) (.cons (.c (.int 2)) (.cons (.c (.int 10)) (.nil))))))) (.nil)))))) (.cons (.app (.v 8) (.v 7)) (.nil))
def e0__law_table : TV.E := .call 35 (.io 0 (.val (.v 2) (.nil)))
def e1__law_table : TV.E := .b1 .tup (.lc [9] (.rng1 (.v 5)) (.v 9) e0__law_table)
def f__law_table : Df := ⟨"_law_table", ["deck", "most"], [.r [("deep", true), ("state", false)], .s], .s, ["deck", "most", "signs", "words", "state", "cells", "many", "value", "values", "cell"], [.r [("deep", true), ("state", false)], .s, .s, .s, .s, .s, .s, .s, .l .s, .s], [], .cons (.asg (.t (.cons (.v 5) (.cons (.v 6) (.nil)))) (.tup (.cons (.call 35 (.io 0 (.val (.lst (.cons (.c (.int 1)) (.cons (.c (.int 2)) (.cons (.c (.int 2)) (.cons (.c (.int 2)) (.cons (.c (.int 3)) (.nil))))))) (.nil)))) (.cons (.b2 .add (.c (.int 2)) (.call 34 (.io 0 (.val (.b2 .sub (.v 1) (.c (.int 1))) (.nil))))) (.nil))))) (.cons (.asg (.v 2) (.call 35 (.io 0 (.val (.lst (.cons (.lst (.cons (.c (.int 0)) (.cons (.c (.int 1)) (.nil)))) (.cons (.lst (.cons (.c (.int 0)) (.cons (.c (.int 1)) (.nil)))) (.cons (.lst (.cons (.c (.int 0)) (.cons (.c (.int 1)) (.cons (.c (.int 2)) (.nil))))) (.cons (.lst (.cons (.c (.int 0)) (.cons (.c (.int 5)) (.cons (.c (.int 199)) (.nil))))) (.nil)))))) (.nil))))) (.cons (.asg (.v 3) (.b1 .tup (.lc [4] (.rng1 (.v 6)) (.v 4) e1__law_table))) (.cons (.ifs (.b2 .eq (.call 34 (.io 0 (.val (.c (.int 3)) (.nil)))) (.c (.int 0))) (.cons (.ret (.tup (.cons (.v 3) (.cons (.b1 .tup (.b1 .lRng (.v 6))) (.nil))))) (.nil)) (.nil)) (.cons (.par [7, 8] (.cons (.call 35 (.io 0 (.val (.lst (.cons (.c (.int 0)) (.cons (.b1 .neg (.c (.int 3))) (.cons (.c (.int 7)) (.cons (.b1 .neg (.b2 .pow (.c (.int 10)) (.c (.int 12)))) (.nil)))))) (.nil)))) (.cons (.lst (.nil)) (.nil)))) (.cons (.for_ (.rng1 (.v 6)) (.v 4) b0__law_table) (.cons (.ret (.tup (.cons (.v 3) (.cons (.b1 .tup (.v 8)) (.nil))))) (.nil)))))))⟩
abbrev i__law_table : Nat := 36
def c0__law_lot : TV.E := .b2 .eq (.call 34 (.io 0 (.val (.c (.int 3)) (.nil)))) (.c (.int 0))
def e0__law_lot : TV.E := .v 3
def f__law_lot : Df := ⟨"_law_lot", ["deck", "cells"], [.r [("deep", true), ("state", false)], .s], .s, ["deck", "cells", "found", "cell"], [.r [("deep", true), ("state", false)], .s, .s, .s], [], .cons (.asg (.v 2) (.lci [3] (.rng1 (.v 1)) (.v 3) c0__law_lot e0__law_lot)) (.cons (.ret (.ite (.b2 .ne (.v 2) (.lst (.nil))) (.b1 .tup (.v 2)) (.tup (.cons (.call 34 (.io 0 (.val (.v 1) (.nil)))) (.nil))))) (.nil))⟩
abbrev i__law_lot : Nat := 37
def e0__law_shown : TV.E := .b2 .idx (.b2 .idx (.b2 .idx (.v 0) (.c (.int 0))) (.v 2)) (.v 3)
def f__law_shown : Df := ⟨"_law_shown", ["table", "lot", "state"], [.s, .s, .s], .s, ["table", "lot", "state", "cell"], [.s, .s, .s, .s], [], .cons (.ret (.b1 .tup (.lc [3] (.seq (.v 1)) (.v 3) e0__law_shown))) (.nil)⟩
abbrev i__law_shown : Nat := 38
def f__law_leaf : Df := ⟨"_law_leaf", ["deck", "table"], [.r [("deep", true), ("state", false)], .s], .s, ["deck", "table"], [.r [("deep", true), ("state", false)], .s], [], .cons (.ifs (.b2 .eq (.call 34 (.io 0 (.val (.c (.int 5)) (.nil)))) (.c (.int 0))) (.cons (.ret (.tup (.cons (.c (.str "again")) (.nil)))) (.nil)) (.nil)) (.cons (.ret (.tup (.cons (.c (.str "tell")) (.cons (.b2 .max2 (.b1 .neg (.b2 .pow (.c (.int 10)) (.c (.int 12)))) (.b2 .add (.call 35 (.io 0 (.val (.b2 .idx (.v 1) (.c (.int 1))) (.nil)))) (.call 35 (.io 0 (.val (.lst (.cons (.c (.int 0)) (.cons (.c (.int 0)) (.cons (.c (.int 0)) (.cons (.c (.int 0)) (.cons (.c (.int 1)) (.cons (.b1 .neg (.c (.int 1))) (.nil)))))))) (.nil)))))) (.nil))))) (.nil))⟩
abbrev i__law_leaf : Nat := 39
def b0__law_node : TV.Ss := .cons (.ifs (.b2 .gt (.call 34 (.io 0 (.val (.c (.int 7)) (.nil)))) (.c (.int 0))) (.cons (.asg (.v 7) (.or_ (.b2 .lt (.v 2) (.c (.int 2))) (.b2 .eq (.call 34 (.io 0 (.val (.c (.int 3)) (.nil)))) (.c (.int 0))))) (.cons (.app (.v 5) (.tup (.cons (.v 6) (.cons (.ite (.v 7) (.call 39 (.io 0 (.val (.v 1) (.nil)))) (.call 40 (.io 0 (.val (.v 1) (.val (.b2 .sub (.v 2) (.c (.int 1))) (.nil)))))) (.nil))))) (.nil))) (.nil)) (.nil)
def e0__law_node : TV.E := .call 38 (.val (.v 1) (.val (.v 3) (.val (.v 8) (.nil))))
def f__law_node : Df := ⟨"_law_node", ["deck", "table", "depth"], [.r [("deep", true), ("state", false)], .s, .s], .s, ["deck", "table", "depth", "lot", "seen_v", "branches", "sight", "is_leaf", "state"], [.r [("deep", true), ("state", false)], .s, .s, .s, .s, .l .s, .s, .s, .s], [], .cons (.asg (.v 3) (.call 37 (.io 0 (.val (.b1 .len (.b2 .idx (.b2 .idx (.v 1) (.c (.int 0))) (.c (.int 0)))) (.nil))))) (.cons (.asg (.v 4) (.b2 .slU (.b1 .setT (.lc [8] (.rng1 (.b1 .len (.b2 .idx (.v 1) (.c (.int 0))))) (.v 8) e0__law_node)) (.c (.int 3)))) (.cons (.ifs (.b2 .eq (.call 34 (.io 0 (.val (.c (.int 6)) (.nil)))) (.c (.int 0))) (.cons (.asg (.v 4) (.b1 .setT (.b2 .add (.v 4) (.lst (.cons (.b2 .mul (.tup (.cons (.call 35 (.io 0 (.val (.lst (.cons (.c (.int 0)) (.cons (.c (.int 3)) (.cons (.c (.int 199)) (.nil))))) (.nil)))) (.nil))) (.b1 .len (.v 3))) (.nil)))))) (.nil)) (.nil)) (.cons (.asg (.v 5) (.lst (.nil))) (.cons (.for_ (.seq (.v 4)) (.v 6) b0__law_node) (.cons (.ret (.tup (.cons (.c (.str "look")) (.cons (.v 3) (.cons (.b1 .tup (.v 5)) (.nil)))))) (.nil))))))⟩
abbrev i__law_node : Nat := 40
def e0__law_count : TV.E := .call 41 (.val (.b2 .idx (.v 1) (.c (.int 1))) (.nil))
def f__law_count : Df := ⟨"_law_count", ["node"], [.s], .s, ["node", "pair"], [.s, .s], [], .cons (.ret (.ite (.b2 .eq (.b2 .idx (.v 0) (.c (.int 0))) (.c (.str "look"))) (.b2 .add (.c (.int 1)) (.b1 .sum (.lc [1] (.seq (.b2 .idx (.v 0) (.c (.int 2)))) (.v 1) e0__law_count))) (.c (.int 1)))) (.nil)⟩
abbrev i__law_count : Nat := 41
def f__law_reader : Df := ⟨"_law_reader", ["deck", "table", "depth"], [.r [("deep", true), ("state", false)], .s, .s], .s, ["deck", "table", "depth", "node"], [.r [("deep", true), ("state", false)], .s, .s, .s], [], .cons (.asg (.v 3) (.call 40 (.io 0 (.val (.v 1) (.val (.v 2) (.nil)))))) (.cons (.ret (.ite (.b2 .lt (.call 41 (.val (.v 3) (.nil))) (.c (.int 61))) (.v 3) (.call 40 (.io 0 (.val (.v 1) (.val (.c (.int 2)) (.nil))))))) (.nil))⟩
abbrev i__law_reader : Nat := 42
def b0__law_paths : TV.Ss := .cons (.asg (.v 3) (.b2 .add (.v 3) (.call 43 (.val (.v 5) (.val (.b2 .add (.v 1) (.tup (.cons (.b2 .idx (.v 0) (.c (.int 1))) (.nil)))) (.val (.b2 .add (.v 2) (.tup (.cons (.v 4) (.nil)))) (.nil))))))) (.nil)
def f__law_paths : Df := ⟨"_law_paths", ["node", "looks", "word"], [.s, .s, .s], .s, ["node", "looks", "word", "found", "sight", "other"], [.s, .s, .s, .s, .s, .s], [], .cons (.ifs (.b2 .ne (.b2 .idx (.v 0) (.c (.int 0))) (.c (.str "look"))) (.cons (.ret (.lst (.cons (.tup (.cons (.v 1) (.cons (.v 2) (.cons (.v 0) (.nil))))) (.nil)))) (.nil)) (.nil)) (.cons (.asg (.v 3) (.lst (.nil))) (.cons (.for_ (.seq (.b2 .idx (.v 0) (.c (.int 2)))) (.t (.cons (.v 4) (.cons (.v 5) (.nil)))) b0__law_paths) (.cons (.ret (.v 3)) (.nil))))⟩
abbrev i__law_paths : Nat := 43
def c0__law_tells : TV.E := .b2 .eq (.v 11) (.v 8)
def e0__law_tells : TV.E := .v 12
def e1__law_tells : TV.E := .b2 .idx (.b2 .idx (.b2 .idx (.v 0) (.c (.int 0))) (.v 7)) (.v 10)
def b0__law_tells : TV.Ss := .cons (.asg (.v 8) (.b1 .tup (.lc [10] (.seq (.b2 .idx (.v 4) (.c (.int 1)))) (.v 10) e1__law_tells))) (.cons (.asg (.v 9) (.lci [11, 12] (.seq (.b2 .idx (.v 4) (.c (.int 2)))) (.t (.cons (.v 11) (.cons (.v 12) (.nil)))) c0__law_tells e0__law_tells)) (.cons (.asg (.v 4) (.ite (.b2 .ne (.v 9) (.lst (.nil))) (.b2 .idx (.v 9) (.c (.int 0))) (.tup (.cons (.c (.str "again")) (.nil))))) (.cons (.ifs (.b2 .eq (.b2 .idx (.v 4) (.c (.int 0))) (.c (.str "tell"))) (.cons (.app (.v 3) (.tup (.cons (.b2 .idx (.v 4) (.c (.int 1))) (.cons (.v 5) (.cons (.v 6) (.nil)))))) (.nil)) (.nil)) (.cons (.ifs (.b2 .ne (.b2 .idx (.v 4) (.c (.int 0))) (.c (.str "look"))) (.cons (.par [4, 5] (.cons (.v 1) (.cons (.b2 .add (.v 6) (.c (.int 1))) (.nil)))) (.nil)) (.nil)) (.nil)))))
def f__law_tells : Df := ⟨"_law_tells", ["table", "reader", "life"], [.s, .s, .s], .s, ["table", "reader", "life", "found", "node", "first", "moment", "state", "sight", "fit", "cell", "own", "other"], [.s, .s, .s, .l .s, .s, .s, .s, .s, .s, .s, .s, .s, .s], [], .cons (.par [3, 4, 5] (.cons (.lst (.nil)) (.cons (.v 1) (.cons (.c (.int 0)) (.nil))))) (.cons (.for_ (.enum (.v 2)) (.t (.cons (.v 6) (.cons (.v 7) (.nil)))) b0__law_tells) (.cons (.ret (.b1 .tup (.v 3))) (.nil)))⟩
abbrev i__law_tells : Nat := 44
def b0__law_life : TV.Ss := .cons (.app (.v 6) (.v 4)) (.cons (.asg (.v 7) (.ite (.b2 .is_ (.v 2) (.c .none)) (.b2 .sub (.b1 .len (.b2 .idx (.v 1) (.c (.int 0)))) (.c (.int 1))) (.b2 .min2 (.b2 .add (.v 4) (.v 2)) (.b2 .sub (.b1 .len (.b2 .idx (.v 1) (.c (.int 0)))) (.c (.int 1)))))) (.cons (.asg (.v 4) (.b2 .min2 (.v 7) (.b2 .add (.v 4) (.call 35 (.io 0 (.val (.lst (.cons (.c (.int 0)) (.cons (.c (.int 0)) (.cons (.c (.int 1)) (.cons (.c (.int 1)) (.cons (.c (.int 2)) (.cons (.c (.int 3)) (.cons (.c (.int 9)) (.nil))))))))) (.nil))))))) (.nil)))
def f__law_life : Df := ⟨"_law_life", ["deck", "table", "speed", "many"], [.r [("deep", true), ("state", false)], .s, .s, .s], .s, ["deck", "table", "speed", "many", "state", "moment", "life", "top"], [.r [("deep", true), ("state", false)], .s, .s, .s, .s, .s, .l .s, .s], [], .cons (.asg (.v 4) (.call 34 (.io 0 (.val (.b1 .len (.b2 .idx (.v 1) (.c (.int 0)))) (.nil))))) (.cons (.par [4, 6] (.cons (.call 35 (.io 0 (.val (.lst (.cons (.c (.int 0)) (.cons (.v 4) (.nil)))) (.nil)))) (.cons (.lst (.nil)) (.nil)))) (.cons (.for_ (.rng1 (.v 3)) (.v 5) b0__law_life) (.cons (.ret (.b1 .tup (.v 6))) (.nil))))⟩
abbrev i__law_life : Nat := 45
def c0__law_span : TV.E := .ch .le .le (.v 15) (.v 14) (.b2 .add (.v 15) (.v 13))
def e0__law_span : TV.E := .c (.int 1)
def c1__law_span : TV.E := .b2 .ne (.lci [15] (.seq (.v 11)) (.v 15) c0__law_span e0__law_span) (.lst (.nil))
def e1__law_span : TV.E := .v 14
def b0__law_span : TV.Ss := .cons (.asg (.v 13) (.ite (.b2 .is_ (.v 1) (.c .none)) (.v 6) (.v 1))) (.cons (.asg (.v 11) (.lci [14] (.seq (.v 12)) (.v 14) c1__law_span e1__law_span)) (.nil))
def b1__law_span : TV.Ss := .cons (.asg (.v 11) (.lst (.cons (.v 5) (.nil)))) (.cons (.for_ (.seq (.b2 .slL (.v 4) (.c (.int 1)))) (.v 12) b0__law_span) (.cons (.ifs (.b2 .ne (.v 11) (.lst (.nil))) (.cons (.par [7, 8] (.cons (.v 5) (.cons (.ite (.b2 .is_ (.v 8) (.c .none)) (.b2 .idx (.v 11) (.c (.int 0))) (.b2 .min2 (.v 8) (.b2 .idx (.v 11) (.c (.int 0))))) (.nil)))) (.nil)) (.nil)) (.nil)))
def c2__law_span : TV.E := .b2 .eq (.call 38 (.val (.v 0) (.val (.v 9) (.val (.v 14) (.nil))))) (.v 10)
def e2__law_span : TV.E := .v 14
def b2__law_span : TV.Ss := .cons (.app (.v 4) (.lci [14] (.rng1 (.v 6)) (.v 14) c2__law_span e2__law_span)) (.nil)
def f__law_span : Df := ⟨"_law_span", ["table", "speed", "looks", "word"], [.s, .s, .s, .s], .s, ["table", "speed", "looks", "word", "fit", "begin", "many", "high", "low", "lot", "sight", "left", "states", "top", "state", "own"], [.s, .s, .s, .s, .l .s, .s, .s, .s, .s, .s, .s, .s, .s, .s, .s, .s], [], .cons (.par [6, 7, 8] (.cons (.b1 .len (.b2 .idx (.v 0) (.c (.int 0)))) (.cons (.c .none) (.cons (.c .none) (.nil))))) (.cons (.asg (.v 4) (.lst (.nil))) (.cons (.for_ (.zip (.v 2) (.v 3)) (.t (.cons (.v 9) (.cons (.v 10) (.nil)))) b2__law_span) (.cons (.for_ (.seq (.b2 .idx (.v 4) (.c (.int 0)))) (.v 5) b1__law_span) (.cons (.ret (.ite (.b2 .is_ (.v 7) (.c .none)) (.c .none) (.tup (.cons (.v 7) (.cons (.v 8) (.nil)))))) (.nil)))))⟩
abbrev i__law_span : Nat := 46
def b0__law_filled : TV.Ss := .cons (.app (.v 5) (.tup (.cons (.v 7) (.cons (.call 47 (.val (.v 0) (.val (.v 1) (.val (.v 8) (.val (.b2 .add (.v 3) (.tup (.cons (.b2 .idx (.v 2) (.c (.int 1))) (.nil)))) (.val (.b2 .add (.v 4) (.tup (.cons (.v 7) (.nil)))) (.nil))))))) (.nil))))) (.nil)
def f__law_filled : Df := ⟨"_law_filled", ["table", "speed", "node", "looks", "word"], [.s, .s, .s, .s, .s], .s, ["table", "speed", "node", "looks", "word", "branches", "span", "sight", "other"], [.s, .s, .s, .s, .s, .l .s, .s, .s, .s], [], .cons (.ifs (.b2 .ne (.b2 .idx (.v 2) (.c (.int 0))) (.c (.str "look"))) (.cons (.asg (.v 6) (.call 46 (.val (.v 0) (.val (.v 1) (.val (.v 3) (.val (.v 4) (.nil))))))) (.cons (.ifs (.or_ (.b2 .is_ (.v 6) (.c .none)) (.b2 .gt (.b2 .idx (.b2 .idx (.v 0) (.c (.int 1))) (.b2 .idx (.v 6) (.c (.int 0)))) (.b2 .idx (.b2 .idx (.v 0) (.c (.int 1))) (.b2 .idx (.v 6) (.c (.int 1)))))) (.cons (.ret (.tup (.cons (.c (.str "again")) (.nil)))) (.nil)) (.nil)) (.cons (.ret (.tup (.cons (.c (.str "tell")) (.cons (.b2 .idx (.b2 .idx (.v 0) (.c (.int 1))) (.b2 .idx (.v 6) (.c (.int 0)))) (.nil))))) (.nil)))) (.nil)) (.cons (.asg (.v 5) (.lst (.nil))) (.cons (.for_ (.seq (.b2 .idx (.v 2) (.c (.int 2)))) (.t (.cons (.v 7) (.cons (.v 8) (.nil)))) b0__law_filled) (.cons (.ret (.tup (.cons (.c (.str "look")) (.cons (.b2 .idx (.v 2) (.c (.int 1))) (.cons (.b1 .tup (.v 5)) (.nil)))))) (.nil))))⟩
abbrev i__law_filled : Nat := 47
def b0__law_is_sure : TV.Ss := .cons (.asg (.v 6) (.ite (.b2 .eq (.b2 .idx (.v 5) (.c (.int 0))) (.c (.str "tell"))) (.call 46 (.val (.v 0) (.val (.v 1) (.val (.v 3) (.val (.v 4) (.nil)))))) (.c .none))) (.cons (.ifs (.and_ (.b2 .isnt (.v 6) (.c .none)) (.not_ (.ch .le .le (.b2 .idx (.b2 .idx (.v 0) (.c (.int 1))) (.b2 .idx (.v 6) (.c (.int 0)))) (.b2 .idx (.v 5) (.c (.int 1))) (.b2 .idx (.b2 .idx (.v 0) (.c (.int 1))) (.b2 .idx (.v 6) (.c (.int 1))))))) (.cons (.ret (.c (.bool false))) (.nil)) (.nil)) (.nil))
def f__law_is_sure : Df := ⟨"_law_is_sure", ["table", "speed", "reader"], [.s, .s, .s], .s, ["table", "speed", "reader", "looks", "word", "leaf", "span"], [.s, .s, .s, .s, .s, .s, .s], [], .cons (.for_ (.seq (.call 43 (.val (.v 2) (.val (.tup (.nil)) (.val (.tup (.nil)) (.nil)))))) (.t (.cons (.v 3) (.cons (.v 4) (.cons (.v 5) (.nil))))) b0__law_is_sure) (.cons (.ret (.c (.bool true))) (.nil))⟩
abbrev i__law_is_sure : Nat := 48
def f__law_asks : Df := ⟨"_law_asks", ["deck", "table"], [.r [("deep", true), ("state", false)], .s], .s, ["deck", "table", "speed", "reader", "life", "filled", "asks"], [.r [("deep", true), ("state", false)], .s, .s, .s, .s, .s, .l .s], [], .cons (.asg (.v 2) (.call 35 (.io 0 (.val (.lst (.cons (.c .none) (.cons (.c (.int 0)) (.cons (.c (.int 1)) (.cons (.c (.int 2)) (.nil)))))) (.nil))))) (.cons (.asg (.v 3) (.call 42 (.io 0 (.val (.v 1) (.val (.b2 .add (.c (.int 1)) (.call 34 (.io 0 (.val (.c (.int 3)) (.nil))))) (.nil)))))) (.cons (.asg (.v 4) (.call 45 (.io 0 (.val (.v 1) (.val (.v 2) (.val (.call 35 (.io 0 (.val (.lst (.cons (.c (.int 3)) (.cons (.c (.int 9)) (.cons (.c (.int 20)) (.nil))))) (.nil)))) (.nil))))))) (.cons (.asg (.v 5) (.call 47 (.val (.v 1) (.val (.v 2) (.val (.v 3) (.val (.tup (.nil)) (.val (.tup (.nil)) (.nil)))))))) (.cons (.asg (.v 6) (.lst (.cons (.tup (.cons (.c (.str "error")) (.cons (.tup (.cons (.v 1) (.cons (.v 3) (.nil)))) (.cons (.c .none) (.nil))))) (.cons (.tup (.cons (.c (.str "paths")) (.cons (.tup (.cons (.v 3) (.nil))) (.cons (.b1 .tup (.call 43 (.val (.v 3) (.val (.tup (.nil)) (.val (.tup (.nil)) (.nil)))))) (.nil))))) (.nil))))) (.cons (.asg (.v 6) (.b2 .addL (.v 6) (.lst (.cons (.tup (.cons (.c (.str "filled")) (.cons (.tup (.cons (.v 1) (.cons (.v 2) (.cons (.v 3) (.nil))))) (.cons (.v 5) (.nil))))) (.nil))))) (.cons (.asg (.v 6) (.addO .addL 6 (.lst (.cons (.tup (.cons (.c (.str "tells")) (.cons (.tup (.cons (.v 1) (.cons (.v 3) (.cons (.v 4) (.nil))))) (.cons (.call 44 (.val (.v 1) (.val (.v 3) (.val (.v 4) (.nil))))) (.nil))))) (.nil))))) (.cons (.app (.v 6) (.tup (.cons (.c (.str "wrong")) (.cons (.tup (.cons (.v 1) (.cons (.v 2) (.cons (.v 5) (.nil))))) (.cons (.c (.bool true)) (.nil)))))) (.cons (.ret (.addO .add 6 (.lst (.cons (.tup (.cons (.c (.str "wrong")) (.cons (.tup (.cons (.v 1) (.cons (.v 2) (.cons (.v 3) (.nil))))) (.cons (.call 48 (.val (.v 1) (.val (.v 2) (.val (.v 3) (.nil))))) (.nil))))) (.nil))))) (.nil)))))))))⟩
abbrev i__law_asks : Nat := 49
def f__law_told : Df := ⟨"_law_told", ["word", "own", "is_named"], [.s, .s, .s], .s, ["word", "own", "is_named"], [.s, .s, .s], [], .cons (.ifs (.b2 .eq (.v 0) (.c (.str "error"))) (.cons (.ret (.ite (.v 2) (.callK 23 [1, 0] (.nil) (.cons (.b2 .idx (.v 1) (.c (.int 1))) (.cons (.b2 .idx (.v 1) (.c (.int 0))) (.nil)))) (.call 23 (.val (.b2 .idx (.v 1) (.c (.int 0))) (.val (.b2 .idx (.v 1) (.c (.int 1))) (.nil)))))) (.nil)) (.nil)) (.cons (.ifs (.b2 .eq (.v 0) (.c (.str "paths"))) (.cons (.ret (.ite (.v 2) (.callK 25 [0] (.nil) (.cons (.b2 .idx (.v 1) (.c (.int 0))) (.nil))) (.call 25 (.val (.b2 .idx (.v 1) (.c (.int 0))) (.nil))))) (.nil)) (.nil)) (.cons (.ifs (.b2 .eq (.v 0) (.c (.str "filled"))) (.cons (.ifs (.v 2) (.cons (.ret (.callK 30 [1, 2, 0] (.nil) (.cons (.b2 .idx (.v 1) (.c (.int 2))) (.cons (.b2 .idx (.v 1) (.c (.int 0))) (.cons (.b2 .idx (.v 1) (.c (.int 1))) (.nil)))))) (.nil)) (.nil)) (.cons (.ret (.call 30 (.val (.b2 .idx (.v 1) (.c (.int 0))) (.val (.b2 .idx (.v 1) (.c (.int 1))) (.val (.b2 .idx (.v 1) (.c (.int 2))) (.nil)))))) (.nil))) (.nil)) (.cons (.ifs (.b2 .eq (.v 0) (.c (.str "tells"))) (.cons (.ret (.ite (.v 2) (.callK 32 [2, 1, 0] (.nil) (.cons (.b2 .idx (.v 1) (.c (.int 2))) (.cons (.b2 .idx (.v 1) (.c (.int 1))) (.cons (.b2 .idx (.v 1) (.c (.int 0))) (.nil))))) (.call 32 (.val (.b2 .idx (.v 1) (.c (.int 0))) (.val (.b2 .idx (.v 1) (.c (.int 1))) (.val (.b2 .idx (.v 1) (.c (.int 2))) (.nil))))))) (.nil)) (.nil)) (.cons (.ifs (.v 2) (.cons (.ret (.callK 27 [2, 0, 1] (.nil) (.cons (.b2 .idx (.v 1) (.c (.int 1))) (.cons (.b2 .idx (.v 1) (.c (.int 2))) (.cons (.b2 .idx (.v 1) (.c (.int 0))) (.nil)))))) (.nil)) (.nil)) (.cons (.ret (.call 27 (.val (.b2 .idx (.v 1) (.c (.int 0))) (.val (.b2 .idx (.v 1) (.c (.int 1))) (.val (.b2 .idx (.v 1) (.c (.int 2))) (.nil)))))) (.nil))))))⟩
abbrev i__law_told : Nat := 50
def e0__law_shows : TV.E := .call 38 (.val (.v 3) (.val (.v 15) (.val (.v 12) (.nil))))
def c0__law_shows : TV.E := .not_ (.ch .le .le (.v 13) (.v 14) (.b2 .add (.v 13) (.v 7)))
def e1__law_shows : TV.E := .c (.int 1)
def e2__law_shows : TV.E := .b1 .repr (.v 11)
def c1__law_shows : TV.E := .b2 .nin (.b1 .repr (.v 12)) (.lc [11] (.rng1 (.b1 .len (.b2 .idx (.v 3) (.c (.int 0))))) (.v 11) e2__law_shows)
def e3__law_shows : TV.E := .c (.int 1)
def e4__law_shows : TV.E := .b1 .repr (.v 11)
def f__law_shows : Df := ⟨"_law_shows", ["own", "told"], [.s, .s], .s, ["own", "told", "leaves", "table", "speed", "reader", "run", "top", "looks", "word", "leaf", "spot", "state", "one", "other", "lot"], [.s, .s, .s, .s, .s, .s, .s, .s, .s, .s, .s, .s, .s, .s, .s, .s], [], .cons (.asg (.t (.cons (.v 3) (.cons (.v 4) (.cons (.v 5) (.nil))))) (.v 0)) (.cons (.asg (.v 2) (.call 43 (.val (.v 5) (.val (.tup (.nil)) (.val (.tup (.nil)) (.nil)))))) (.cons (.ifs (.or_ (.not_ (.b1 .isTup (.v 1))) (.b2 .ne (.b1 .len (.v 1)) (.c (.int 2)))) (.cons (.ret (.c (.bool false))) (.nil)) (.nil)) (.cons (.ifs (.b2 .nin (.b1 .repr (.b2 .idx (.v 1) (.c (.int 0)))) (.lc [11] (.rng1 (.b1 .len (.v 2))) (.v 11) e4__law_shows)) (.cons (.ret (.c (.bool false))) (.nil)) (.nil)) (.cons (.asg (.t (.cons (.t (.cons (.v 8) (.cons (.v 9) (.cons (.v 10) (.nil))))) (.cons (.v 6) (.cons (.v 7) (.nil))))) (.tup (.cons (.b2 .idx (.v 2) (.b2 .idx (.v 1) (.c (.int 0)))) (.cons (.b2 .idx (.v 1) (.c (.int 1))) (.cons (.ite (.b2 .is_ (.v 4) (.c .none)) (.b1 .len (.b2 .idx (.v 3) (.c (.int 0)))) (.v 4)) (.nil)))))) (.cons (.ifs (.or_ (.b2 .ne (.b2 .idx (.v 10) (.c (.int 0))) (.c (.str "tell"))) (.or_ (.not_ (.b1 .isTup (.v 6))) (.b2 .ne (.b1 .len (.v 6)) (.b1 .len (.v 8))))) (.cons (.ret (.c (.bool false))) (.nil)) (.nil)) (.cons (.ifs (.b2 .ne (.lci [12] (.seq (.v 6)) (.v 12) c1__law_shows e3__law_shows) (.lst (.nil))) (.cons (.ret (.c (.bool false))) (.nil)) (.nil)) (.cons (.ifs (.b2 .ne (.lci [13, 14] (.zip (.v 6) (.b2 .slL (.v 6) (.c (.int 1)))) (.t (.cons (.v 13) (.cons (.v 14) (.nil)))) c0__law_shows e1__law_shows) (.lst (.nil))) (.cons (.ret (.c (.bool false))) (.nil)) (.nil)) (.cons (.ifs (.b2 .ne (.b1 .tup (.lc [12, 15] (.zip (.v 8) (.v 6)) (.t (.cons (.v 15) (.cons (.v 12) (.nil)))) e0__law_shows)) (.v 9)) (.cons (.ret (.c (.bool false))) (.nil)) (.nil)) (.cons (.ret (.not_ (.ch .le .le (.b2 .idx (.b2 .idx (.v 3) (.c (.int 1))) (.b2 .idx (.v 6) (.c (.int 0)))) (.b2 .idx (.v 10) (.c (.int 1))) (.b2 .idx (.b2 .idx (.v 3) (.c (.int 1))) (.b2 .idx (.v 6) (.b1 .neg (.c (.int 1)))))))) (.nil))))))))))⟩
abbrev i__law_shows : Nat := 51
def b0_law : TV.Ss := .cons (.asg (.v 3) (.call 36 (.io 1 (.val (.c (.int 6)) (.nil))))) (.cons (.asg (.v 4) (.ite (.b2 .eq (.call 34 (.io 1 (.val (.c (.int 2)) (.nil)))) (.c (.int 0))) (.tup (.cons (.b2 .idx (.v 3) (.c (.int 0))) (.cons (.b1 .tup (.b1 .lRng (.b1 .len (.b2 .idx (.v 3) (.c (.int 0)))))) (.nil)))) (.call 36 (.io 1 (.val (.c (.int 6)) (.nil)))))) (.cons (.asg (.v 5) (.b2 .add (.call 49 (.io 1 (.val (.v 3) (.nil)))) (.call 49 (.io 1 (.val (.v 4) (.nil)))))) (.cons (.par [6, 7, 8] (.cons (.b1 .repr (.v 5)) (.cons (.b2 .mulL (.b1 .lRng (.b1 .len (.v 5))) (.c (.int 2))) (.cons (.dnew) (.nil))))) (.cons (.whl 1000000 (.b2 .ne (.v 7) (.lst (.nil))) (.cons (.asg (.v 9) (.popAt (.v 7) (.call 34 (.io 1 (.val (.b1 .len (.v 7)) (.nil)))))) (.cons (.asg (.t (.cons (.v 11) (.cons (.v 12) (.cons (.v 13) (.nil))))) (.b2 .idx (.v 5) (.v 9))) (.cons (.asg (.v 10) (.call 50 (.val (.v 11) (.val (.v 12) (.val (.b2 .eq (.call 34 (.io 1 (.val (.c (.int 2)) (.nil)))) (.c (.int 0))) (.nil)))))) (.cons (.ifs (.b2 .ne (.dget 8 (.v 9) (.b1 .repr (.v 10))) (.b1 .repr (.v 10))) (.cons (.ret (.c (.bool false))) (.nil)) (.nil)) (.cons (.dset 8 (.v 9) (.b1 .repr (.v 10))) (.cons (.ifs (.or_ (.and_ (.b2 .eq (.v 11) (.c (.str "wrong"))) (.b2 .ne (.b2 .is_ (.v 10) (.c .none)) (.v 13))) (.and_ (.b2 .eq (.v 11) (.c (.str "wrong"))) (.and_ (.not_ (.v 13)) (.not_ (.call 51 (.val (.v 12) (.val (.v 10) (.nil)))))))) (.cons (.ret (.c (.bool false))) (.nil)) (.nil)) (.cons (.ifs (.and_ (.b2 .ne (.v 11) (.c (.str "wrong"))) (.b2 .ne (.b1 .repr (.v 10)) (.b1 .repr (.v 13)))) (.cons (.ret (.c (.bool false))) (.nil)) (.nil)) (.nil))))))))) (.cons (.ifs (.b2 .ne (.b1 .repr (.v 5)) (.v 6)) (.cons (.ret (.c (.bool false))) (.nil)) (.nil)) (.nil))))))
def f_law : Df := ⟨"law", ["script"], [.z], .s, ["script", "deck", "turn", "table", "other", "asks", "known", "left", "seen_v", "spot", "told", "word", "own", "due"], [.z, .r [("deep", true), ("state", false)], .s, .s, .s, .s, .s, .l .s, .r [], .s, .s, .s, .s, .s], [], .cons (.asg (.v 1) (.call 33 (.pk 0 (.nil)))) (.cons (.for_ (.rng1 (.c (.int 2))) (.v 2) b0_law) (.cons (.ret (.c (.bool true))) (.nil)))⟩
abbrev i_law : Nat := 52
def l : List Df := [f_is_integer, f_is_sign, f_is_sign_row, f_is_value, f_is_cell_lot, f_cells_of, f_seen, f_led_to, f_leading_to, f_come_to, f_lived_through, f_is_read, f_least_states, f_greatest_states, f_sure_states, f_sure_values, f_is_pair, f_is_begun, f_has_branches, f_nodes_in, f_is_sight, f_look_fault, f_node_fault, f_reader_error, f_paths_on, f_paths_of, f_wrong_run, f_wrong_path, f_filled_leaf, f_filled_on, f_filled_reader, f_node_behind, f_tells_in, f__law_deck, f__law_draw, f__law_pick, f__law_table, f__law_lot, f__law_shown, f__law_leaf, f__law_node, f__law_count, f__law_reader, f__law_paths, f__law_tells, f__law_life, f__law_span, f__law_filled, f__law_is_sure, f__law_asks, f__law_told, f__law_shows, f_law]
def B : List BN := [("abs", none), ("all", none), ("bool", none), ("enumerate", none), ("int", none), ("isinstance", none), ("len", none), ("list", none), ("max", none), ("min", none), ("range", none), ("repr", none), ("set", none), ("sorted", none), ("str", none), ("sum", none), ("tuple", none), ("zip", none), ("MAX_LOOKS", some (8)), ("MAX_NODES", some (60)), ("MAX_SIGN", some (199)), ("MAX_VALUE", some (1000000000000))]
theorem ck_is_integer : okDf l B f_is_integer (defArgs (top 5)) (defBody (top 5)) (defScope (top 5)) = true := by decide +kernel
theorem G_is_integer (k : Nat) : Gam l (k + 1) 0 = f_is_integer.sem (Gam l k) := rfl
theorem ck_is_sign : okDf l B f_is_sign (defArgs (top 10)) (defBody (top 10)) (defScope (top 10)) = true := by decide +kernel
theorem G_is_sign (k : Nat) : Gam l (k + 1) 1 = f_is_sign.sem (Gam l k) := rfl
theorem ck_is_sign_row : okDf l B f_is_sign_row (defArgs (top 11)) (defBody (top 11)) (defScope (top 11)) = true := by decide +kernel
theorem G_is_sign_row (k : Nat) : Gam l (k + 1) 2 = f_is_sign_row.sem (Gam l k) := rfl
theorem ck_is_value : okDf l B f_is_value (defArgs (top 12)) (defBody (top 12)) (defScope (top 12)) = true := by decide +kernel
theorem G_is_value (k : Nat) : Gam l (k + 1) 3 = f_is_value.sem (Gam l k) := rfl
theorem ck_is_cell_lot : okDf l B f_is_cell_lot (defArgs (top 13)) (defBody (top 13)) (defScope (top 13)) = true := by decide +kernel
theorem G_is_cell_lot (k : Nat) : Gam l (k + 1) 4 = f_is_cell_lot.sem (Gam l k) := rfl
theorem ck_cells_of : okDf l B f_cells_of (defArgs (top 14)) (defBody (top 14)) (defScope (top 14)) = true := by decide +kernel
theorem G_cells_of (k : Nat) : Gam l (k + 1) 5 = f_cells_of.sem (Gam l k) := rfl
theorem ck_seen : okDf l B f_seen (defArgs (top 15)) (defBody (top 15)) (defScope (top 15)) = true := by decide +kernel
theorem G_seen (k : Nat) : Gam l (k + 1) 6 = f_seen.sem (Gam l k) := rfl
theorem ck_led_to : okDf l B f_led_to (defArgs (top 17)) (defBody (top 17)) (defScope (top 17)) = true := by decide +kernel
theorem G_led_to (k : Nat) : Gam l (k + 1) 7 = f_led_to.sem (Gam l k) := rfl
theorem ck_leading_to : okDf l B f_leading_to (defArgs (top 18)) (defBody (top 18)) (defScope (top 18)) = true := by decide +kernel
theorem G_leading_to (k : Nat) : Gam l (k + 1) 8 = f_leading_to.sem (Gam l k) := rfl
theorem ck_come_to : okDf l B f_come_to (defArgs (top 19)) (defBody (top 19)) (defScope (top 19)) = true := by decide +kernel
theorem G_come_to (k : Nat) : Gam l (k + 1) 9 = f_come_to.sem (Gam l k) := rfl
theorem ck_lived_through : okDf l B f_lived_through (defArgs (top 20)) (defBody (top 20)) (defScope (top 20)) = true := by decide +kernel
theorem G_lived_through (k : Nat) : Gam l (k + 1) 10 = f_lived_through.sem (Gam l k) := rfl
theorem ck_is_read : okDf l B f_is_read (defArgs (top 21)) (defBody (top 21)) (defScope (top 21)) = true := by decide +kernel
theorem G_is_read (k : Nat) : Gam l (k + 1) 11 = f_is_read.sem (Gam l k) := rfl
theorem ck_least_states : okDf l B f_least_states (defArgs (top 22)) (defBody (top 22)) (defScope (top 22)) = true := by decide +kernel
theorem G_least_states (k : Nat) : Gam l (k + 1) 12 = f_least_states.sem (Gam l k) := rfl
theorem ck_greatest_states : okDf l B f_greatest_states (defArgs (top 23)) (defBody (top 23)) (defScope (top 23)) = true := by decide +kernel
theorem G_greatest_states (k : Nat) : Gam l (k + 1) 13 = f_greatest_states.sem (Gam l k) := rfl
theorem ck_sure_states : okDf l B f_sure_states (defArgs (top 24)) (defBody (top 24)) (defScope (top 24)) = true := by decide +kernel
theorem G_sure_states (k : Nat) : Gam l (k + 1) 14 = f_sure_states.sem (Gam l k) := rfl
theorem ck_sure_values : okDf l B f_sure_values (defArgs (top 25)) (defBody (top 25)) (defScope (top 25)) = true := by decide +kernel
theorem G_sure_values (k : Nat) : Gam l (k + 1) 15 = f_sure_values.sem (Gam l k) := rfl
theorem ck_is_pair : okDf l B f_is_pair (defArgs (top 27)) (defBody (top 27)) (defScope (top 27)) = true := by decide +kernel
theorem G_is_pair (k : Nat) : Gam l (k + 1) 16 = f_is_pair.sem (Gam l k) := rfl
theorem ck_is_begun : okDf l B f_is_begun (defArgs (top 28)) (defBody (top 28)) (defScope (top 28)) = true := by decide +kernel
theorem G_is_begun (k : Nat) : Gam l (k + 1) 17 = f_is_begun.sem (Gam l k) := rfl
theorem ck_has_branches : okDf l B f_has_branches (defArgs (top 29)) (defBody (top 29)) (defScope (top 29)) = true := by decide +kernel
theorem G_has_branches (k : Nat) : Gam l (k + 1) 18 = f_has_branches.sem (Gam l k) := rfl
theorem ck_nodes_in : okDf l B f_nodes_in (defArgs (top 30)) (defBody (top 30)) (defScope (top 30)) = true := by decide +kernel
theorem G_nodes_in (k : Nat) : Gam l (k + 1) 19 = f_nodes_in.sem (Gam l k) := rfl
theorem ck_is_sight : okDf l B f_is_sight (defArgs (top 31)) (defBody (top 31)) (defScope (top 31)) = true := by decide +kernel
theorem G_is_sight (k : Nat) : Gam l (k + 1) 20 = f_is_sight.sem (Gam l k) := rfl
theorem ck_look_fault : okDf l B f_look_fault (defArgs (top 32)) (defBody (top 32)) (defScope (top 32)) = true := by decide +kernel
theorem G_look_fault (k : Nat) : Gam l (k + 1) 21 = f_look_fault.sem (Gam l k) := rfl
theorem ck_node_fault : okDf l B f_node_fault (defArgs (top 33)) (defBody (top 33)) (defScope (top 33)) = true := by decide +kernel
theorem G_node_fault (k : Nat) : Gam l (k + 1) 22 = f_node_fault.sem (Gam l k) := rfl
theorem ck_reader_error : okDf l B f_reader_error (defArgs (top 34)) (defBody (top 34)) (defScope (top 34)) = true := by decide +kernel
theorem G_reader_error (k : Nat) : Gam l (k + 1) 23 = f_reader_error.sem (Gam l k) := rfl
theorem ck_paths_on : okDf l B f_paths_on (defArgs (top 35)) (defBody (top 35)) (defScope (top 35)) = true := by decide +kernel
theorem G_paths_on (k : Nat) : Gam l (k + 1) 24 = f_paths_on.sem (Gam l k) := rfl
theorem ck_paths_of : okDf l B f_paths_of (defArgs (top 36)) (defBody (top 36)) (defScope (top 36)) = true := by decide +kernel
theorem G_paths_of (k : Nat) : Gam l (k + 1) 25 = f_paths_of.sem (Gam l k) := rfl
theorem ck_wrong_run : okDf l B f_wrong_run (defArgs (top 37)) (defBody (top 37)) (defScope (top 37)) = true := by decide +kernel
theorem G_wrong_run (k : Nat) : Gam l (k + 1) 26 = f_wrong_run.sem (Gam l k) := rfl
theorem ck_wrong_path : okDf l B f_wrong_path (defArgs (top 38)) (defBody (top 38)) (defScope (top 38)) = true := by decide +kernel
theorem G_wrong_path (k : Nat) : Gam l (k + 1) 27 = f_wrong_path.sem (Gam l k) := rfl
theorem ck_filled_leaf : okDf l B f_filled_leaf (defArgs (top 39)) (defBody (top 39)) (defScope (top 39)) = true := by decide +kernel
theorem G_filled_leaf (k : Nat) : Gam l (k + 1) 28 = f_filled_leaf.sem (Gam l k) := rfl
theorem ck_filled_on : okDf l B f_filled_on (defArgs (top 40)) (defBody (top 40)) (defScope (top 40)) = true := by decide +kernel
theorem G_filled_on (k : Nat) : Gam l (k + 1) 29 = f_filled_on.sem (Gam l k) := rfl
theorem ck_filled_reader : okDf l B f_filled_reader (defArgs (top 41)) (defBody (top 41)) (defScope (top 41)) = true := by decide +kernel
theorem G_filled_reader (k : Nat) : Gam l (k + 1) 30 = f_filled_reader.sem (Gam l k) := rfl
theorem ck_node_behind : okDf l B f_node_behind (defArgs (top 43)) (defBody (top 43)) (defScope (top 43)) = true := by decide +kernel
theorem G_node_behind (k : Nat) : Gam l (k + 1) 31 = f_node_behind.sem (Gam l k) := rfl
theorem ck_tells_in : okDf l B f_tells_in (defArgs (top 44)) (defBody (top 44)) (defScope (top 44)) = true := by decide +kernel
theorem G_tells_in (k : Nat) : Gam l (k + 1) 32 = f_tells_in.sem (Gam l k) := rfl
theorem ck__law_deck : okDf l B f__law_deck (defArgs (top 46)) (defBody (top 46)) (defScope (top 46)) = true := by decide +kernel
theorem G__law_deck (k : Nat) : Gam l (k + 1) 33 = f__law_deck.sem (Gam l k) := rfl
theorem ck__law_draw : okDf l B f__law_draw (defArgs (top 47)) (defBody (top 47)) (defScope (top 47)) = true := by decide +kernel
theorem G__law_draw (k : Nat) : Gam l (k + 1) 34 = f__law_draw.sem (Gam l k) := rfl
theorem ck__law_pick : okDf l B f__law_pick (defArgs (top 48)) (defBody (top 48)) (defScope (top 48)) = true := by decide +kernel
theorem G__law_pick (k : Nat) : Gam l (k + 1) 35 = f__law_pick.sem (Gam l k) := rfl
theorem ck__law_table : okDf l B f__law_table (defArgs (top 49)) (defBody (top 49)) (defScope (top 49)) = true := by decide +kernel
theorem G__law_table (k : Nat) : Gam l (k + 1) 36 = f__law_table.sem (Gam l k) := rfl
theorem ck__law_lot : okDf l B f__law_lot (defArgs (top 50)) (defBody (top 50)) (defScope (top 50)) = true := by decide +kernel
theorem G__law_lot (k : Nat) : Gam l (k + 1) 37 = f__law_lot.sem (Gam l k) := rfl
theorem ck__law_shown : okDf l B f__law_shown (defArgs (top 51)) (defBody (top 51)) (defScope (top 51)) = true := by decide +kernel
theorem G__law_shown (k : Nat) : Gam l (k + 1) 38 = f__law_shown.sem (Gam l k) := rfl
theorem ck__law_leaf : okDf l B f__law_leaf (defArgs (top 52)) (defBody (top 52)) (defScope (top 52)) = true := by decide +kernel
theorem G__law_leaf (k : Nat) : Gam l (k + 1) 39 = f__law_leaf.sem (Gam l k) := rfl
theorem ck__law_node : okDf l B f__law_node (defArgs (top 53)) (defBody (top 53)) (defScope (top 53)) = true := by decide +kernel
theorem G__law_node (k : Nat) : Gam l (k + 1) 40 = f__law_node.sem (Gam l k) := rfl
theorem ck__law_count : okDf l B f__law_count (defArgs (top 54)) (defBody (top 54)) (defScope (top 54)) = true := by decide +kernel
theorem G__law_count (k : Nat) : Gam l (k + 1) 41 = f__law_count.sem (Gam l k) := rfl
theorem ck__law_reader : okDf l B f__law_reader (defArgs (top 55)) (defBody (top 55)) (defScope (top 55)) = true := by decide +kernel
theorem G__law_reader (k : Nat) : Gam l (k + 1) 42 = f__law_reader.sem (Gam l k) := rfl
theorem ck__law_paths : okDf l B f__law_paths (defArgs (top 56)) (defBody (top 56)) (defScope (top 56)) = true := by decide +kernel
theorem G__law_paths (k : Nat) : Gam l (k + 1) 43 = f__law_paths.sem (Gam l k) := rfl
theorem ck__law_tells : okDf l B f__law_tells (defArgs (top 57)) (defBody (top 57)) (defScope (top 57)) = true := by decide +kernel
theorem G__law_tells (k : Nat) : Gam l (k + 1) 44 = f__law_tells.sem (Gam l k) := rfl
theorem ck__law_life : okDf l B f__law_life (defArgs (top 58)) (defBody (top 58)) (defScope (top 58)) = true := by decide +kernel
theorem G__law_life (k : Nat) : Gam l (k + 1) 45 = f__law_life.sem (Gam l k) := rfl
theorem ck__law_span : okDf l B f__law_span (defArgs (top 59)) (defBody (top 59)) (defScope (top 59)) = true := by decide +kernel
theorem G__law_span (k : Nat) : Gam l (k + 1) 46 = f__law_span.sem (Gam l k) := rfl
theorem ck__law_filled : okDf l B f__law_filled (defArgs (top 60)) (defBody (top 60)) (defScope (top 60)) = true := by decide +kernel
theorem G__law_filled (k : Nat) : Gam l (k + 1) 47 = f__law_filled.sem (Gam l k) := rfl
theorem ck__law_is_sure : okDf l B f__law_is_sure (defArgs (top 61)) (defBody (top 61)) (defScope (top 61)) = true := by decide +kernel
theorem G__law_is_sure (k : Nat) : Gam l (k + 1) 48 = f__law_is_sure.sem (Gam l k) := rfl
theorem ck__law_asks : okDf l B f__law_asks (defArgs (top 62)) (defBody (top 62)) (defScope (top 62)) = true := by decide +kernel
theorem G__law_asks (k : Nat) : Gam l (k + 1) 49 = f__law_asks.sem (Gam l k) := rfl
theorem ck__law_told : okDf l B f__law_told (defArgs (top 63)) (defBody (top 63)) (defScope (top 63)) = true := by decide +kernel
theorem G__law_told (k : Nat) : Gam l (k + 1) 50 = f__law_told.sem (Gam l k) := rfl
theorem ck__law_shows : okDf l B f__law_shows (defArgs (top 64)) (defBody (top 64)) (defScope (top 64)) = true := by decide +kernel
theorem G__law_shows (k : Nat) : Gam l (k + 1) 51 = f__law_shows.sem (Gam l k) := rfl
theorem ck_law : okDf l B f_law (defArgs (top 65)) (defBody (top 65)) (defScope (top 65)) = true := by decide +kernel
theorem G_law (k : Nat) : Gam l (k + 1) 52 = f_law.sem (Gam l k) := rfl
end Tx

namespace Tx
open PySem PySem.Spec PyProof.Rows L2 TV
def dk (deep : List Int) (st : Int) : D := .tuple [.list (deep.map .int), .int st]
def DkOk (deep : List Int) (st : Int) : Prop := deep.length ≤ 63 ∧ 0 ≤ st ∧ st < 2305843009213693951
theorem pds_ints : ∀ is : List Int, pds (is.map PyData.int) = true
  | [] => rfl
  | i :: is => by simp [pds, pd, pds_ints is]
theorem depth_ints : ∀ is : List Int, PyData.depthAll (is.map PyData.int) = 0
  | [] => rfl
  | i :: is => by simp [PyData.depthAll, PyData.depth, depth_ints is]
theorem eq_nil (is : List Int) : eqD (.list (is.map .int)) (.list []) = some (decide (is = [])) := by
  by_cases h : is = []
  · subst h; exact eqD_yes rfl (by simp [PyData.depth, PyData.depthAll]) rfl
  · rw [decide_eq_false h]
    exact eqD_no (by simp [pd, pds_ints]) rfl (by simp [PyData.depth, depth_ints]) (by simp [PyData.depth, PyData.depthAll]) (by simp [h])
theorem mulOk_r {i j : Int} (h : -(2 ^ 64) < j ∧ j < 2 ^ 64) : mulOk i j = true := by unfold mulOk; rw [decide_eq_true h]; simp
theorem draw_small (Γ : Nat → Fn) (deep : List Int) (st n : Int) (h : n < 2) : f__law_draw.sem Γ [dk deep st, .int n] = .ok (.int 0) [some (dk deep st)] := by
  unfold Df.sem TV.run f__law_draw dk
  simp [h, Df.ios, iosOf, Sh.isM]
theorem draw_flat (Γ : Nat → Fn) (st n : Int) (h : ¬ n < 2) (h2 : n < 1073741824) (s0 : 0 ≤ st) (s1 : st < 2305843009213693951) : ∃ v st', f__law_draw.sem Γ [dk [] st, .int n] = .ok (.int v) [some (dk [] st')] ∧ 0 ≤ v ∧ v < n ∧ DkOk [] st' := by
  have n0 : 0 < n := by omega
  have e0 : eqD (.list []) (.list []) = some true := eq_nil []
  have o1 : 0 ≤ (st * 1181783497276652981 + 88172645463325) % 2305843009213693951 := Int.emod_nonneg _ (by decide)
  have o2 : (st * 1181783497276652981 + 88172645463325) % 2305843009213693951 < 2305843009213693951 := Int.emod_lt_of_pos _ (by decide)
  unfold Df.sem TV.run f__law_draw dk
  simp [h, Df.ios, iosOf, Sh.isM, getPl, e0, setFD]
  rw [o_mulI (mulOk_r (by decide))]
  simp
  rw [o_mod (by decide)]
  simp [setFD]
  generalize (st * 1181783497276652981 + 88172645463325) % 2305843009213693951 = one at *
  rw [o_mulI (mulOk_r (by omega))]
  simp
  rw [o_mulI (mulOk_r (by omega))]
  simp
  rw [o_mod (by decide)]
  simp
  rw [o_fdiv (by decide) (by decide)]
  simp
  rw [o_mod n0]
  simp
  exact ⟨_, one, ⟨rfl, rfl⟩, Int.emod_nonneg _ (by omega), Int.emod_lt_of_pos _ n0, by simp, o1, o2⟩
theorem draw_deep (Γ : Nat → Fn) (init : List Int) (w st n : Int) (h : ¬ n < 2) (h2 : n < 1073741824) (hl : init.length + 1 ≤ 63) (s0 : 0 ≤ st) (s1 : st < 2305843009213693951) : ∃ v deep', f__law_draw.sem Γ [dk (init ++ [w]) st, .int n] = .ok (.int v) [some (dk deep' st)] ∧ 0 ≤ v ∧ v < n ∧ DkOk deep' st := by
  have n0 : 0 < n := by omega
  have e0 : eqD (.list (init.map .int ++ [.int w])) (.list []) = some false := by
    have := eq_nil (init ++ [w])
    simpa using this
  unfold Df.sem TV.run f__law_draw dk
  simp [h, Df.ios, iosOf, Sh.isM, getPl, e0, popD, setPl]
  by_cases hw : n ≤ w
  · simp [hw, appD, getPl, setPl]
    rw [o_fdiv n0 h2]
    have lt : init.length < LIM := by unfold LIM; omega
    simp [lt, getPl, setPl]
    rw [o_mod n0]
    simp
    exact ⟨_, init ++ [w / n], ⟨rfl, by simp⟩, Int.emod_nonneg _ (by omega), Int.emod_lt_of_pos _ n0, by simpa using hl, s0, s1⟩
  · simp [hw]
    rw [o_mod n0]
    simp
    exact ⟨_, init, ⟨rfl, rfl⟩, Int.emod_nonneg _ (by omega), Int.emod_lt_of_pos _ n0, by omega, s0, s1⟩
/-- a drawn number -/
theorem draw_sem (Γ : Nat → Fn) {deep : List Int} {st : Int} (ok : DkOk deep st) (n : Int) (h2 : n < 1073741824) : ∃ v deep' st', f__law_draw.sem Γ [dk deep st, .int n] = .ok (.int v) [some (dk deep' st')] ∧ 0 ≤ v ∧ (v < n ∨ v = 0) ∧ DkOk deep' st' := by
  obtain ⟨l, s0, s1⟩ := ok
  by_cases h : n < 2
  · exact ⟨0, deep, st, draw_small Γ deep st n h, by omega, .inr rfl, l, s0, s1⟩
  · rcases List.eq_nil_or_concat deep with e | ⟨init, w, e⟩
    · subst e
      obtain ⟨v, st', h1, h3, h4, h5⟩ := draw_flat Γ st n h h2 s0 s1
      exact ⟨v, [], st', h1, h3, .inl h4, h5⟩
    · rw [List.concat_eq_append] at e
      subst e
      obtain ⟨v, d', h1, h3, h4, h5⟩ := draw_deep Γ init w st n h h2 (by simpa using l) s0 s1
      exact ⟨v, d', st, h1, h3, .inl h4, h5⟩

end Tx
namespace Tx
open PySem PySem.Spec PyProof.Rows L2 TV
/-- what a draw is to do -/
def DrawOk (F : Fn) : Prop := ∀ {deep : List Int} {st : Int}, DkOk deep st → ∀ n : Int, n < 1073741824 → ∃ v deep' st', F [dk deep st, .int n] = .ok (.int v) [some (dk deep' st')] ∧ 0 ≤ v ∧ (v < n ∨ v = 0) ∧ DkOk deep' st'
theorem drawOk (k : Nat) : DrawOk (Gam l (k + 1) i__law_draw) := fun ok n h => draw_sem _ ok n h
theorem atD_mem {ds : List D} {i : Int} (h : 0 ≤ i) (h2 : i < ds.length) : ∃ x ∈ ds, atD ds i = some x := by
  obtain ⟨n, rfl⟩ := Int.eq_ofNat_of_zero_le h
  have hn : n < ds.length := by omega
  refine ⟨ds[n], List.getElem_mem hn, ?_⟩
  have e : ixN ds.length (n : Int) = some n := by simp [ixN, hn]
  unfold atD atI
  rw [e]
  simp [hn]
/-- one of the items -/
def PickOk (F : Fn) : Prop := ∀ {deep : List Int} {st : Int}, DkOk deep st → ∀ items : List D, items ≠ [] → items.length < 1073741824 → ∀ x, x = .list items ∨ x = .tuple items → ∃ y ∈ items, ∃ deep' st', F [dk deep st, x] = .ok y [some (dk deep' st')] ∧ DkOk deep' st'
theorem pick_sem {Γ : Nat → Fn} (hd : DrawOk (Γ i__law_draw)) : PickOk (f__law_pick.sem Γ) := fun {deep st} ok items h1 h2 x hx => by
  obtain ⟨v, deep', st', e1, e2, e3, e4⟩ := hd ok items.length (by omega)
  have hp : 0 < items.length := List.length_pos_iff.mpr h1
  obtain ⟨y, hy, ey⟩ := atD_mem (ds := items) e2 (by omega)
  refine ⟨y, hy, deep', st', ?_, e4⟩
  unfold Df.sem TV.run f__law_pick
  rcases hx with rfl | rfl
  · simp [Df.ios, iosOf, Sh.isM, callR, argD, outs, e1, ey]
  · simp [Df.ios, iosOf, Sh.isM, callR, argD, outs, e1, ey]

end Tx
namespace Tx
open PySem PySem.Spec PyProof.Rows L2 TV
theorem pow18 : b2 .pow (.int 10) (.int 18) = some (.int 1000000000000000000) := by rfl
def script (ns : List Int) : D := .list (ns.map .int)
theorem deck_sem (Γ : Nat → Fn) (ns : List Int) (hl : ns.length ≤ 63) : ∃ deep st, f__law_deck.sem Γ [script ns] = .ok (dk deep st) [] ∧ DkOk deep st := by
  have cut : TV.cutD (ns.map PyData.int) none (some 63) = ns.map PyData.int := by
    have := cut_n (ds := ns.map PyData.int) (n := 63)
    rw [show ((63 : Nat) : Int) = 63 from rfl] at this
    rw [this, List.take_of_length_le (by simpa using hl)]
  unfold Df.sem TV.run f__law_deck script
  simp [Df.ios, iosOf, Sh.isM, cut]
  obtain ⟨ρ, e, deep, st, c, w, s, rfl, ok⟩ := forF_inv (body := forT (Tg.v 2) (exSs Γ b0__law_deck))
    (fun rest ρ => ∃ deep st c w s, ρ = [some (.list (ns.map .int)), some (dk deep st), c, w, s] ∧ deep.length + rest.length ≤ 63 ∧ (0 ≤ st ∧ st < 2305843009213693951) ∧ ∀ d ∈ rest, ∃ i, d = .int i)
    (fun d ds ρ ⟨deep, st, c, w, s, e, h1, h2, h3⟩ => by
      subst e
      obtain ⟨i, rfl⟩ := h3 d List.mem_cons_self
      have h4 : ∀ d ∈ ds, ∃ i, d = .int i := fun d hd => h3 d (List.mem_cons_of_mem _ hd)
      simp at h1
      generalize hw : (if i < 0 then -i else i) = v
      have tail : ∀ dp : List PyData, ∃ st', 0 ≤ st' ∧ st' < 2305843009213693951 ∧ ∃ s', (exSs Γ (Ss.cons
                (S.asg (Tg.v 4)
                  (E.b2 B2.add
                    (E.b2 B2.mul
                      (E.b2 B2.add
                        (E.b2 B2.add
                          (E.b2 B2.add (E.fld 1 1 (Str.ofString "state")) (E.b2 B2.mul (E.c (PyData.int 2)) (E.v 3)))
                          (E.b1 B1.int (E.b2 B2.lt (E.v 2) (E.c (PyData.int 0)))))
                        (E.c (PyData.int 1)))
                      (E.c (PyData.int 1181783497276652981)))
                    (E.c (PyData.int 521288629))))
                (Ss.cons
                  (S.setF 1 1 (Str.ofString "state")
                    (E.b2 B2.mod (E.b1 B1.int (E.v 4)) (E.c (PyData.int 2305843009213693951))))
                  Ss.nil)) [some (.list (ns.map .int)), some (.tuple [.list dp, .int st]), some (.int i), some (.int v), s]) = .nx [some (.list (ns.map .int)), some (.tuple [.list dp, .int st']), some (.int i), some (.int v), s'] := fun dp => by
        simp [getPl]
        rw [o_mulI (by unfold mulOk; simp)]
        simp
        rw [o_mulI (mulOk_r (by decide))]
        simp [setFD, getPl]
        rw [o_mod (by decide)]
        simp
        exact ⟨Int.emod_nonneg _ (by decide), Int.emod_lt_of_pos _ (by decide)⟩
      unfold b0__law_deck
      generalize (Ss.cons
                (S.asg (Tg.v 4)
                  (E.b2 B2.add
                    (E.b2 B2.mul
                      (E.b2 B2.add
                        (E.b2 B2.add
                          (E.b2 B2.add (E.fld 1 1 (Str.ofString "state")) (E.b2 B2.mul (E.c (PyData.int 2)) (E.v 3)))
                          (E.b1 B1.int (E.b2 B2.lt (E.v 2) (E.c (PyData.int 0)))))
                        (E.c (PyData.int 1)))
                      (E.c (PyData.int 1181783497276652981)))
                    (E.c (PyData.int 521288629))))
                (Ss.cons
                  (S.setF 1 1 (Str.ofString "state")
                    (E.b2 B2.mod (E.b1 B1.int (E.v 4)) (E.c (PyData.int 2305843009213693951))))
                  Ss.nil)) = T at tail ⊢
      simp [hw, pow18, getPl, dk]
      by_cases hb : 1000000000000000000 ≤ v
      · have la : ([PyData.int v] : List PyData).length + (deep.map PyData.int).length ≤ LIM := by simp; unfold LIM; omega
        obtain ⟨st', t1, t2, s', t3⟩ := tail (PyData.int v :: deep.map .int)
        refine ⟨_, .inl ?_, v :: deep, st', ⟨some (PyData.int i), some (PyData.int v), s', rfl⟩, by simp; omega, ⟨t1, t2⟩, h4⟩
        simp [hb, setFD, getPl, LIM, o_addL la, t3, dk]
      · obtain ⟨st', t1, t2, s', t3⟩ := tail (deep.map .int)
        refine ⟨_, .inl ?_, deep, st', ⟨some (PyData.int i), some (PyData.int v), s', rfl⟩, by omega, ⟨t1, t2⟩, h4⟩
        simp [hb, t3, dk])
    (ns.map .int) [some (.list (ns.map .int)), some (dk [] (3075 + ns.length)), none, none, none] ⟨[], _, none, none, none, rfl, by simpa using hl, by omega, fun d hd => by
      obtain ⟨i, _, rfl⟩ := List.mem_map.mp hd
      exact ⟨i, rfl⟩⟩
  simp only [dk, List.map_nil] at e
  rw [e]
  simp [mvD, dk]
  exact ⟨deep, st, ⟨rfl, rfl⟩, by simpa using ok.1, ok.2.1⟩

end Tx
namespace Tx
open PySem PySem.Spec PyProof.Rows L2 TV
theorem lcD_ok {vs : List Nat} {tg : Tg} {w : TV.Env → R (List D)} {body : TV.Env → R (Option D)} {ρ ρ1 ρ2 : TV.Env} {ds r : List D} (hw : w ρ = .ok ds ρ1) (hl : ds.length ≤ LIM) (h : lcF (lcT vs tg body) ds (wipeE ρ1 vs) = .ok r ρ2) : lcD vs tg w body ρ = .ok (.list r) (backE ρ1 ρ2 vs) := by
  unfold lcD
  rw [hw, R.bind_ok, if_pos hl, h]
  rfl
theorem eq_int (i j : Int) : eqD (.int i) (.int j) = some (decide (i = j)) := by
  by_cases h : i = j
  · subst h; rw [decide_eq_true rfl]; exact eqD_yes rfl (by simp [PyData.depth]) rfl
  · rw [decide_eq_false h]
    exact eqD_no rfl rfl (by simp [PyData.depth]) (by simp [PyData.depth]) (by simpa using h)
def LotOk (c : Int) (is : List Int) : Prop := is ≠ [] ∧ is.length ≤ c.toNat ∧ ∀ i ∈ is, 0 ≤ i ∧ i < c
theorem sub_of : ∀ {ds : List D} {os : List (Option D)}, os.length = ds.length → (∀ p ∈ ds.zip os, p.2 = none ∨ p.2 = some p.1) → (os.filterMap id).Sublist ds
  | [], [], _, _ => by simp
  | d :: ds, o :: os, hl, h => by
    have ih := sub_of (ds := ds) (os := os) (by simpa using hl) fun p hp => h p (by rw [List.zip_cons_cons]; exact List.mem_cons_of_mem _ hp)
    rcases h (d, o) (by rw [List.zip_cons_cons]; exact List.mem_cons_self) with e | e
    · have e : o = none := e
      subst e
      simpa using ih.cons d
    · have e : o = some d := e
      subst e
      simpa using ih
  | [], _ :: _, hl, _ => by simp at hl
  | _ :: _, [], hl, _ => by simp at hl
def rngI (c : Int) : List Int := (List.range c.toNat).map fun (i : Nat) => (i : Int)
theorem rngD_i (c : Int) : rngD 0 c = (rngI c).map .int := by unfold rngD rngI; simp
theorem lot_sem {Γ : Nat → Fn} (hd : DrawOk (Γ i__law_draw)) {deep : List Int} {st : Int} (ok : DkOk deep st) {c : Int} (c1 : 1 ≤ c) (c2 : c ≤ 1000) :
    ∃ is deep' st', f__law_lot.sem Γ [dk deep st, .int c] = .ok (.tuple (is.map .int)) [some (dk deep' st')] ∧ (LotOk c is ∧ is.Pairwise (· < ·)) ∧ DkOk deep' st' := by
  have step : ∀ d ∈ rngD 0 c, ∀ ρ, (∃ deep st, ρ = [some (dk deep st), some (.int c), none, none] ∧ DkOk deep st) → ∃ o ρ', lcT [3] (Tg.v 3) (ifD (evE Γ c0__law_lot) (evE Γ e0__law_lot)) d ρ = .ok o ρ' ∧ (∃ deep st, ρ' = [some (dk deep st), some (.int c), none, none] ∧ DkOk deep st) ∧ (o = none ∨ o = some d) := fun d hdm ρ ⟨deep, st, e, ok⟩ => by
    subst e
    obtain ⟨v, deep', st', e1, e2, e3, e4⟩ := hd ok 3 (by decide)
    by_cases hv : v = 0
    · exact ⟨some d, [some (dk deep' st'), some (.int c), none, none], by simp [c0__law_lot, e0__law_lot, lcT, bindT, ifD, callR, argD, outs, e1, eq_int, wipeE, hv], ⟨deep', st', rfl, e4⟩, .inr rfl⟩
    · exact ⟨none, [some (dk deep' st'), some (.int c), none, none], by simp [c0__law_lot, e0__law_lot, lcT, bindT, ifD, callR, argD, outs, e1, eq_int, wipeE, hv], ⟨deep', st', rfl, e4⟩, .inl rfl⟩
  obtain ⟨os, ρ', h1, ⟨deep', st', rfl, ok'⟩, h2, h3⟩ := lcF_inv _ (fun d o => o = none ∨ o = some d) (rngD 0 c) [some (dk deep st), some (.int c), none, none] step ⟨deep, st, rfl, ok⟩
  have sub := sub_of h2 h3
  rw [rngD_i] at sub
  obtain ⟨is, s1, s2⟩ := List.sublist_map_iff.mp sub
  have asc : is.Pairwise (· < ·) := by
    refine List.Pairwise.sublist s1 ?_
    unfold rngI
    rw [List.pairwise_map]
    exact List.pairwise_lt_range.imp fun {a b} h => by omega
  have s3 : is.length ≤ c.toNat := by
    have := s1.length_le
    unfold rngI at this
    simpa using this
  have s4 : ∀ i ∈ is, 0 ≤ i ∧ i < c := fun i hi => by
    have := s1.mem hi
    unfold rngI at this
    obtain ⟨n, hn, rfl⟩ := List.mem_map.mp this
    rw [List.mem_range] at hn
    omega
  rw [s2] at h1
  have hlc := lcD_ok (vs := [3]) (tg := Tg.v 3) (w := evW Γ (W.rng1 (E.v 1))) (body := ifD (evE Γ c0__law_lot) (evE Γ e0__law_lot)) (ρ := [some (dk deep st), some (.int c), none, none]) (ρ1 := [some (dk deep st), some (.int c), none, none]) (by simp [rng1K_i (n := c) (by unfold LIM; omega) (by unfold LIM; omega)]) (by rw [rngD_i]; simp [rngI]; omega) h1
  unfold Df.sem TV.run f__law_lot
  simp [Df.ios, iosOf, Sh.isM, hlc, backE]
  rw [eq_nil]
  by_cases hn : is = []
  · subst hn
    obtain ⟨v, deep2, st2, e1, e2, e3, e4⟩ := hd ok' c (by omega)
    simp [callR, argD, outs, e1, LIM]
    exact ⟨[v], deep2, st2, by simp, ⟨⟨by simp, by simp; omega, fun i hi => by simp at hi; omega⟩, by simp⟩, e4⟩
  · simp [hn]
    exact ⟨is, deep', st', ⟨rfl, rfl⟩, ⟨⟨hn, s3, s4⟩, asc⟩, ok'⟩

end Tx
namespace Tx
open PySem PySem.Spec PyProof.Rows L2 TV
structure Tab where
  words : List (List Int)
  vals : List Int
def Tab.d (t : Tab) : D := .tuple [.tuple (t.words.map tI), .tuple (t.vals.map .int)]
structure TabOk (cells : Nat) (t : Tab) : Prop where
  len : t.words.length = t.vals.length
  two : 2 ≤ t.words.length
  many : t.words.length ≤ 200
  c1 : 1 ≤ cells
  c3 : cells ≤ 3
  row : ∀ r ∈ t.words, r.length = cells ∧ ∀ i ∈ r, 0 ≤ i ∧ i < 200
theorem atD_at {ds : List D} {n : Nat} {d : D} (h : ds[n]? = some d) : atD ds (n : Int) = some d := by
  have hn := (List.getElem?_eq_some_iff.mp h).1
  have e : ixN ds.length (n : Int) = some n := by simp [ixN, hn]
  unfold atD atI
  rw [e]
  simpa using h
/-- a row's numbers at a lot -/
def look (row : List Int) (lot : List Int) : List Int := lot.map fun i => row.getD i.toNat 0
theorem shown_sem (Γ : Nat → Fn) {t : Tab} {cells : Nat} (ok : TabOk cells t) {lot : List Int} (hl : ∀ i ∈ lot, 0 ≤ i ∧ i < cells) (hn : lot.length ≤ 100) {s : Nat} {row : List Int} (hs : t.words[s]? = some row) :
    f__law_shown.sem Γ [t.d, tI lot, .int s] = .ok (tI (look row lot)) [] := by
  obtain ⟨rl, _⟩ := ok.row row (List.mem_of_getElem? hs)
  have hw : (t.words.map tI)[s]? = some (tI row) := by rw [List.getElem?_map, hs]; rfl
  have a1 := atD_at hw
  have a0 : atD [.tuple (t.words.map tI), .tuple (t.vals.map .int)] 0 = some (.tuple (t.words.map tI)) := rfl
  have m := lcF_map (ρ := [some t.d, some (tI lot), some (.int s), none]) (body := lcT [3] (Tg.v 3) (allD (evE Γ e0__law_shown))) (f := fun d => match d with
    | .int i => .int (row.getD i.toNat 0)
    | d => d) (lot.map .int) (fun d hd => by
      obtain ⟨i, hi, rfl⟩ := List.mem_map.mp hd
      obtain ⟨i0, i1⟩ := hl i hi
      obtain ⟨n, rfl⟩ := Int.eq_ofNat_of_zero_le i0
      have hr : (row.map PyData.int)[n]? = some (.int (row.getD n 0)) := by
        rw [List.getElem?_map, List.getD_eq_getElem?_getD, List.getElem?_eq_getElem (by omega)]; rfl
      have a2 := atD_at hr
      simp [e0__law_shown, lcT, bindT, allD, wipeE, Tab.d, a0, a1, tI, a2])
  have hlc := lcD_ok (vs := [3]) (tg := Tg.v 3) (w := evW Γ (W.seq (E.v 1))) (body := allD (evE Γ e0__law_shown)) (ρ := [some t.d, some (tI lot), some (.int s), none]) (ρ1 := [some t.d, some (tI lot), some (.int s), none]) (by simp [tI]) (by simp [LIM]; omega) m
  unfold Df.sem TV.run f__law_shown
  simp [Df.ios, iosOf, Sh.isM, hlc, backE]
  simp [tI, look]

end Tx
namespace Tx
open PySem PySem.Spec PyProof.Rows L2 TV
theorem leaf_pick {Γ : Nat → Fn} (hp : PickOk (Γ i__law_pick)) {deep : List Int} {st : Int} (ok : DkOk deep st) (is : List Int) (h : is ≠ []) (hl : is.length ≤ 1000) (x : D) (hx : x = .list (is.map .int) ∨ x = .tuple (is.map .int)) :
    ∃ i ∈ is, ∃ deep' st', Γ i__law_pick [dk deep st, x] = .ok (.int i) [some (dk deep' st')] ∧ DkOk deep' st' := by
  obtain ⟨y, hy, d', s', e, o⟩ := hp ok (is.map .int) (by simpa using h) (by simp; omega) x hx
  obtain ⟨i, hi, rfl⟩ := List.mem_map.mp hy
  exact ⟨i, hi, d', s', e, o⟩
/-- what a leaf is -/
inductive Leaf : D → Prop where
  | again : Leaf (.tuple [.str "again"])
  | tell (v : Int) (h : -1000000000000 ≤ v ∧ v ≤ 1000000000000) : Leaf (.tuple [.str "tell", .int v])
def ValsOk (t : Tab) : Prop := t.vals ≠ [] ∧ t.vals.length ≤ 1000 ∧ ∀ v ∈ t.vals, -1000000000000 ≤ v ∧ v ≤ 999999999999
@[simp] theorem o_max2 {i j : Int} : b2 .max2 (.int i) (.int j) = some (.int (if j > i then j else i)) := rfl
@[simp] theorem o_min2 {i j : Int} : b2 .min2 (.int i) (.int j) = some (.int (if j < i then j else i)) := rfl
theorem pow12 : b2 .pow (.int 10) (.int 12) = some (.int 1000000000000) := by rfl
theorem leaf_sem {Γ : Nat → Fn} (hd : DrawOk (Γ i__law_draw)) (hp : PickOk (Γ i__law_pick)) {deep : List Int} {st : Int} (ok : DkOk deep st) {t : Tab} (ht : ValsOk t) :
    ∃ x deep' st', f__law_leaf.sem Γ [dk deep st, t.d] = .ok x [some (dk deep' st')] ∧ Leaf x ∧ DkOk deep' st' := by
  obtain ⟨v, d1, s1, e1, _, _, ok1⟩ := hd ok 5 (by decide)
  obtain ⟨i, hi, d2, s2, e2, ok2⟩ := leaf_pick hp ok1 t.vals ht.1 ht.2.1 (.tuple (t.vals.map .int)) (.inr rfl)
  obtain ⟨j, hj, d3, s3, e3, ok3⟩ := leaf_pick hp ok2 [0, 0, 0, 0, 1, -1] (by simp) (by simp) _ (.inl rfl)
  have a0 : atD [.tuple (t.words.map tI), .tuple (t.vals.map .int)] 1 = some (.tuple (t.vals.map .int)) := rfl
  have hb := ht.2.2 i hi
  simp only [List.map_cons, List.map_nil] at e3
  have hj2 : j = 0 ∨ j = 1 ∨ j = -1 := by simp at hj; omega
  unfold Df.sem TV.run f__law_leaf
  by_cases hv : v = 0
  · simp [Df.ios, iosOf, Sh.isM, callR, argD, outs, e1, eq_int, hv, LIM]
    exact ⟨_, d1, s1, ⟨rfl, rfl⟩, .again, ok1⟩
  · simp [Df.ios, iosOf, Sh.isM, callR, argD, outs, e1, eq_int, hv, LIM, pow12, Tab.d, a0, e2, e3]
    exact ⟨_, d3, s3, ⟨rfl, rfl⟩, .tell _ (by split <;> omega), ok3⟩

end Tx
namespace Tx
open PySem PySem.Spec PyProof.Rows L2 TV
/-- signs of a table -/
def SgOk (g : List Int) : Prop := g ≠ [] ∧ g.length ≤ 1000 ∧ ∀ i ∈ g, 0 ≤ i ∧ i < 200
def RowOk (c : Nat) (r : List Int) : Prop := r.length = c ∧ ∀ i ∈ r, 0 ≤ i ∧ i < 200
theorem picks {Γ : Nat → Fn} (hp : PickOk (Γ i__law_pick)) {g : List Int} (hg : SgOk g) {a1 a3 a4 a5 a6 a7 a8 : Option D} : ∀ (ds : List D) {deep : List Int} {st : Int}, DkOk deep st →
    ∃ r deep' st', lcF (lcT [9] (Tg.v 9) (allD (evE Γ e0__law_table))) ds [some (dk deep st), a1, some (.list (g.map .int)), a3, a4, a5, a6, a7, a8, none] = .ok (r.map .int) [some (dk deep' st'), a1, some (.list (g.map .int)), a3, a4, a5, a6, a7, a8, none] ∧ RowOk ds.length r ∧ DkOk deep' st'
  | [], deep, st, ok => ⟨[], deep, st, rfl, ⟨rfl, by simp⟩, ok⟩
  | d :: ds, deep, st, ok => by
    obtain ⟨i, hi, d1, s1, e1, ok1⟩ := leaf_pick hp ok g hg.1 hg.2.1 _ (.inl rfl)
    obtain ⟨r, d2, s2, e2, h2, ok2⟩ := picks (a1 := a1) (a3 := a3) (a4 := a4) (a5 := a5) (a6 := a6) (a7 := a7) (a8 := a8) hp hg ds ok1
    refine ⟨i :: r, d2, s2, ?_, ⟨by simp [h2.1], fun j hj => ?_⟩, ok2⟩
    · have t : lcT [9] (Tg.v 9) (allD (evE Γ e0__law_table)) d [some (dk deep st), a1, some (.list (g.map .int)), a3, a4, a5, a6, a7, a8, none] = .ok (some (.int i)) [some (dk d1 s1), a1, some (.list (g.map .int)), a3, a4, a5, a6, a7, a8, none] := by
        simp [lcT, bindT, allD, wipeE, e0__law_table, callR, argD, outs, e1]
      simp [lcF, t, e2]
    · rcases List.mem_cons.mp hj with e | hj
      · subst e; exact hg.2.2 _ hi
      · exact h2.2 j hj
theorem row_sem {Γ : Nat → Fn} (hp : PickOk (Γ i__law_pick)) {g : List Int} (hg : SgOk g) {a1 a3 a4 a6 a7 a8 : Option D} {c : Nat} (hc : c ≤ 1000) {deep : List Int} {st : Int} (ok : DkOk deep st) :
    ∃ r deep' st', evE Γ e1__law_table [some (dk deep st), a1, some (.list (g.map .int)), a3, a4, some (.int (c : Int)), a6, a7, a8, none] = .ok (tI r) [some (dk deep' st'), a1, some (.list (g.map .int)), a3, a4, some (.int (c : Int)), a6, a7, a8, none] ∧ RowOk c r ∧ DkOk deep' st' := by
  obtain ⟨r, d', s', e, h, ok'⟩ := picks (a1 := a1) (a3 := a3) (a4 := a4) (a5 := some (.int (c : Int))) (a6 := a6) (a7 := a7) (a8 := a8) hp hg (rngD 0 c) ok
  have hlc := lcD_ok (vs := [9]) (tg := Tg.v 9) (w := evW Γ (W.rng1 (E.v 5))) (body := allD (evE Γ e0__law_table)) (ρ := [some (dk deep st), a1, some (.list (g.map .int)), a3, a4, some (.int (c : Int)), a6, a7, a8, none]) (ρ1 := [some (dk deep st), a1, some (.list (g.map .int)), a3, a4, some (.int (c : Int)), a6, a7, a8, none])
    (by simp [rng1K_i (n := (c : Int)) (by unfold LIM; omega) (by unfold LIM; omega)]) (by rw [rngD_len]; simp [LIM]; omega) e
  refine ⟨r, d', s', ?_, ?_, ok'⟩
  · unfold e1__law_table
    simp [hlc, backE, tI]
  · have : (rngD 0 (c : Int)).length = c := by rw [rngD_len]; simp
    rw [this] at h
    exact h

end Tx
namespace Tx
open PySem PySem.Spec PyProof.Rows L2 TV
theorem rows_sem {Γ : Nat → Fn} (hp : PickOk (Γ i__law_pick)) {g : List Int} (hg : SgOk g) {a1 a3 a6 a7 a8 : Option D} {c : Nat} (hc : c ≤ 1000) : ∀ (ds : List D) {deep : List Int} {st : Int}, DkOk deep st →
    ∃ (rs : List (List Int)) (deep' : List Int) (st' : Int), lcF (lcT [4] (Tg.v 4) (allD (evE Γ e1__law_table))) ds [some (dk deep st), a1, some (.list (g.map .int)), a3, none, some (.int (c : Int)), a6, a7, a8, none] = .ok (rs.map tI) [some (dk deep' st'), a1, some (.list (g.map .int)), a3, none, some (.int (c : Int)), a6, a7, a8, none] ∧ rs.length = ds.length ∧ (∀ r ∈ rs, RowOk c r) ∧ DkOk deep' st'
  | [], deep, st, ok => ⟨[], deep, st, rfl, rfl, by simp, ok⟩
  | d :: ds, deep, st, ok => by
    obtain ⟨r, d1, s1, e1, h1, ok1⟩ := row_sem (a1 := a1) (a3 := a3) (a4 := some d) (a6 := a6) (a7 := a7) (a8 := a8) hp hg hc ok
    obtain ⟨rs, d2, s2, e2, h2, h3, ok2⟩ := rows_sem (a1 := a1) (a3 := a3) (a6 := a6) (a7 := a7) (a8 := a8) hp hg hc ds ok1
    refine ⟨r :: rs, d2, s2, ?_, by simp [h2], fun x hx => ?_, ok2⟩
    · have t : lcT [4] (Tg.v 4) (allD (evE Γ e1__law_table)) d [some (dk deep st), a1, some (.list (g.map .int)), a3, none, some (.int (c : Int)), a6, a7, a8, none] = .ok (some (tI r)) [some (dk d1 s1), a1, some (.list (g.map .int)), a3, none, some (.int (c : Int)), a6, a7, a8, none] := by
        simp [lcT, bindT, allD, wipeE, e1]
      simp [lcF, t, e2]
    · rcases List.mem_cons.mp hx with e | hx
      · subst e; exact h1
      · exact h3 x hx

end Tx
namespace Tx
open PySem PySem.Spec PyProof.Rows L2 TV
theorem strOk_app {x y : Str} (h : PyData.strOk x = true) (h2 : PyData.strOk y = true) : PyData.strOk (x ++ y) = true := by
  have e : (x ++ y).cps = x.cps ++ y.cps := rfl
  unfold PyData.strOk at *
  rw [e, Array.all_append, h, h2]
  rfl
theorem strOk_of (s : String) : PyData.strOk (Str.ofString s) = true := by
  rw [Str.ofString_eq_toList]
  unfold PyData.strOk
  rw [List.all_toArray]
  rw [List.all_eq_true]
  intro c hc
  obtain ⟨ch, _, rfl⟩ := List.mem_map.mp hc
  have := ch.valid
  simp only [decide_eq_true_eq]
  unfold UInt32.isValidChar Nat.isValidChar at this
  show ch.val.toNat < 0x110000
  omega
/-! what can be told, with a bound -/
mutual
def tx : D → Bool
  | .none => true
  | .bool _ => true
  | .int i => decide (i.natAbs < 10 ^ 13)
  | .str x => decide ((reprText x).length ≤ 12) && PyData.strOk (reprText x)
  | .list xs => txs xs
  | .tuple xs => txs xs
  | .dict _ => false
def txs : List D → Bool
  | [] => true
  | x :: xs => tx x && txs xs
end
mutual
def sz : D → Nat
  | .none => 5
  | .bool _ => 5
  | .int _ => 14
  | .str _ => 12
  | .list xs => szs xs + 3
  | .tuple xs => szs xs + 3
  | .dict _ => 0
def szs : List D → Nat
  | [] => 0
  | x :: xs => sz x + 2 + szs xs
end
theorem strOk_from : ∀ (ts : List Str) (k : Nat) (acc : Str), PyData.strOk acc = true → (∀ t ∈ ts, PyData.strOk t = true) → PyData.strOk (textFrom k acc ts) = true
  | [], _, _, h, _ => h
  | t :: ts, k, acc, h, h2 => strOk_from ts (k + 1) _ (strOk_app (strOk_app h (strOk_of _)) (h2 t List.mem_cons_self)) fun u hu => h2 u (List.mem_cons_of_mem _ hu)
theorem strOk_join : ∀ (ts : List Str), (∀ t ∈ ts, PyData.strOk t = true) → PyData.strOk (Str.join ", " ts) = true
  | [], _ => by decide +kernel
  | [t], h => h t List.mem_cons_self
  | t :: u :: ts, h => strOk_app (strOk_app (h t List.mem_cons_self) (strOk_of _)) (strOk_join (u :: ts) fun v hv => h v (List.mem_cons_of_mem _ hv))
mutual
theorem tx_sz : ∀ d : D, tx d = true → d.shown.length ≤ sz d ∧ d.showable = true ∧ d.hasDict = false ∧ PyData.strOk d.shown = true
  | .none, _ => ⟨by decide, rfl, rfl, strOk_of _⟩
  | .bool b, _ => by cases b <;> exact ⟨by decide, rfl, rfl, strOk_of _⟩
  | .int i, h => by
    have h : i.natAbs < 10 ^ 13 := by simpa [tx] using h
    refine ⟨?_, ?_, rfl, strOk_of _⟩
    · have e := int_text_length_le10 (k := 13) (by decide) h
      show (Str.ofString (toString i)).length ≤ 14
      rw [PySem.ofString_length]; exact e
    · simp only [PyData.showable, decide_eq_true_eq]
      by_cases z : i.natAbs = 0
      · rw [z]; decide
      · rw [Nat.log2_lt z]
        exact Nat.lt_of_lt_of_le (Nat.lt_of_lt_of_le h (show 10 ^ 13 ≤ 2 ^ 44 by decide)) (Nat.pow_le_pow_right (by decide) (by decide))
  | .str x, h => by
    simp only [tx, Bool.and_eq_true, decide_eq_true_eq] at h
    exact ⟨h.1, rfl, rfl, h.2⟩
  | .list xs, h => by
    obtain ⟨h1, h2, h3, h4⟩ := txs_sz xs (by simpa only [tx] using h)
    refine ⟨?_, h2, h3, ?_⟩
    · have := listText_len_le (PyData.shownAll xs)
      have e := PyData.shownAll_length xs
      simp only [PyData.shown, sz]
      omega
    · exact strOk_app (strOk_from _ _ _ (strOk_of _) h4) (strOk_of _)
  | .tuple xs, h => by
    obtain ⟨h1, h2, h3, h4⟩ := txs_sz xs (by simpa only [tx] using h)
    refine ⟨?_, h2, h3, ?_⟩
    · have := tupleText_len_le (PyData.shownAll xs)
      have e := PyData.shownAll_length xs
      simp only [PyData.shown, sz]
      omega
    · exact strOk_app (strOk_app (strOk_of _) (strOk_join _ h4)) (strOk_of _)
theorem txs_sz : ∀ ds : List D, txs ds = true → ((PyData.shownAll ds).map (·.length)).sum + 2 * ds.length ≤ szs ds ∧ PyData.showableAll ds = true ∧ PyData.hasDictAll ds = false ∧ ∀ t ∈ PyData.shownAll ds, PyData.strOk t = true
  | [], _ => ⟨by simp [PyData.shownAll, szs], rfl, rfl, by simp [PyData.shownAll]⟩
  | x :: xs, h => by
    simp only [txs, Bool.and_eq_true] at h
    obtain ⟨h1, h2, h3, h4⟩ := tx_sz x h.1
    obtain ⟨g1, g2, g3, g4⟩ := txs_sz xs h.2
    refine ⟨?_, ?_, ?_, ?_⟩
    · simp only [PyData.shownAll, List.map_cons, List.sum_cons, List.length_cons, szs]
      omega
    · simp only [PyData.showableAll, h2, g2, Bool.and_self]
    · simp only [PyData.hasDictAll, h3, g3, Bool.or_self]
    · intro t ht
      simp only [PyData.shownAll, List.mem_cons] at ht
      rcases ht with rfl | ht
      · exact h4
      · exact g4 t ht
end
/-- a text of some data -/
structure TxOk (d : D) : Prop where
  tx : tx d = true
  dp : d.depth ≤ 64
  sz : sz d ≤ LIM
theorem o_repr {d : D} (h : TxOk d) : b1 .repr d = some (.str d.shown) := by
  obtain ⟨h1, h2, h3, h4⟩ := tx_sz d h.tx
  have h5 : d.shown.length ≤ LIM := Nat.le_trans h1 h.sz
  show (if d.showable && decide (d.depth ≤ 64) && !d.hasDict && decide (d.shown.length ≤ LIM) then some (PyData.str d.shown) else none) = _
  rw [h2, h3, decide_eq_true h.dp, decide_eq_true h5]
  rfl
theorem eq_shown {d : D} (h : TxOk d) : eqD (.str d.shown) (.str d.shown) = some true := eqD_yes (tx_sz d h.tx).2.2.2 (by simp [PyData.depth]) rfl
theorem depthAll_le {n : Nat} : ∀ {ds : List D}, (∀ d ∈ ds, d.depth ≤ n) → PyData.depthAll ds ≤ n
  | [], _ => by simp [PyData.depthAll]
  | d :: ds, h => by
    have h1 := h d List.mem_cons_self
    have h2 := depthAll_le (ds := ds) fun x hx => h x (List.mem_cons_of_mem _ hx)
    simp only [PyData.depthAll]
    omega
theorem pds_of : ∀ {ds : List D}, (∀ d ∈ ds, pd d = true) → pds ds = true
  | [], _ => rfl
  | d :: ds, h => by simp only [pds, h d List.mem_cons_self, pds_of (ds := ds) fun x hx => h x (List.mem_cons_of_mem _ hx), Bool.and_self]
theorem txs_of : ∀ {ds : List D}, (∀ d ∈ ds, tx d = true) → txs ds = true
  | [], _ => rfl
  | d :: ds, h => by simp only [txs, h d List.mem_cons_self, txs_of (ds := ds) fun x hx => h x (List.mem_cons_of_mem _ hx), Bool.and_self]
theorem szs_le {n : Nat} : ∀ {ds : List D}, (∀ d ∈ ds, sz d ≤ n) → szs ds ≤ (n + 2) * ds.length
  | [], _ => by simp [szs]
  | d :: ds, h => by
    have h1 := h d List.mem_cons_self
    have h2 := szs_le (ds := ds) fun x hx => h x (List.mem_cons_of_mem _ hx)
    simp only [szs, List.length_cons, Nat.mul_add, Nat.mul_one]
    omega
/-- small numbers in a row -/
theorem tI_tx {is : List Int} (h : ∀ i ∈ is, i.natAbs < 10 ^ 13) : tx (tI is) = true := by
  simp only [tI, tx]
  exact txs_of fun d hd => by
    obtain ⟨i, hi, rfl⟩ := List.mem_map.mp hd
    simp only [tx, decide_eq_true_eq]
    exact h i hi
theorem tI_sz (is : List Int) : sz (tI is) ≤ 16 * is.length + 3 := by
  have := szs_le (n := 14) (ds := is.map PyData.int) fun d hd => by
    obtain ⟨i, hi, rfl⟩ := List.mem_map.mp hd
    simp [sz]
  simp only [tI, sz]
  simp only [List.length_map] at this
  omega
theorem tI_pd (is : List Int) : pd (tI is) = true := by simp only [tI, pd]; exact pds_ints is
theorem tI_dp (is : List Int) : (tI is).depth = 1 := by simp only [tI, PyData.depth, depth_ints]
theorem map_int_inj : ∀ {a b : List Int}, a.map PyData.int = b.map PyData.int → a = b
  | [], [], _ => rfl
  | x :: xs, y :: ys, e => by
    simp only [List.map_cons, List.cons.injEq, PyData.int.injEq] at e
    rw [e.1, map_int_inj e.2]
  | [], _ :: _, e => by simp at e
  | _ :: _, [], e => by simp at e
theorem eq_tI (a b : List Int) : eqD (tI a) (tI b) = some (decide (a = b)) := by
  by_cases h : a = b
  · subst h; rw [decide_eq_true rfl]; exact eqD_yes (tI_pd a) (by rw [tI_dp]; decide) rfl
  · rw [decide_eq_false h]
    refine eqD_no (tI_pd a) (tI_pd b) (by rw [tI_dp]; decide) (by rw [tI_dp]; decide) fun e => h ?_
    simp only [tI, PyData.tuple.injEq] at e
    exact map_int_inj e
theorem lcF_fm {α : Type} {g : α → D} {f : α → Option D} {body : D → TV.Env → R (Option D)} {ρ : TV.Env} : ∀ xs : List α, (∀ x ∈ xs, body (g x) ρ = .ok (f x) ρ) → lcF body (xs.map g) ρ = .ok (xs.filterMap f) ρ
  | [], _ => rfl
  | x :: xs, h => by
    have ih := lcF_fm (g := g) (f := f) xs fun y hy => h y (List.mem_cons_of_mem _ hy)
    simp only [List.map_cons, lcF, h x List.mem_cons_self, R.bind_ok, ih, List.filterMap_cons]
    cases f x <;> rfl
theorem eq_nilD {ds : List D} (h : ∀ d ∈ ds, pd d = true ∧ d.depth ≤ 63) : eqD (.list ds) (.list []) = some (decide (ds = [])) := by
  by_cases e : ds = []
  · subst e; exact eqD_yes rfl (by simp [PyData.depth, PyData.depthAll]) rfl
  · rw [decide_eq_false e]
    have h1 := pds_of fun d hd => (h d hd).1
    have h2 := depthAll_le fun d hd => (h d hd).2
    exact eqD_no (by simpa only [pd] using h1) rfl (by simp only [PyData.depth]; omega) (by simp [PyData.depth, PyData.depthAll]) (by simpa using e)
@[simp] theorem asgK_t {ts : Tgs} {ds : List D} {ρ : TV.Env} : asgK (.t ts) (.tuple ds) ρ = Fl.of (bindTs ts ds ρ) := rfl
theorem o_lRng {n : Nat} (h : n ≤ LIM) : b1 .lRng (.int n) = some (.list (rngD 0 n)) := if_pos (by
  have h1 : ((n : Int) ≤ LIM) := by omega
  have h2 : (-LIM ≤ (n : Int)) := by unfold LIM; omega
  rw [decide_eq_true h1, decide_eq_true h2]; rfl)
@[simp] theorem o_lentI {is : List Int} : b1 .len (tI is) = some (.int is.length) := by
  show some (PyData.int ((is.map PyData.int).length : Nat)) = _
  rw [List.length_map]
def kwK' (f : Fn) (perm : List Nat) (ds : List D) : List D → TV.Env → R D := fun zs ρ => callR f (permA perm (ds ++ zs)) ρ
@[simp] theorem kwK'_e {f : Fn} {perm : List Nat} {ds zs : List D} {ρ : TV.Env} : kwK' f perm ds zs ρ = callR f (permA perm (ds ++ zs)) ρ := rfl
def kwK (f : Fn) (perm : List Nat) (B : TV.Env → R (List D)) : List D → TV.Env → R D := fun ds ρ => (B ρ).bind (kwK' f perm ds)
@[simp] theorem kwK_e {f : Fn} {perm : List Nat} {B : TV.Env → R (List D)} {ds : List D} {ρ : TV.Env} : kwK f perm B ds ρ = (B ρ).bind (kwK' f perm ds) := rfl
@[simp] theorem e_callK {Γ : Nat → Fn} {a : Option D} {as : TV.Env} {f : Nat} {perm : List Nat} {es ks : Es} : evE Γ (.callK f perm es ks) (a :: as) = (evEs Γ es (a :: as)).bind (kwK (Γ f) perm (evEs Γ ks)) := rfl

end Tx
namespace Tx
open PySem PySem.Spec PyProof.Rows L2 TV
abbrev VMono (t : Tab) : Prop := t.vals.Pairwise (· ≤ ·)
theorem vals_loop {Γ : Nat → Fn} (hp : PickOk (Γ i__law_pick)) {deep : List Int} {st : Int} (ok : DkOk deep st) {a1 a2 a3 a5 a6 : Option D} (n : Nat) (hn : n ≤ 200) (v : Int) (hv : -1000000000000 ≤ v ∧ v ≤ 7) {s4 s9 : Option D} :
    ∃ (vs : List Int) (deep' : List Int) (st' : Int) (v' : Int) (s4' : Option D), forF (forT (Tg.v 4) (exSs Γ b0__law_table)) (rngD 0 n) [some (dk deep st), a1, a2, a3, s4, a5, a6, some (.int v), some (.list []), s9] = .nx [some (dk deep' st'), a1, a2, a3, s4', a5, a6, some (.int v'), some (.list (vs.map .int)), s9] ∧ vs.length = n ∧ (∀ x ∈ vs, -1000000000000 ≤ x ∧ x ≤ 999999999999) ∧ DkOk deep' st' ∧ vs.Pairwise (· ≤ ·) := by
  obtain ⟨ρ, e, deep', st', v', s4', vs, rfl, ok', h1, _, h3, hp1, _⟩ := forF_inv (body := forT (Tg.v 4) (exSs Γ b0__law_table))
    (fun rest ρ => ∃ deep st v s4 vs, ρ = [some (dk deep st), a1, a2, a3, s4, a5, a6, some (.int v), some (.list (vs.map .int)), s9] ∧ DkOk deep st ∧ vs.length + rest.length = n ∧ (-1000000000000 ≤ v ∧ v ≤ 7 + 10 * (vs.length : Int)) ∧ (∀ x ∈ vs, -1000000000000 ≤ x ∧ x ≤ 999999999999) ∧ vs.Pairwise (· ≤ ·) ∧ ∀ x ∈ vs, x ≤ v)
    (fun d ds ρ ⟨deep, st, v, s4, vs, e, ok, h1, h2, h3, h5, h6⟩ => by
      subst e
      obtain ⟨i, hi, d1, s1, e1, ok1⟩ := leaf_pick hp ok [0, 1, 1, 2, 10] (by simp) (by simp) _ (.inl rfl)
      simp only [List.map_cons, List.map_nil] at e1
      have hi2 : 0 ≤ i ∧ i ≤ 10 := by simp at hi; omega
      simp only [List.length_cons] at h1
      have la : vs.length < LIM := by unfold LIM; omega
      refine ⟨_, .inl ?_, d1, s1, v + i, some d, vs ++ [v + i], rfl, ok1, by simp; omega, by simp; omega, fun x hx => ?_, ?_, fun x hx => ?_⟩
      · simp [b0__law_table, callR, argD, outs, e1, LIM, appD, getPl, setPl, la]
      · rcases List.mem_append.mp hx with hx | hx
        · exact h3 x hx
        · simp at hx; subst hx; omega
      · rw [List.pairwise_append]
        exact ⟨h5, by simp, fun x hx y hy => by simp at hy; subst hy; have := h6 x hx; omega⟩
      · rcases List.mem_append.mp hx with hx | hx
        · have := h6 x hx; omega
        · simp at hx; omega)
    (rngD 0 n) [some (dk deep st), a1, a2, a3, s4, a5, a6, some (.int v), some (.list []), s9] ⟨deep, st, v, s4, [], rfl, ok, by rw [rngD_len]; simp, by simp; omega, by simp, by simp, by simp⟩
  exact ⟨vs, deep', st', v', s4', e, by simpa using h1, h3, ok', hp1⟩
theorem sg_pick {Γ : Nat → Fn} (hp : PickOk (Γ i__law_pick)) {deep : List Int} {st : Int} (ok : DkOk deep st) :
    ∃ g deep' st', Γ i__law_pick [dk deep st, .list [.list [.int 0, .int 1], .list [.int 0, .int 1], .list [.int 0, .int 1, .int 2], .list [.int 0, .int 5, .int 199]]] = .ok (.list (g.map .int)) [some (dk deep' st')] ∧ SgOk g ∧ DkOk deep' st' := by
  obtain ⟨y, hy, d', s', e, o⟩ := hp ok [.list [.int 0, .int 1], .list [.int 0, .int 1], .list [.int 0, .int 1, .int 2], .list [.int 0, .int 5, .int 199]] (by simp) (by simp) _ (.inl rfl)
  simp only [List.mem_cons, List.not_mem_nil, or_false] at hy
  rcases hy with rfl | rfl | rfl | rfl
  · exact ⟨[0, 1], d', s', e, ⟨by simp, by simp, by simp⟩, o⟩
  · exact ⟨[0, 1], d', s', e, ⟨by simp, by simp, by simp⟩, o⟩
  · exact ⟨[0, 1, 2], d', s', e, ⟨by simp, by simp, by simp⟩, o⟩
  · exact ⟨[0, 5, 199], d', s', e, ⟨by simp, by simp, by simp⟩, o⟩
theorem table_sem {Γ : Nat → Fn} (hd : DrawOk (Γ i__law_draw)) (hp : PickOk (Γ i__law_pick)) {deep : List Int} {st : Int} (ok : DkOk deep st) {most : Int} (m1 : 2 ≤ most) (m2 : most ≤ 100) :
    ∃ t cells deep' st', f__law_table.sem Γ [dk deep st, .int most] = .ok (Tab.d t) [some (dk deep' st')] ∧ TabOk cells t ∧ ValsOk t ∧ t.words.length ≤ most.toNat ∧ DkOk deep' st' ∧ VMono t := by
  obtain ⟨c, hc, d1, s1, e1, ok1⟩ := leaf_pick hp ok [1, 2, 2, 2, 3] (by simp) (by simp) _ (.inl rfl)
  simp only [List.map_cons, List.map_nil] at e1
  have hc2 : c = 1 ∨ c = 2 ∨ c = 3 := by simp at hc; omega
  obtain ⟨cells, rfl⟩ : ∃ cells : Nat, c = cells := ⟨c.toNat, by omega⟩
  obtain ⟨w, d2, s2, e2, w0, w1, ok2⟩ := hd ok1 (most - 1) (by omega)
  obtain ⟨n, hn⟩ : ∃ n : Nat, 2 + w = n := ⟨(2 + w).toNat, by omega⟩
  have hn2 : 2 ≤ n ∧ (n : Int) ≤ most := by omega
  obtain ⟨g, d3, s3, e3, hg, ok3⟩ := sg_pick hp ok2
  obtain ⟨rs, d4, s4, e4, l4, r4, ok4⟩ := rows_sem (a1 := some (.int most)) (a3 := none) (a6 := some (.int n)) (a7 := none) (a8 := none) hp hg (c := cells) (by omega) (rngD 0 n) ok3
  have l4 : rs.length = n := by rw [l4, rngD_len]; simp
  have hlc := lcD_ok (vs := [4]) (tg := Tg.v 4) (w := evW Γ (W.rng1 (E.v 6))) (body := allD (evE Γ e1__law_table)) (ρ := [some (dk d3 s3), some (.int most), some (.list (g.map .int)), none, none, some (.int cells), some (.int n), none, none, none]) (ρ1 := [some (dk d3 s3), some (.int most), some (.list (g.map .int)), none, none, some (.int cells), some (.int n), none, none, none])
    (by simp [rng1K_i (n := (n : Int)) (by unfold LIM; omega) (by unfold LIM; omega)]) (by rw [rngD_len]; simp [LIM]; omega) e4
  obtain ⟨x, d5, s5, e5, _, _, ok5⟩ := hd ok4 3 (by decide)
  have tok : ∀ vs : List Int, vs.length = n → TabOk cells ⟨rs, vs⟩ := fun vs hv => ⟨by simp [l4, hv], by show 2 ≤ rs.length; omega, by show rs.length ≤ 200; omega, by omega, by omega, fun r hr => r4 r hr⟩
  have lr : rngD 0 n = ((List.range n).map fun i : Nat => (i : Int)).map PyData.int := by
    have := rngD_i (n : Int)
    unfold rngI at this
    simpa using this
  unfold Df.sem TV.run f__law_table
  by_cases hx : x = 0
  · simp [Df.ios, iosOf, Sh.isM, callR, argD, outs, e1, e2, hn, e3, hlc, backE, e5, eq_int, hx, LIM, bindT, bindTs, o_lRng (n := n) (by unfold LIM; omega)]
    refine ⟨⟨rs, (List.range n).map fun i : Nat => (i : Int)⟩, cells, d5, s5, ⟨by rw [lr]; rfl, rfl⟩, tok _ (by simp), ⟨by simp; omega, by simp; omega, fun v hv => ?_⟩, by show rs.length ≤ _; omega, ok5, ?_⟩
    · simp at hv
      obtain ⟨a, ha, rfl⟩ := hv
      omega
    · show List.Pairwise _ (List.map _ _)
      rw [List.pairwise_map]
      exact List.pairwise_lt_range.imp fun {a b} h => by omega
  · obtain ⟨v, hv, d6, s6, e6, ok6⟩ := leaf_pick hp ok5 [0, -3, 7, -1000000000000] (by simp) (by simp) _ (.inl rfl)
    simp only [List.map_cons, List.map_nil] at e6
    have hv2 : -1000000000000 ≤ v ∧ v ≤ 7 := by simp at hv; omega
    obtain ⟨vs, d7, s7, v', s4', e7, l7, b7, ok7, m7⟩ := vals_loop (a1 := some (.int most)) (a2 := some (.list (g.map .int))) (a3 := some (.tuple (rs.map tI))) (a5 := some (.int cells)) (a6 := some (.int n)) (s4 := none) (s9 := none) hp ok6 n (by omega) v hv2
    simp [Df.ios, iosOf, Sh.isM, callR, argD, outs, e1, e2, hn, e3, hlc, backE, e5, eq_int, hx, LIM, bindT, bindTs, pow12, e6, TV.bindL, rng1K_i (n := (n : Int)) (by unfold LIM; omega) (by unfold LIM; omega), e7]
    exact ⟨⟨rs, vs⟩, cells, d7, s7, ⟨rfl, rfl⟩, tok _ l7, ⟨fun h => by simp at h; subst h; simp at l7; omega, by show vs.length ≤ _; omega, b7⟩, by show rs.length ≤ _; omega, ok7, m7⟩

end Tx
namespace Tx
open PySem PySem.Spec PyProof.Rows L2 TV
theorem run_ret {Γ : Nat → Fn} {n : Nat} {ios : List Nat} {f : Bool} {body : Ss} {ds : List D} {d : D} {ρ : TV.Env} (h : exSs Γ body (ds.map some ++ List.replicate (n - ds.length) none) = .ret d ρ) : TV.run Γ n ios f body ds = .ok d (ios.map (gv ρ)) := by
  unfold TV.run; rw [h]
def Sdr : Ss → Nat → Ss
  | ss, 0 => ss
  | .nil, _ => .nil
  | .cons _ ss, n + 1 => Sdr ss n
def again : D := .tuple [.str "again"]
def pairD (p : List Int × D) : D := .tuple [tI p.1, p.2]
def mkLook (lot : List Int) (ps : List (List Int × D)) : D := .tuple [.str "look", tI lot, .tuple (ps.map pairD)]
/-- a sight of so many cells -/
def SiOk (n : Nat) (s : List Int) : Prop := s.length = n ∧ ∀ i ∈ s, 0 ≤ i ∧ i < 200
/-- a node of at most so many looks one behind another -/
def Nd (c : Nat) : Nat → D → Prop
  | 0, x => Leaf x
  | k + 1, x => Leaf x ∨ ∃ lot ps, LotOk c lot ∧ ps.length ≤ 4 ∧ (∀ p ∈ ps, SiOk lot.length p.1 ∧ Nd c k p.2) ∧ x = mkLook lot ps
/-- a look whose branches are such nodes -/
def Lk (c k : Nat) (x : D) : Prop := ∃ lot ps, LotOk c lot ∧ ps.length ≤ 4 ∧ (∀ p ∈ ps, SiOk lot.length p.1 ∧ Nd c k p.2) ∧ x = mkLook lot ps
/-- a row ahead of another one -/
def Lx (a b : List Int) : Prop := lexLtI a b = true
/-- the cells of each look rise, and its sights -/
def Uq : Nat → D → Prop
  | 0, _ => True
  | k + 1, x => ∀ lot ps, x = mkLook lot ps → (lot.Pairwise (· < ·) ∧ (ps.map (·.1)).Pairwise Lx) ∧ ∀ p ∈ ps, Uq k p.2
theorem tI_inj {a b : List Int} (h : tI a = tI b) : a = b := by
  unfold tI at h
  exact map_int_inj (PyData.tuple.inj h)
theorem pairs_inj : ∀ {ps qs : List (List Int × D)}, ps.map pairD = qs.map pairD → ps = qs
  | [], [], _ => rfl
  | [], _ :: _, h => by simp at h
  | _ :: _, [], h => by simp at h
  | (a, x) :: ps, (b, y) :: qs, h => by
    simp only [List.map_cons, List.cons.injEq, pairD, PyData.tuple.injEq, and_true] at h
    obtain ⟨⟨h1, h2⟩, h3⟩ := h
    rw [tI_inj h1, h2, pairs_inj h3]
theorem mkLook_inj {l m : List Int} {ps qs : List (List Int × D)} (h : mkLook l ps = mkLook m qs) : l = m ∧ ps = qs := by
  simp only [mkLook, PyData.tuple.injEq, List.cons.injEq, and_true, true_and] at h
  exact ⟨tI_inj h.1, pairs_inj h.2⟩
theorem Uq.look {k : Nat} {lot : List Int} {ps : List (List Int × D)} (h1 : lot.Pairwise (· < ·) ∧ (ps.map (·.1)).Pairwise Lx) (h2 : ∀ p ∈ ps, Uq k p.2) : Uq (k + 1) (mkLook lot ps) := fun l qs e => by
  obtain ⟨rfl, rfl⟩ := mkLook_inj e
  exact ⟨h1, h2⟩
theorem Uq.leaf {k : Nat} {x : D} (h : Leaf x) : Uq k x := by
  cases k with
  | zero => trivial
  | succ k =>
    intro l ps e
    subst e
    exfalso
    generalize hy : mkLook l ps = y at h
    cases h <;> simp [mkLook, again] at hy
theorem Lk.nd {c k : Nat} {x : D} (h : Lk c k x) : Nd c (k + 1) x := .inr h
theorem Nd.up {c : Nat} : ∀ {k : Nat} {x : D}, Nd c k x → Nd c (k + 1) x
  | 0, _, h => .inl h
  | k + 1, _, .inl h => .inl h
  | k + 1, _, .inr ⟨lot, ps, h1, h2, h3, h4⟩ => .inr ⟨lot, ps, h1, h2, fun p hp => ⟨(h3 p hp).1, (h3 p hp).2.up⟩, h4⟩
theorem Lk.up {c k : Nat} {x : D} (h : Lk c k x) : Lk c (k + 1) x := by
  obtain ⟨lot, ps, h1, h2, h3, h4⟩ := h
  exact ⟨lot, ps, h1, h2, fun p hp => ⟨(h3 p hp).1, (h3 p hp).2.up⟩, h4⟩
/-! sets of tuples -/
theorem mem_insT {x y : List Int} : ∀ {ys : List (List Int)}, y ∈ insT x ys → y = x ∨ y ∈ ys
  | [], h => by simp [insT] at h; exact .inl h
  | z :: zs, h => by
    unfold insT at h
    split at h
    · exact .inr h
    · split at h
      · rcases List.mem_cons.mp h with e | h
        · exact .inl e
        · exact .inr h
      · rcases List.mem_cons.mp h with e | h
        · exact .inr (e ▸ List.mem_cons_self)
        · exact (mem_insT h).imp_right (List.mem_cons_of_mem _)
theorem mem_setT {y : List Int} : ∀ {xs : List (List Int)}, y ∈ setT xs → y ∈ xs
  | [], h => by simp [setT] at h
  | x :: xs, h => by
    rcases mem_insT h with e | h
    · exact e ▸ List.mem_cons_self
    · exact List.mem_cons_of_mem _ (mem_setT h)
theorem len_insT {x : List Int} : ∀ {ys : List (List Int)}, (insT x ys).length ≤ ys.length + 1
  | [] => by simp [insT]
  | z :: zs => by
    unfold insT
    split
    · simp
    · split
      · simp
      · have := len_insT (x := x) (ys := zs)
        simp; omega
theorem len_setT : ∀ {xs : List (List Int)}, (setT xs).length ≤ xs.length
  | [] => by simp [setT]
  | x :: xs => by
    have h1 := len_insT (x := x) (ys := setT xs)
    have h2 := len_setT (xs := xs)
    simp [setT]; omega
theorem lx_code : ∀ {x y : List Int}, x.length = y.length → TS.Bd SB x → TS.Bd SB y → TS.code SB x < TS.code SB y → lexLtI x y = true
  | [], [], _, _, _, h => by simp [TS.code] at h
  | [], _ :: _, hl, _, _, _ => by simp at hl
  | _ :: _, [], hl, _, _, _ => by simp at hl
  | a :: x, b :: y, hl, hx, hy, h => by
    have hl2 : x.length = y.length := by simpa using hl
    have e1 : TS.code SB (a :: x) = a * SB ^ x.length + TS.code SB x := rfl
    have e2 : TS.code SB (b :: y) = b * SB ^ y.length + TS.code SB y := rfl
    rw [lexLtI]
    split
    · rename_i hab
      subst hab
      rw [e1, e2, hl2] at h
      exact lx_code hl2 hx.tail hy.tail (by omega)
    · rename_i hab
      rw [decide_eq_true_eq]
      rcases Int.lt_trichotomy a b with z | z | z
      · exact z
      · exact absurd z hab
      · have := TS.code_lt hl2.symm hy.tail hx.tail z
        omega
theorem nodup_setT {n : Nat} {xs : List (List Int)} (h : ∀ x ∈ xs, SiOk n x) : (setT xs).Pairwise Lx := by
  have bd : ∀ y ∈ xs, y.length = n ∧ TS.Bd SB y := fun y hy => ⟨(h y hy).1, fun m hm => by
    obtain ⟨h1, h2⟩ := (h y hy).2 m hm
    exact ⟨h1, by unfold SB; omega⟩⟩
  have := setT_rise (d := n) (xs := xs) bd
  refine List.Pairwise.imp_of_mem ?_ this
  intro a b ha hb hlt
  obtain ⟨a1, a2⟩ := bd a (mem_setT ha)
  obtain ⟨b1, b2⟩ := bd b (mem_setT hb)
  exact lx_code (a1.trans b1.symm) a2 b2 hlt
theorem intsD_i : ∀ is : List Int, intsD (is.map .int) = some is
  | [] => rfl
  | i :: is => by simp [intsD, intsD_i is]
theorem intssD_t : ∀ xs : List (List Int), intssD (xs.map tI) = some xs
  | [] => rfl
  | x :: xs => by simp [intssD, tI, intsD_i]; exact intssD_t xs
/-- sorted(set(..)) of some sights -/
theorem o_setT {n : Nat} {xs : List (List Int)} (hn : 1 ≤ n) (h : ∀ x ∈ xs, SiOk n x) (hl : xs.length < 64) : b1 .setT (.list (xs.map tI)) = some (.list ((setT xs).map tI)) := by
  have e : okT (hdL xs) xs = true := by
    have hh : hdL xs = n ∨ xs = [] := by
      cases xs with
      | nil => exact .inr rfl
      | cons x xs => exact .inl (h x List.mem_cons_self).1
    unfold okT
    rcases hh with e | e
    · rw [e, decide_eq_true hn, Bool.true_and, List.all_eq_true]
      intro x hx
      obtain ⟨h1, h2⟩ := h x hx
      rw [decide_eq_true h1, Bool.true_and, List.all_eq_true]
      intro i hi
      obtain ⟨h3, h4⟩ := h2 i hi
      have h5 : i < SB := by unfold SB; omega
      rw [decide_eq_true h3, decide_eq_true h5]
      rfl
    · subst e; rfl
  show (match intssD (xs.map tI) with
    | some ys => if (xs.map tI).length < 64 && okT (hdL ys) ys then some (PyData.list ((setT ys).map tI)) else none
    | none => none) = _
  rw [intssD_t]
  show (if (xs.map tI).length < 64 && okT (hdL xs) xs then some (PyData.list ((setT xs).map tI)) else none) = _
  rw [e, List.length_map, decide_eq_true hl]
  rfl
theorem o_mulT {x : D} {n : Nat} (h : n ≤ LIM) : b2 .mul (.tuple [x]) (.int n) = some (.tuple (List.replicate n x)) := by
  show (if ![x].isEmpty && decide (-LIM ≤ (n : Int)) && decide ([x].length * (n : Int).toNat ≤ LIM) && decide ((n : Int) ≤ LIM) then some (PyData.tuple (List.replicate (n : Int).toNat [x]).flatten) else none) = _
  have e1 : (-LIM ≤ (n : Int)) := by unfold LIM; omega
  have e2 : [x].length * (n : Int).toNat ≤ LIM := by simpa using h
  have e3 : (n : Int) ≤ LIM := by omega
  rw [decide_eq_true e1, decide_eq_true e2, decide_eq_true e3]
  have e4 : (List.replicate n [x]).flatten = List.replicate n x := by
    induction n with
    | zero => rfl
    | succ n ih => simp [List.replicate_succ] at ih ⊢
  simpa using e4
def LotFn (F : Fn) : Prop := ∀ {deep : List Int} {st : Int}, DkOk deep st → ∀ {c : Int}, 1 ≤ c → c ≤ 1000 → ∃ is deep' st', F [dk deep st, .int c] = .ok (.tuple (is.map .int)) [some (dk deep' st')] ∧ (LotOk c is ∧ is.Pairwise (· < ·)) ∧ DkOk deep' st'
def ShownFn (F : Fn) : Prop := ∀ {t : Tab} {cells : Nat}, TabOk cells t → ∀ {lot : List Int}, (∀ i ∈ lot, 0 ≤ i ∧ i < cells) → lot.length ≤ 100 → ∀ {s : Nat} {row : List Int}, t.words[s]? = some row → F [t.d, tI lot, .int s] = .ok (tI (look row lot)) []
def LeafFn (F : Fn) : Prop := ∀ {deep : List Int} {st : Int}, DkOk deep st → ∀ {t : Tab}, ValsOk t → ∃ x deep' st', F [dk deep st, t.d] = .ok x [some (dk deep' st')] ∧ Leaf x ∧ DkOk deep' st'
def NodeFn (m : Nat) (F : Fn) : Prop := ∀ {deep : List Int} {st : Int}, DkOk deep st → ∀ {t : Tab} {cells : Nat}, TabOk cells t → ValsOk t → t.words.length ≤ 60 → ∀ depth : Int, depth ≤ m + 1 → ∃ x deep' st', F [dk deep st, t.d, .int depth] = .ok x [some (dk deep' st')] ∧ (Lk cells m x ∧ Uq (m + 1) x) ∧ DkOk deep' st'
theorem look_ok {cells : Nat} {t : Tab} (ok : TabOk cells t) {lot : List Int} (hl : ∀ i ∈ lot, 0 ≤ i ∧ i < (cells : Int)) {row : List Int} (hr : row ∈ t.words) : SiOk lot.length (look row lot) := by
  refine ⟨by simp [look], fun i hi => ?_⟩
  obtain ⟨j, hj, rfl⟩ := List.mem_map.mp hi
  obtain ⟨h1, h2⟩ := hl j hj
  obtain ⟨h3, h4⟩ := ok.row row hr
  have h5 : j.toNat < row.length := by omega
  rw [List.getD_eq_getElem?_getD, List.getElem?_eq_getElem h5]
  exact h4 _ (List.getElem_mem h5)
theorem node_loop {Γ : Nat → Fn} (hd : DrawOk (Γ i__law_draw)) (hf : LeafFn (Γ i__law_leaf)) {m : Nat} (rec : ∀ m', m = m' + 1 → NodeFn m' (Γ i__law_node)) {t : Tab} {cells : Nat} (tok : TabOk cells t) (vok : ValsOk t) (t60 : t.words.length ≤ 60) {depth : Int} (hdep : depth ≤ m + 1) {n : Nat} {a3 a4 a8 : Option D}
    {S : List (List Int)} (hS : ∀ s ∈ S, SiOk n s) (Sn : S.Pairwise Lx) (S4 : S.length ≤ 4) {deep : List Int} {st : Int} (ok : DkOk deep st) {a6 a7 : Option D} :
    ∃ (ps : List (List Int × D)) (deep' : List Int) (st' : Int) (a6' a7' : Option D), forF (forT (Tg.v 6) (exSs Γ b0__law_node)) (S.map tI) [some (dk deep st), some t.d, some (.int depth), a3, a4, some (.list []), a6, a7, a8] = .nx [some (dk deep' st'), some t.d, some (.int depth), a3, a4, some (.list (ps.map pairD)), a6', a7', a8] ∧ ps.length ≤ S.length ∧ (∀ p ∈ ps, SiOk n p.1 ∧ Nd cells m p.2) ∧ ((ps.map (·.1)).Pairwise Lx ∧ ∀ p ∈ ps, Uq m p.2) ∧ DkOk deep' st' := by
  obtain ⟨ρ, e, deep', st', a6', a7', ps, rfl, ok', h1, h2, _, ⟨R0, _, hn0⟩, hu0⟩ := forF_inv (body := forT (Tg.v 6) (exSs Γ b0__law_node))
    (fun rest ρ => ∃ deep st a6 a7 ps, ρ = [some (dk deep st), some t.d, some (.int depth), a3, a4, some (.list (ps.map pairD)), a6, a7, a8] ∧ DkOk deep st ∧ ps.length + rest.length ≤ S.length ∧ (∀ p ∈ ps, SiOk n p.1 ∧ Nd cells m p.2) ∧ (∀ d ∈ rest, ∃ s, d = tI s ∧ SiOk n s) ∧ (∃ R : List (List Int), rest = R.map tI ∧ (ps.map (·.1) ++ R).Pairwise Lx) ∧ ∀ p ∈ ps, Uq m p.2)
    (fun d ds ρ ⟨deep, st, a6, a7, ps, e, ok, h1, h2, h3, ⟨R, hR, hn⟩, hu⟩ => by
      subst e
      obtain ⟨s, rfl, hs⟩ := h3 d List.mem_cons_self
      obtain ⟨R, rfl, hn1, hn2⟩ : ∃ R' : List (List Int), ds = R'.map tI ∧ (ps.map (·.1) ++ R').Pairwise Lx ∧ (ps.map (·.1) ++ s :: R').Pairwise Lx := by
        cases R with
        | nil => simp at hR
        | cons s' R' =>
          simp only [List.map_cons, List.cons.injEq] at hR
          obtain ⟨e1, e2⟩ := hR
          obtain rfl := tI_inj e1
          exact ⟨R', e2, List.Pairwise.sublist (List.Sublist.append_left (List.sublist_cons_self _ _) _) hn, hn⟩
      have h1 : ps.length + (R.length + 1) ≤ S.length := by
        rw [List.length_cons, List.length_map] at h1
        exact h1
      have h4 : ∀ d ∈ R.map tI, ∃ s, d = tI s ∧ SiOk n s := fun d hd => h3 d (List.mem_cons_of_mem _ hd)
      obtain ⟨v, d1, s1, e1, v0, _, ok1⟩ := hd ok 7 (by decide)
      by_cases hv : 0 < v
      · obtain ⟨w, d2, s2, e2, _, _, ok2⟩ := hd ok1 3 (by decide)
        have pl : ps.length < LIM := by
          unfold LIM; omega
        have fin : ∀ (x : D) (d' : List Int) (s' : Int) (b7 : Option D), Nd cells m x → Uq m x → DkOk d' s' → ∃ (deep : List Int) (st : Int) (a6 a7 : Option D) (ps' : List (List Int × D)), [some (dk d' s'), some t.d, some (PyData.int depth), a3, a4, some (.list (ps.map pairD ++ [.tuple [tI s, x]])), some (tI s), b7, a8] = [some (dk deep st), some t.d, some (.int depth), a3, a4, some (.list (ps'.map pairD)), a6, a7, a8] ∧ DkOk deep st ∧ ps'.length + (R.map tI).length ≤ S.length ∧ (∀ p ∈ ps', SiOk n p.1 ∧ Nd cells m p.2) ∧ (∀ d ∈ R.map tI, ∃ s, d = tI s ∧ SiOk n s) ∧ (∃ R2 : List (List Int), R.map tI = R2.map tI ∧ (ps'.map (·.1) ++ R2).Pairwise Lx) ∧ ∀ p ∈ ps', Uq m p.2 := fun x d' s' b7 hx ux ok' =>
          ⟨d', s', some (tI s), b7, ps ++ [(s, x)], by simp [pairD], ok', by rw [List.length_append, List.length_map]; simp only [List.length_cons, List.length_nil]; omega, fun p hp => by
            rcases List.mem_append.mp hp with hp | hp
            · exact h2 p hp
            · simp at hp; subst hp; exact ⟨hs, hx⟩, h4, ⟨R, rfl, by simpa using hn2⟩, fun p hp => by
            rcases List.mem_append.mp hp with hp | hp
            · exact hu p hp
            · simp at hp; subst hp; exact ux⟩
        have up : ∀ x, Leaf x → Nd cells m x := fun x hx => by
          cases m with
          | zero => exact hx
          | succ m => exact .inl hx
        by_cases hdp : depth < 2
        · obtain ⟨x, d3, s3, e3, hx, ok3⟩ := hf ok1 vok
          refine ⟨_, .inl ?_, fin x d3 s3 (some (.bool true)) (up x hx) (.leaf hx) ok3⟩
          simp [b0__law_node, callR, argD, outs, e1, hv, hdp, e3, LIM, appD, getPl, setPl, pl]
        · by_cases hw : w = 0
          · obtain ⟨x, d3, s3, e3, hx, ok3⟩ := hf ok2 vok
            refine ⟨_, .inl ?_, fin x d3 s3 (some (.bool true)) (up x hx) (.leaf hx) ok3⟩
            simp [b0__law_node, callR, argD, outs, e1, hv, hdp, e2, eq_int, hw, e3, LIM, appD, getPl, setPl, pl]
          · obtain ⟨m', rfl⟩ : ∃ m', m = m' + 1 := ⟨m - 1, by omega⟩
            obtain ⟨x, d3, s3, e3, hx, ok3⟩ := rec m' rfl ok2 tok vok t60 (depth - 1) (by omega)
            refine ⟨_, .inl ?_, fin x d3 s3 (some (.bool false)) hx.1.nd hx.2 ok3⟩
            simp [b0__law_node, callR, argD, outs, e1, hv, hdp, e2, eq_int, hw, e3, LIM, appD, getPl, setPl, pl]
      · refine ⟨_, .inl ?_, d1, s1, some (tI s), a7, ps, rfl, ok1, by rw [List.length_map]; omega, h2, h4, ⟨R, rfl, hn1⟩, hu⟩
        simp [b0__law_node, callR, argD, outs, e1, hv])
    (S.map tI) [some (dk deep st), some t.d, some (.int depth), a3, a4, some (.list []), a6, a7, a8] ⟨deep, st, a6, a7, [], rfl, ok, by simp, by simp, fun d hd => by
      obtain ⟨s, hs, rfl⟩ := List.mem_map.mp hd
      exact ⟨s, rfl, hS s hs⟩, ⟨S, rfl, by simpa using Sn⟩, fun p hp => by cases hp⟩
  exact ⟨ps, deep', st', a6', a7', e, by simpa using h1, h2, ⟨(List.pairwise_append.mp hn0).1, hu0⟩, ok'⟩

end Tx
namespace Tx
open PySem PySem.Spec PyProof.Rows L2 TV
theorem node_tail {Γ : Nat → Fn} (hd : DrawOk (Γ i__law_draw)) (hf : LeafFn (Γ i__law_leaf)) {m : Nat} (rec : ∀ m', m = m' + 1 → NodeFn m' (Γ i__law_node)) {t : Tab} {cells : Nat} (tok : TabOk cells t) (vok : ValsOk t) (t60 : t.words.length ≤ 60) {depth : Int} (hdep : depth ≤ m + 1) {lot : List Int} (hlot : LotOk cells lot) (hasc : lot.Pairwise (· < ·))
    {S : List (List Int)} (hS : ∀ s ∈ S, SiOk lot.length s) (Sn : S.Pairwise Lx) (S4 : S.length ≤ 4) {deep : List Int} {st : Int} (ok : DkOk deep st) :
    ∃ x deep' st' ρ', exSs Γ (Sdr f__law_node.body 3) [some (dk deep st), some t.d, some (.int depth), some (tI lot), some (.list (S.map tI)), none, none, none, none] = .ret x (some (dk deep' st') :: ρ') ∧ (Lk cells m x ∧ Uq (m + 1) x) ∧ DkOk deep' st' := by
  obtain ⟨ps, d1, s1, a6, a7, e, p1, p2, ⟨u1, u2⟩, ok1⟩ := node_loop (n := lot.length) (a3 := some (tI lot)) (a4 := some (.list (S.map tI))) (a8 := none) (a6 := none) (a7 := none) hd hf rec tok vok t60 hdep hS Sn S4 ok
  refine ⟨mkLook lot ps, d1, s1, [some t.d, some (.int depth), some (tI lot), some (.list (S.map tI)), some (.list (ps.map pairD)), a6, a7, none], ?_, ⟨⟨lot, ps, hlot, by omega, p2, rfl⟩, .look ⟨hasc, u1⟩ u2⟩, ok1⟩
  simp [Sdr, f__law_node, LIM, e]
  rfl
theorem node_sem {Γ : Nat → Fn} (hd : DrawOk (Γ i__law_draw)) (hp : PickOk (Γ i__law_pick)) (hl : LotFn (Γ i__law_lot)) (hs : ShownFn (Γ i__law_shown)) (hf : LeafFn (Γ i__law_leaf)) (m : Nat) (rec : ∀ m', m = m' + 1 → NodeFn m' (Γ i__law_node)) : NodeFn m (f__law_node.sem Γ) := fun {deep st} ok {t cells} tok vok t60 depth hdep => by
  have c1 := tok.c1
  have c3 := tok.c3
  have t2 := tok.two
  obtain ⟨lot, d1, s1, e1, ⟨hlot, hasc⟩, ok1⟩ := hl ok (c := cells) (by omega) (by omega)
  have l100 : lot.length ≤ 100 := by have := hlot.2.1; omega
  have l1 : 1 ≤ lot.length := List.length_pos_iff.mpr hlot.1
  have hw0 : (t.words.map tI)[0]? = some (tI t.words[0]) := by rw [List.getElem?_map, List.getElem?_eq_getElem (by omega)]; rfl
  have a0 : atD [.tuple (t.words.map tI), .tuple (t.vals.map .int)] 0 = some (.tuple (t.words.map tI)) := rfl
  have a00 := atD_at hw0
  have rl : t.words[0].length = cells := (tok.row _ (List.getElem_mem (by omega))).1
  have m0 := lcF_fm (ρ := [some (dk d1 s1), some t.d, some (.int depth), some (tI lot), none, none, none, none, none]) (body := lcT [8] (Tg.v 8) (allD (evE Γ e0__law_node))) (g := fun p : List Int × Nat => .int (p.2 : Nat)) (f := fun p => some (tI (look p.1 lot))) t.words.zipIdx (fun p hp => by
    have hrow : t.words[p.2]? = some p.1 := List.mem_zipIdx_iff_getElem?.mp hp
    have e := hs tok hlot.2.2 l100 hrow
    simp [e0__law_node, lcT, bindT, allD, wipeE, callR, argD, outs, e])
  have rz : rngD 0 (t.words.length : Int) = t.words.zipIdx.map fun p => .int (p.2 : Nat) := by
    unfold rngD
    simp only [Int.sub_zero, Int.toNat_natCast, Int.zero_add]
    have h := List.zipIdx_map_snd 0 t.words
    rw [← List.range_eq_range'] at h
    rw [← h, List.map_map]
    rfl
  have fm : (t.words.zipIdx.filterMap fun p => some (tI (look p.1 lot))) = (t.words.map fun r => look r lot).map tI := by
    have h := List.zipIdx_map_fst 0 t.words
    rw [show (fun p : List Int × Nat => some (tI (look p.1 lot))) = some ∘ (fun p => tI (look p.1 lot)) from rfl, List.filterMap_eq_map, List.map_map]
    conv => rhs; rw [← h, List.map_map]
    rfl
  rw [fm, ← rz] at m0
  have hlc := lcD_ok (vs := [8]) (tg := Tg.v 8) (w := evW Γ (W.rng1 (E.b1 B1.len (E.b2 B2.idx (E.v 1) (E.c (.int 0)))))) (body := allD (evE Γ e0__law_node)) (ρ := [some (dk d1 s1), some t.d, some (.int depth), some (tI lot), none, none, none, none, none]) (ρ1 := [some (dk d1 s1), some t.d, some (.int depth), some (tI lot), none, none, none, none, none])
    (by simp [Tab.d, a0, rng1K_i (n := (t.words.length : Int)) (by unfold LIM; omega) (by unfold LIM; omega)]) (by rw [rngD_len]; simp [LIM]; omega) m0
  have sok : ∀ x ∈ t.words.map (fun r => look r lot), SiOk lot.length x := fun x hx => by
    obtain ⟨r, hr, rfl⟩ := List.mem_map.mp hx
    exact look_ok tok hlot.2.2 hr
  have es := o_setT l1 sok (by simp; omega)
  have Xn : (setT (t.words.map fun r => look r lot)).Pairwise Lx := nodup_setT sok
  generalize hX : setT (t.words.map fun r => look r lot) = X at es Xn
  have Xn : (X.take 3).Pairwise Lx := List.Pairwise.sublist (List.take_sublist _ _) Xn
  have Xok : ∀ x ∈ X.take 3, SiOk lot.length x := fun x hx => sok x (mem_setT (by rw [hX]; exact List.mem_of_mem_take hx))
  have cut : TV.cutD (X.map tI) none (some 3) = (X.take 3).map tI := by
    have := cut_n (ds := X.map tI) (n := 3)
    rw [show ((3 : Nat) : Int) = 3 from rfl] at this
    rw [this, List.map_take]
  have X3 : (X.take 3).length ≤ 3 := List.length_take_le _ _
  generalize X.take 3 = S at cut Xok X3 Xn
  obtain ⟨v, d2, s2, e2, _, _, ok2⟩ := hd ok1 6 (by decide)
  have hb : f__law_node.body = .cons _ (.cons _ (.cons _ (Sdr f__law_node.body 3))) := rfl
  have T := fun (S : List (List Int)) h1 hn h2 {deep st} ok => node_tail (deep := deep) (st := st) hd hf rec tok vok t60 hdep hlot hasc (S := S) h1 hn h2 ok
  have hrun : ∀ {x : D} {d' : List Int} {s' : Int} {ρ' : TV.Env}, exSs Γ f__law_node.body [some (dk deep st), some t.d, some (.int depth), none, none, none, none, none, none] = .ret x (some (dk d' s') :: ρ') → f__law_node.sem Γ [dk deep st, t.d, .int depth] = .ok x [some (dk d' s')] := fun h => by
    show TV.run Γ 9 [0] true f__law_node.body _ = _
    rw [run_ret h]
    rfl
  have e1' : Γ i__law_lot [dk deep st, .int cells] = .ok (tI lot) [some (dk d1 s1)] := e1
  have a00' : atD (t.words.map tI) 0 = some (tI t.words[0]) := a00
  have es2 : b1 .setT (.list ((t.words.map fun r => look r lot).map tI)) = some (.list (X.map tI)) := es
  by_cases hv : v = 0
  · obtain ⟨z, hz, d3, s3, e3, ok3⟩ := leaf_pick hp ok2 [0, 3, 199] (by simp) (by simp) _ (.inl rfl)
    simp only [List.map_cons, List.map_nil] at e3
    have z2 : 0 ≤ z ∧ z < 200 := by simp at hz; omega
    have rok : ∀ x ∈ S ++ [List.replicate lot.length z], SiOk lot.length x := fun x hx => by
      rcases List.mem_append.mp hx with hx | hx
      · exact Xok x hx
      · simp at hx; subst hx
        exact ⟨by simp, fun i hi => by rw [List.eq_of_mem_replicate hi]; exact z2⟩
    have er := o_setT l1 rok (by simp; omega)
    have ap : S.map tI ++ [PyData.tuple (List.replicate lot.length (.int z))] = (S ++ [List.replicate lot.length z]).map tI := by simp [tI]
    obtain ⟨x, d4, s4, ρ', e4, h4, ok4⟩ := T (setT (S ++ [List.replicate lot.length z])) (fun s hs => rok s (mem_setT hs)) (nodup_setT rok) (by have := len_setT (xs := S ++ [List.replicate lot.length z]); simp at this; omega) ok3
    refine ⟨x, d4, s4, hrun (ρ' := ρ') ?_, h4, ok4⟩
    rw [hb]
    generalize Sdr f__law_node.body 3 = TT at e4 ⊢
    have ml := o_mulT (x := .int z) (n := lot.length) (by unfold LIM; omega)
    have ad : b2 .add (.list (S.map tI)) (.list [.tuple (List.replicate lot.length (.int z))]) = some (.list ((S ++ [List.replicate lot.length z]).map tI)) := by rw [o_addS (by simp [LIM]; omega), ap]
    generalize S ++ [List.replicate lot.length z] = RR at er ad e4
    simp only [Tab.d] at hlc e4
    simp [-List.map_map, Tab.d, a0, a00', rl, callR, argD, outs, e1', hlc, backE, es2, cut, e2, eq_int, hv, e3, LIM, ml, ad, er, e4]
  · obtain ⟨x, d4, s4, ρ', e4, h4, ok4⟩ := T S Xok Xn (by omega) ok2
    refine ⟨x, d4, s4, hrun (ρ' := ρ') ?_, h4, ok4⟩
    rw [hb]
    generalize Sdr f__law_node.body 3 = TT at e4 ⊢
    simp only [Tab.d] at hlc e4
    simp [-List.map_map, Tab.d, a0, a00', rl, callR, argD, outs, e1', hlc, backE, es2, cut, e2, eq_int, hv, e4]

end Tx
namespace Tx
open PySem PySem.Spec PyProof.Rows L2 TV
theorem Leaf.fits {x : D} (h : Leaf x) : pd x = true ∧ x.depth ≤ 1 ∧ tx x = true ∧ sz x ≤ 33 := by
  cases h with
  | again => exact ⟨by decide +kernel, by decide +kernel, by decide +kernel, by decide +kernel⟩
  | tell v h =>
    have e1 : PyData.strOk "tell" = true := by decide +kernel
    have e2 : (reprText "tell").length ≤ 12 := by decide +kernel
    have e3 : PyData.strOk (reprText "tell") = true := by decide +kernel
    have e4 : v.natAbs < 10 ^ 13 := by omega
    refine ⟨by simp [pd, pds, e1], by simp [PyData.depth, PyData.depthAll], ?_, by simp [sz, szs]⟩
    simp only [tx, txs, e3, decide_eq_true e2, decide_eq_true e4]
    rfl
def NB : Nat → Nat
  | 0 => 33
  | k + 1 => 315 + 4 * NB k
theorem NB_33 : ∀ k, 33 ≤ NB k
  | 0 => Nat.le_refl _
  | k + 1 => by
    have := NB_33 k
    simp only [NB]; omega
theorem Nd.fits {c : Nat} (hc : c ≤ 3) : ∀ {k : Nat} {x : D}, Nd c k x → pd x = true ∧ x.depth ≤ 3 * k + 1 ∧ tx x = true ∧ sz x ≤ NB k
  | 0, x, h => Leaf.fits h
  | k + 1, x, .inl h => by
    obtain ⟨h1, h2, h3, h4⟩ := Leaf.fits h
    have := NB_33 (k + 1)
    exact ⟨h1, by omega, h3, by omega⟩
  | k + 1, x, .inr ⟨lot, ps, ⟨_, l2, l3⟩, p4, hp, e⟩ => by
    subst e
    have e1 : PyData.strOk "look" = true := by decide +kernel
    have e2 : (reprText "look").length ≤ 12 := by decide +kernel
    have e3 : PyData.strOk (reprText "look") = true := by decide +kernel
    have ll : lot.length ≤ 3 := by omega
    have lt : tx (tI lot) = true := tI_tx fun i hi => by have := l3 i hi; omega
    have ls := tI_sz lot
    have q : ∀ d ∈ ps.map pairD, pd d = true ∧ d.depth ≤ 3 * k + 2 ∧ tx d = true ∧ sz d ≤ 58 + NB k := fun d hd => by
      obtain ⟨p, hpm, rfl⟩ := List.mem_map.mp hd
      obtain ⟨⟨s1, s2⟩, hn⟩ := hp p hpm
      obtain ⟨h1, h2, h3, h4⟩ := Nd.fits hc hn
      have st : tx (tI p.1) = true := tI_tx fun i hi => by have := s2 i hi; omega
      have ss := tI_sz p.1
      refine ⟨?_, ?_, ?_, ?_⟩
      · simp only [pairD, pd, pds, tI_pd, h1, Bool.and_self]
      · simp only [pairD, PyData.depth, PyData.depthAll, tI_dp]; omega
      · simp only [pairD, tx, txs, st, h3, Bool.and_self]
      · simp only [pairD, sz, szs]; omega
    have q1 := pds_of fun d hd => (q d hd).1
    have q2 := depthAll_le fun d hd => (q d hd).2.1
    have q3 := txs_of fun d hd => (q d hd).2.2.1
    have q4 := szs_le fun d hd => (q d hd).2.2.2
    rw [List.length_map] at q4
    have q5 : (58 + NB k + 2) * ps.length ≤ (58 + NB k + 2) * 4 := Nat.mul_le_mul_left _ p4
    refine ⟨?_, ?_, ?_, ?_⟩
    · simp only [mkLook, pd, pds, e1, tI_pd, q1, Bool.and_self]
    · simp only [mkLook, PyData.depth, PyData.depthAll, tI_dp]; omega
    · simp only [mkLook, tx, txs, e3, decide_eq_true e2, lt, q3, Bool.and_self]
    · simp only [mkLook, sz, szs, NB]; omega
/-! what is behind a look -/
def nxt (ps : List (List Int × D)) (s : List Int) : D := ((ps.find? fun p => decide (p.1 = s)).map (·.2)).getD again
theorem nxt_nd {c k : Nat} {ps : List (List Int × D)} (h : ∀ p ∈ ps, Nd c k p.2) (s : List Int) : Nd c k (nxt ps s) := by
  unfold nxt
  cases e : ps.find? (fun p => decide (p.1 = s)) with
  | none =>
    cases k with
    | zero => exact Leaf.again
    | succ k => exact .inl Leaf.again
  | some p => exact h p (List.mem_of_find?_eq_some e)
theorem nxt_fit (ps : List (List Int × D)) (s : List Int) : (ps.filterMap fun p => if p.1 = s then some p.2 else none) = [] ∧ nxt ps s = again ∨ ∃ r, (ps.filterMap fun p => if p.1 = s then some p.2 else none) = nxt ps s :: r := by
  induction ps with
  | nil => exact .inl ⟨rfl, rfl⟩
  | cons p ps ih =>
    by_cases h : p.1 = s
    · right
      exact ⟨ps.filterMap fun p => if p.1 = s then some p.2 else none, by simp [nxt, h]⟩
    · have e : nxt (p :: ps) s = nxt ps s := by simp [nxt, h]
      simp only [List.filterMap_cons, if_neg h, e]
      exact ih
@[simp] theorem o_lk0 {lot : List Int} {ps : List (List Int × D)} : b2 .idx (mkLook lot ps) (.int 0) = some (.str "look") := rfl
@[simp] theorem o_lk1 {lot : List Int} {ps : List (List Int × D)} : b2 .idx (mkLook lot ps) (.int 1) = some (tI lot) := rfl
@[simp] theorem o_lk2 {lot : List Int} {ps : List (List Int × D)} : b2 .idx (mkLook lot ps) (.int 2) = some (.tuple (ps.map pairD)) := rfl
@[simp] theorem o_ag0 : b2 .idx again (.int 0) = some (.str "again") := rfl
theorem e_lt : eqD (.str "look") (.str "tell") = some false := by decide +kernel
theorem e_ll : eqD (.str "look") (.str "look") = some true := by decide +kernel
theorem e_tt : eqD (.str "tell") (.str "tell") = some true := by decide +kernel
theorem e_tl : eqD (.str "tell") (.str "look") = some false := by decide +kernel
theorem e_at : eqD (.str "again") (.str "tell") = some false := by decide +kernel
theorem e_al : eqD (.str "again") (.str "look") = some false := by decide +kernel

end Tx
namespace Tx
open PySem PySem.Spec PyProof.Rows L2 TV
theorem leaf_head {x : D} (h : Leaf x) : ∃ s r, x = .tuple (.str s :: r) ∧ eqD (.str s) (.str "look") = some false := by
  cases h with
  | again => exact ⟨_, _, rfl, e_al⟩
  | tell v h => exact ⟨_, _, rfl, e_tl⟩
theorem filterMap_ints : ∀ {ds : List D} {os : List (Option D)}, os.length = ds.length → (∀ p ∈ ds.zip os, ∃ n : Int, p.2 = some (.int n)) → ∃ ns : List Int, os.filterMap id = ns.map .int
  | [], [], _, _ => ⟨[], rfl⟩
  | d :: ds, o :: os, hl, h => by
    obtain ⟨n, e⟩ := h (d, o) (by rw [List.zip_cons_cons]; exact List.mem_cons_self)
    obtain ⟨ns, e2⟩ := filterMap_ints (ds := ds) (os := os) (by simpa using hl) fun p hp => h p (by rw [List.zip_cons_cons]; exact List.mem_cons_of_mem _ hp)
    have e : o = some (.int n) := e
    subst e
    exact ⟨n :: ns, by simp [e2]⟩
  | [], _ :: _, hl, _ => by simp at hl
  | _ :: _, [], hl, _ => by simp at hl
theorem o_sum (is : List Int) : b1 .sum (.list (is.map .int)) = some (.int is.sum) := by
  show (match intsD (is.map PyData.int) with
    | some is => some (PyData.int is.sum)
    | none => none) = _
  rw [intsD_i]

end Tx
namespace Tx
open PySem PySem.Spec PyProof.Rows L2 TV
theorem seen_sem (Γ : Nat → Fn) : ShownFn (f_seen.sem Γ) := fun {t cells} ok {lot} hl hn {s row} hs => by
  obtain ⟨rl, _⟩ := ok.row row (List.mem_of_getElem? hs)
  have hw : (t.words.map tI)[s]? = some (tI row) := by rw [List.getElem?_map, hs]; rfl
  have a1 := atD_at hw
  have a0 : atD [.tuple (t.words.map tI), .tuple (t.vals.map .int)] 0 = some (.tuple (t.words.map tI)) := rfl
  have m := lcF_map (ρ := [some t.d, some (tI lot), some (.int s), some (tI row), none]) (body := lcT [4] (Tg.v 4) (allD (evE Γ e0_seen))) (f := fun d => match d with
    | .int i => .int (row.getD i.toNat 0)
    | d => d) (lot.map .int) (fun d hd => by
      obtain ⟨i, hi, rfl⟩ := List.mem_map.mp hd
      obtain ⟨i0, i1⟩ := hl i hi
      obtain ⟨n, rfl⟩ := Int.eq_ofNat_of_zero_le i0
      have hr : (row.map PyData.int)[n]? = some (.int (row.getD n 0)) := by
        rw [List.getElem?_map, List.getD_eq_getElem?_getD, List.getElem?_eq_getElem (by omega)]; rfl
      have a2 := atD_at hr
      simp [e0_seen, lcT, bindT, allD, wipeE, Tab.d, tI, a2])
  have hlc := lcD_ok (vs := [4]) (tg := Tg.v 4) (w := evW Γ (W.seq (E.v 1))) (body := allD (evE Γ e0_seen)) (ρ := [some t.d, some (tI lot), some (.int s), some (tI row), none]) (ρ1 := [some t.d, some (tI lot), some (.int s), some (tI row), none]) (by simp [tI]) (by simp [LIM]; omega) m
  unfold Df.sem TV.run f_seen
  simp only [Tab.d] at hlc
  simp [Df.ios, iosOf, Sh.isM, Tab.d, a0, a1, hlc, backE]
  simp [tI, look]
@[simp] theorem o_isN {d : D} : b2 .is_ d .none = some (.bool (match d with | .none => true | _ => false)) := rfl

end Tx
namespace Tx
open PySem PySem.Spec PyProof.Rows L2 TV
@[simp] theorem s_whl {Γ : Nat → Fn} {a : Option D} {as : TV.Env} {n : Nat} {c : E} {b : Ss} : exS Γ (.whl n c b) (a :: as) = whlF (evE Γ c) (exSs Γ b) n (a :: as) := rfl
/-! going on at a speed -/
def spD : Option Int → D
  | none => .none
  | some s => .int s
def nearB (o : Option Int) (a b : Int) : Bool := decide (a ≤ b) && (match o with
  | none => true
  | some s => decide (b - a ≤ s))
def fwd (o : Option Int) (ahead states : List Int) : List Int := states.filter fun t => ahead.any fun s => nearB o s t
def bwd (o : Option Int) (states later : List Int) : List Int := states.filter fun s => later.any fun t => nearB o s t
abbrev Asc (xs : List Int) : Prop := xs.Pairwise (· < ·)
/-- how many at the front are such -/
def cntB (p : Int → Bool) : List Int → Nat
  | [] => 0
  | x :: xs => if p x then cntB p xs + 1 else 0
theorem cntB_le (p : Int → Bool) : ∀ xs, cntB p xs ≤ xs.length
  | [] => Nat.le_refl _
  | x :: xs => by
    have := cntB_le p xs
    unfold cntB
    split
    · simp; omega
    · exact Nat.zero_le _
theorem cntB_in (p : Int → Bool) : ∀ (xs : List Int) (i : Nat), i < cntB p xs → ∃ x, xs[i]? = some x ∧ p x = true
  | [], i, h => by simp [cntB] at h
  | x :: xs, i, h => by
    unfold cntB at h
    split at h
    · rename_i hp
      cases i with
      | zero => exact ⟨x, rfl, hp⟩
      | succ i =>
        obtain ⟨y, h1, h2⟩ := cntB_in p xs i (by omega)
        exact ⟨y, by simpa using h1, h2⟩
    · omega
theorem cntB_out (p : Int → Bool) : ∀ (xs : List Int), cntB p xs < xs.length → ∃ x, xs[cntB p xs]? = some x ∧ p x = false
  | [], h => by simp [cntB] at h
  | x :: xs, h => by
    by_cases hp : p x = true
    · have e : cntB p (x :: xs) = cntB p xs + 1 := by simp [cntB, hp]
      rw [e] at h ⊢
      obtain ⟨y, h1, h2⟩ := cntB_out p xs (by simpa using h)
      exact ⟨y, by simpa using h1, h2⟩
    · have e : cntB p (x :: xs) = 0 := by simp [cntB, hp]
      rw [e]
      exact ⟨x, rfl, by simpa using hp⟩
theorem cntB_mono {p q : Int → Bool} (h : ∀ x, p x = true → q x = true) : ∀ xs, cntB p xs ≤ cntB q xs
  | [] => Nat.le_refl _
  | x :: xs => by
    have ih := cntB_mono h xs
    unfold cntB
    by_cases hp : p x = true
    · rw [if_pos hp, if_pos (h x hp)]; omega
    · rw [if_neg hp]; exact Nat.zero_le _
/-- a rising list has no such number behind those at the front, where the property goes down -/
theorem asc_front {p : Int → Bool} (hp : ∀ x y, x < y → p y = true → p x = true) : ∀ {xs : List Int}, Asc xs → ∀ {x}, x ∈ xs → p x = true → ∃ i, i < cntB p xs ∧ xs[i]? = some x
  | [], _, x, hx, _ => by cases hx
  | y :: ys, ha, x, hx, px => by
    have ha := List.pairwise_cons.mp ha
    rcases List.mem_cons.mp hx with e | hx
    · subst e
      exact ⟨0, by simp [cntB, px], rfl⟩
    · obtain ⟨i, h1, h2⟩ := asc_front hp ha.2 hx px
      have py : p y = true := hp y x (ha.1 x hx) px
      exact ⟨i + 1, by simp [cntB, py]; omega, by simpa using h2⟩
theorem asc_get {xs : List Int} (h : Asc xs) {i j : Nat} {x y : Int} (hi : xs[i]? = some x) (hj : xs[j]? = some y) (hij : i ≤ j) : x ≤ y := by
  rcases Nat.lt_or_eq_of_le hij with hlt | rfl
  · obtain ⟨li, ei⟩ := List.getElem?_eq_some_iff.mp hi
    obtain ⟨lj, ej⟩ := List.getElem?_eq_some_iff.mp hj
    have := List.pairwise_iff_getElem.mp h i j li lj hlt
    omega
  · rw [hi] at hj; cases hj; exact Int.le_refl _
/-- the loops of led_to and leading_to: the spot goes on to the end of the front -/
theorem whl_spot {c : TV.Env → R D} {b : TV.Env → Fl} {E : Nat → TV.Env} {n : Nat} (hc : ∀ i, i < n → c (E i) = .ok (.bool true) (E i)) (hn : c (E n) = .ok (.bool false) (E n)) (hb : ∀ i, i < n → b (E i) = .nx (E (i + 1))) : ∀ (d i fuel : Nat), i + d = n → d < fuel → whlF c b fuel (E i) = .nx (E n)
  | 0, i, fuel, e, hf => by
    cases fuel with
    | zero => omega
    | succ fuel =>
      have : i = n := by omega
      subst this
      simp [whlF, hn]
  | d + 1, i, fuel, e, hf => by
    cases fuel with
    | zero => omega
    | succ fuel =>
      have ih := whl_spot hc hn hb d (i + 1) fuel (by omega) (by omega)
      simp [whlF, hc i (by omega), hb i (by omega), ih]
theorem atD_ints {xs : List Int} {i : Nat} {x : Int} (h : xs[i]? = some x) : atD (xs.map PyData.int) (i : Int) = some (.int x) := atD_at (by rw [List.getElem?_map, h]; rfl)
theorem near_front {o : Option Int} {ahead : List Int} (ha : Asc ahead) (t : Int) : (ahead.any fun s => nearB o s t) = (decide (0 < cntB (fun a => decide (a ≤ t)) ahead) && (match o with
    | none => true
    | some s => decide (t - (ahead.getD (cntB (fun a => decide (a ≤ t)) ahead - 1) 0) ≤ s))) := by
  rw [Bool.eq_iff_iff]
  simp only [List.any_eq_true, Bool.and_eq_true, decide_eq_true_eq, nearB]
  constructor
  · rintro ⟨s, hs, h1, h2⟩
    obtain ⟨i, hi, e⟩ := asc_front (p := fun a => decide (a ≤ t)) (fun x y hxy hy => by simp at hy ⊢; omega) ha hs (by simpa using h1)
    refine ⟨by omega, ?_⟩
    obtain ⟨y, e2, _⟩ := cntB_in (fun a => decide (a ≤ t)) ahead (cntB (fun a => decide (a ≤ t)) ahead - 1) (by omega)
    have := asc_get ha e e2 (by omega)
    cases o with
    | none => trivial
    | some s0 =>
      simp only [decide_eq_true_eq] at h2 ⊢
      rw [List.getD_eq_getElem?_getD, e2, Option.getD_some]
      omega
  · rintro ⟨h1, h2⟩
    obtain ⟨y, e2, hy⟩ := cntB_in (fun a => decide (a ≤ t)) ahead (cntB (fun a => decide (a ≤ t)) ahead - 1) (by omega)
    rw [List.getD_eq_getElem?_getD, e2, Option.getD_some] at h2
    exact ⟨y, List.mem_of_getElem? e2, by simpa using hy, h2⟩
theorem near_back {o : Option Int} {later : List Int} (ha : Asc later) (s : Int) : (later.any fun t => nearB o s t) = (decide (cntB (fun a => decide (a < s)) later < later.length) && (match o with
    | none => true
    | some v => decide (later.getD (cntB (fun a => decide (a < s)) later) 0 - s ≤ v))) := by
  rw [Bool.eq_iff_iff]
  simp only [List.any_eq_true, Bool.and_eq_true, decide_eq_true_eq, nearB]
  constructor
  · rintro ⟨t, ht, h1, h2⟩
    obtain ⟨i, hi⟩ := List.getElem?_of_mem ht
    have li := (List.getElem?_eq_some_iff.mp hi).1
    have nlt : ¬ i < cntB (fun a => decide (a < s)) later := fun h => by
      obtain ⟨y, e, hy⟩ := cntB_in _ _ i h
      rw [hi] at e; cases e
      simp at hy; omega
    have lc : cntB (fun a => decide (a < s)) later < later.length := by omega
    refine ⟨lc, ?_⟩
    have e2 := List.getElem?_eq_getElem lc
    have := asc_get ha e2 hi (by omega)
    cases o with
    | none => trivial
    | some v =>
      simp only [decide_eq_true_eq] at h2 ⊢
      rw [List.getD_eq_getElem?_getD, e2, Option.getD_some]
      omega
  · rintro ⟨h1, h2⟩
    obtain ⟨y, e2, hy⟩ := cntB_out (fun a => decide (a < s)) later h1
    rw [List.getD_eq_getElem?_getD, e2, Option.getD_some] at h2
    exact ⟨y, List.mem_of_getElem? e2, by simpa using hy, h2⟩
def LedFn (F : Fn) : Prop := ∀ (o : Option Int) (ahead states : List Int), Asc ahead → Asc states → ahead.length ≤ 1000 → states.length ≤ 1000 → F [spD o, .list (ahead.map .int), .list (states.map .int)] = .ok (.list ((fwd o ahead states).map .int)) []
theorem led_sem (Γ : Nat → Fn) : LedFn (f_led_to.sem Γ) := fun o ahead states ha hst la ls => by
  obtain ⟨ρ, e, done, rest0, s3, p, he, rfl, _⟩ := forF_inv (body := forT (Tg.v 3) (exSs Γ b0_led_to))
    (fun rest ρ => ∃ (done rest' : List Int) (s3 : Option D) (p : Nat), done ++ rest' = states ∧ ρ = [some (spD o), some (.list (ahead.map .int)), some (.list (states.map .int)), s3, some (.list ((fwd o ahead done).map .int)), some (.int (p : Nat))] ∧ rest = rest'.map .int ∧ ∀ t ∈ rest', p ≤ cntB (fun a => decide (a ≤ t)) ahead)
    (fun d ds ρ ⟨done, rest', s3, p, he, e, er, hp⟩ => by
      cases rest' with
      | nil => simp at er
      | cons t ts =>
        simp only [List.map_cons, List.cons.injEq] at er
        obtain ⟨rfl, rfl⟩ := er
        subst e
        have hle := hp t List.mem_cons_self
        have asc2 : ∀ u ∈ ts, t < u := by
          have h1 := hst
          rw [← he] at h1
          have h2 := (List.pairwise_append.mp h1).2.1
          exact (List.pairwise_cons.mp h2).1
        have cl := cntB_le (fun a => decide (a ≤ t)) ahead
        have w := whl_spot (c := evE Γ ((E.b2 B2.lt (E.v 5) (E.b1 B1.len (E.v 1))).and_ (E.b2 B2.le (E.b2 B2.idx (E.v 1) (E.v 5)) (E.v 3)))) (b := exSs Γ (Ss.cons (S.asg (Tg.v 5) (E.b2 B2.add (E.v 5) (E.c (PyData.int 1)))) Ss.nil))
          (E := fun i => [some (spD o), some (.list (ahead.map .int)), some (.list (states.map .int)), some (.int t), some (.list ((fwd o ahead done).map .int)), some (.int (i : Nat))]) (n := cntB (fun a => decide (a ≤ t)) ahead)
          (fun i hi => by
            obtain ⟨x, e1, e2⟩ := cntB_in _ _ i hi
            have a1 := atD_ints e1
            have l1 : i < ahead.length := by omega
            have e2 : x ≤ t := by simpa using e2
            simp [l1, a1, e2])
          (by
            by_cases l1 : cntB (fun a => decide (a ≤ t)) ahead < ahead.length
            · obtain ⟨x, e1, e2⟩ := cntB_out _ _ l1
              have a1 := atD_ints e1
              have e2 : ¬ x ≤ t := by simpa using e2
              simp [l1, a1, e2]
            · simp [l1])
          (fun i hi => by simp)
          (cntB (fun a => decide (a ≤ t)) ahead - p) p 1000000 (by omega) (by omega)
        generalize hc : cntB (fun a => decide (a ≤ t)) ahead = c at w cl
        have nf := near_front (o := o) ha t
        rw [hc] at nf
        have fe : fwd o ahead (done ++ [t]) = if (ahead.any fun s => nearB o s t) then fwd o ahead done ++ [t] else fwd o ahead done := by
          unfold fwd
          rw [List.filter_append]
          split <;> simp_all
        have fl : (fwd o ahead done).length < LIM := by
          have h1 : (fwd o ahead done).length ≤ done.length := List.length_filter_le _ _
          have h2 : done.length ≤ states.length := by rw [← he]; simp
          unfold LIM; omega
        refine ⟨_, .inl ?_, done ++ [t], ts, some (.int t), c, by simp [← he], rfl, rfl, fun u hu => ?_⟩
        · simp only [forT_v, List.set]
          unfold b0_led_to
          rw [ss_cons, s_whl, w]
          have at1 : 0 < c → ∃ x, atD (ahead.map PyData.int) ((c : Int) - 1) = some (.int x) ∧ ahead.getD (c - 1) 0 = x := fun h0 => by
            have e1 := List.getElem?_eq_getElem (show c - 1 < ahead.length by omega)
            refine ⟨_, ?_, by rw [List.getD_eq_getElem?_getD, e1, Option.getD_some]⟩
            rw [show (c : Int) - 1 = ((c - 1 : Nat) : Int) by omega]
            exact atD_ints e1
          by_cases h0 : 0 < c
          · obtain ⟨x, e1, e2⟩ := at1 h0
            rw [e2] at nf
            cases o with
            | none =>
              have nf : (ahead.any fun s => nearB none s t) = true := by simpa [h0] using nf
              rw [nf, if_pos rfl] at fe
              simp [h0, spD, appD, getPl, setPl, fl, fe] at fl ⊢
              try simp [fl]
            | some s =>
              have nf : (ahead.any fun u => nearB (some s) u t) = decide (t - x ≤ s) := by simpa [h0] using nf
              rw [nf] at fe
              by_cases hs : t - x ≤ s
              · simp only [hs, decide_true, if_true] at fe
                simp [h0, spD, e1, hs, appD, getPl, setPl, fe] at fl ⊢
                try simp [fl]
              · simp only [hs, decide_false] at fe
                simp [h0, spD, e1, hs, fe]
          · have nf : (ahead.any fun u => nearB o u t) = false := by simpa [h0] using nf
            rw [nf] at fe
            simp [h0, fe]
        · rw [← hc]
          exact cntB_mono (fun x hx => by simp at hx ⊢; have := asc2 u hu; omega) ahead)
    (states.map .int) [some (spD o), some (.list (ahead.map .int)), some (.list (states.map .int)), none, some (.list []), some (.int 0)] ⟨[], states, none, 0, rfl, rfl, rfl, fun _ _ => Nat.zero_le _⟩
  have hr : rest0 = [] := by
    cases rest0 with
    | nil => rfl
    | cons _ _ => rename_i h; simp at h
  subst hr
  simp only [List.append_nil] at he
  subst he
  unfold Df.sem TV.run f_led_to
  simp [Df.ios, iosOf, Sh.isM, LIM, TV.bindL, e, mvD]

end Tx
namespace Tx
open PySem PySem.Spec PyProof.Rows L2 TV
def LeadFn (F : Fn) : Prop := ∀ (o : Option Int) (states later : List Int), Asc states → Asc later → states.length ≤ 1000 → later.length ≤ 1000 → F [spD o, .list (states.map .int), .list (later.map .int)] = .ok (.list ((bwd o states later).map .int)) []
theorem lead_sem (Γ : Nat → Fn) : LeadFn (f_leading_to.sem Γ) := fun o states later hst ha ls la => by
  obtain ⟨ρ, e, done, rest0, s3, p, he, rfl, _⟩ := forF_inv (body := forT (Tg.v 3) (exSs Γ b0_leading_to))
    (fun rest ρ => ∃ (done rest' : List Int) (s3 : Option D) (p : Nat), done ++ rest' = states ∧ ρ = [some (spD o), some (.list (states.map .int)), some (.list (later.map .int)), s3, some (.list ((bwd o done later).map .int)), some (.int (p : Nat))] ∧ rest = rest'.map .int ∧ ∀ t ∈ rest', p ≤ cntB (fun a => decide (a < t)) later)
    (fun d ds ρ ⟨done, rest', s3, p, he, e, er, hp⟩ => by
      cases rest' with
      | nil => simp at er
      | cons t ts =>
        simp only [List.map_cons, List.cons.injEq] at er
        obtain ⟨rfl, rfl⟩ := er
        subst e
        have hle := hp t List.mem_cons_self
        have asc2 : ∀ u ∈ ts, t < u := by
          have h1 := hst
          rw [← he] at h1
          exact (List.pairwise_cons.mp (List.pairwise_append.mp h1).2.1).1
        have cl := cntB_le (fun a => decide (a < t)) later
        have w := whl_spot (c := evE Γ ((E.b2 B2.lt (E.v 5) (E.b1 B1.len (E.v 2))).and_ (E.b2 B2.lt (E.b2 B2.idx (E.v 2) (E.v 5)) (E.v 3)))) (b := exSs Γ (Ss.cons (S.asg (Tg.v 5) (E.b2 B2.add (E.v 5) (E.c (PyData.int 1)))) Ss.nil))
          (E := fun i => [some (spD o), some (.list (states.map .int)), some (.list (later.map .int)), some (.int t), some (.list ((bwd o done later).map .int)), some (.int (i : Nat))]) (n := cntB (fun a => decide (a < t)) later)
          (fun i hi => by
            obtain ⟨x, e1, e2⟩ := cntB_in _ _ i hi
            have a1 := atD_ints e1
            have l1 : i < later.length := by omega
            have e2 : x < t := by simpa using e2
            simp [l1, a1, e2])
          (by
            by_cases l1 : cntB (fun a => decide (a < t)) later < later.length
            · obtain ⟨x, e1, e2⟩ := cntB_out _ _ l1
              have a1 := atD_ints e1
              have e2 : ¬ x < t := by simpa using e2
              simp [l1, a1, e2]
            · simp [l1])
          (fun i hi => by simp)
          (cntB (fun a => decide (a < t)) later - p) p 1000000 (by omega) (by omega)
        generalize hc : cntB (fun a => decide (a < t)) later = c at w cl
        have nf := near_back (o := o) ha t
        rw [hc] at nf
        have fe : bwd o (done ++ [t]) later = if (later.any fun s => nearB o t s) then bwd o done later ++ [t] else bwd o done later := by
          unfold bwd
          rw [List.filter_append]
          split <;> simp_all
        have fl : (bwd o done later).length < LIM := by
          have h1 : (bwd o done later).length ≤ done.length := List.length_filter_le _ _
          have h2 : done.length ≤ states.length := by rw [← he]; simp
          unfold LIM; omega
        refine ⟨_, .inl ?_, done ++ [t], ts, some (.int t), c, by simp [← he], rfl, rfl, fun u hu => ?_⟩
        · simp only [forT_v, List.set]
          unfold b0_leading_to
          rw [ss_cons, s_whl, w]
          by_cases h0 : c < later.length
          · have e1 := List.getElem?_eq_getElem h0
            have e2 := atD_ints e1
            rw [List.getD_eq_getElem?_getD, e1, Option.getD_some] at nf
            generalize later[c] = x at e2 nf
            cases o with
            | none =>
              have nf : (later.any fun s => nearB none t s) = true := by simpa [h0] using nf
              rw [nf, if_pos rfl] at fe
              simp [h0, spD, appD, getPl, setPl, fl, fe] at fl ⊢
              try simp [fl]
            | some s =>
              have nf : (later.any fun u => nearB (some s) t u) = decide (x - t ≤ s) := by simpa [h0] using nf
              rw [nf] at fe
              by_cases hs : x - t ≤ s
              · simp only [hs, decide_true, if_true] at fe
                simp [h0, spD, e2, hs, appD, getPl, setPl, fe] at fl ⊢
                try simp [fl]
              · simp only [hs, decide_false] at fe
                simp [h0, spD, e2, hs, fe]
          · have nf : (later.any fun u => nearB o t u) = false := by simpa [h0] using nf
            rw [nf] at fe
            simp [h0, fe]
        · rw [← hc]
          exact cntB_mono (fun x hx => by simp at hx ⊢; have := asc2 u hu; omega) later)
    (states.map .int) [some (spD o), some (.list (states.map .int)), some (.list (later.map .int)), none, some (.list []), some (.int 0)] ⟨[], states, none, 0, rfl, rfl, rfl, fun _ _ => Nat.zero_le _⟩
  have hr : rest0 = [] := by
    cases rest0 with
    | nil => rfl
    | cons _ _ => rename_i h; simp at h
  subst hr
  simp only [List.append_nil] at he
  subst he
  unfold Df.sem TV.run f_leading_to
  simp [Df.ios, iosOf, Sh.isM, LIM, TV.bindL, e, mvD]
/-! chains: a run through sets of states -/
def Ch (o : Option Int) : Int → List (List Int) → Int → Prop
  | b, [], e => e = b
  | b, f :: fs, e => ∃ c ∈ f, nearB o b c = true ∧ Ch o c fs e
theorem mem_fwd {o : Option Int} {S f : List Int} {c : Int} : c ∈ fwd o S f ↔ c ∈ f ∧ ∃ b ∈ S, nearB o b c = true := by
  unfold fwd
  rw [List.mem_filter, List.any_eq_true]
theorem mem_bwd {o : Option Int} {S f : List Int} {b : Int} : b ∈ bwd o S f ↔ b ∈ S ∧ ∃ c ∈ f, nearB o b c = true := by
  unfold bwd
  rw [List.mem_filter, List.any_eq_true]
/-- the last of the sets that are come to -/
def lastF (o : Option Int) : List Int → List (List Int) → List Int
  | S, [] => S
  | S, f :: fs => lastF o (fwd o S f) fs
theorem mem_lastF {o : Option Int} {e : Int} : ∀ {fs : List (List Int)} {S : List Int}, e ∈ lastF o S fs ↔ ∃ b ∈ S, Ch o b fs e
  | [], S => ⟨fun h => ⟨e, h, rfl⟩, fun ⟨b, h, q⟩ => by have q : e = b := q; exact q ▸ h⟩
  | f :: fs, S => by
    unfold lastF
    rw [mem_lastF (fs := fs) (S := fwd o S f)]
    constructor
    · rintro ⟨c, hc, h⟩
      obtain ⟨h1, b, hb, h2⟩ := mem_fwd.mp hc
      exact ⟨b, hb, c, h1, h2, h⟩
    · rintro ⟨b, hb, c, h1, h2, h⟩
      exact ⟨c, mem_fwd.mpr ⟨h1, b, hb, h2⟩, h⟩
/-- the sets that are come to -/
def seqF (o : Option Int) : List Int → List (List Int) → List (List Int)
  | S, [] => [S]
  | S, f :: fs => S :: seqF o (fwd o S f) fs
/-- the sets of what is lived through: the first, the others -/
def bks (o : Option Int) : List Int → List (List Int) → List Int × List (List Int)
  | S, [] => (S, [])
  | S, f :: fs => let r := bks o f fs; (bwd o S r.1, r.1 :: r.2)
theorem seqF_ne (o : Option Int) (S : List Int) : ∀ fs, ∃ x xs, seqF o S fs = x :: xs
  | [] => ⟨S, [], rfl⟩
  | f :: fs => ⟨S, _, rfl⟩

end Tx
namespace Tx
open PySem PySem.Spec PyProof.Rows L2 TV
def lD (xs : List Int) : D := .list (xs.map .int)
def tT (xs : List (List Int)) : D := .tuple (xs.map tI)
def rowAt (t : Tab) (n : Nat) : List Int := t.words.getD n []
/-- the states that show a sight -/
def fit (t : Tab) (q : List Int × List Int) : List Int := ((List.range t.words.length).filter fun s => decide (look (rowAt t s) q.1 = q.2)).map fun n : Nat => (n : Int)
theorem fit_asc (t : Tab) (q : List Int × List Int) : Asc (fit t q) := by
  unfold fit Asc
  rw [List.pairwise_map]
  refine ((List.pairwise_lt_range).filter _).imp fun {a b} h => by omega
theorem fit_len (t : Tab) (q : List Int × List Int) : (fit t q).length ≤ t.words.length := by
  unfold fit
  rw [List.length_map]
  have := List.length_filter_le (fun s => decide (look (rowAt t s) q.1 = q.2)) (List.range t.words.length)
  simpa using this
theorem mem_fit {t : Tab} {q : List Int × List Int} {x : Int} : x ∈ fit t q ↔ ∃ n : Nat, x = n ∧ n < t.words.length ∧ look (rowAt t n) q.1 = q.2 := by
  unfold fit
  simp only [List.mem_map, List.mem_filter, List.mem_range, decide_eq_true_eq]
  constructor
  · rintro ⟨n, ⟨h1, h2⟩, rfl⟩; exact ⟨n, rfl, h1, h2⟩
  · rintro ⟨n, rfl, h1, h2⟩; exact ⟨n, ⟨h1, h2⟩, rfl⟩
theorem fwd_asc {o : Option Int} {S f : List Int} (h : Asc f) : Asc (fwd o S f) := List.Pairwise.filter _ h
theorem fwd_len {o : Option Int} {S f : List Int} : (fwd o S f).length ≤ f.length := List.length_filter_le _ _
theorem bwd_asc {o : Option Int} {S f : List Int} (h : Asc S) : Asc (bwd o S f) := List.Pairwise.filter _ h
theorem bwd_len {o : Option Int} {S f : List Int} : (bwd o S f).length ≤ S.length := List.length_filter_le _ _
theorem atD_last {xs : List D} {x : D} : atD (xs ++ [x]) (-1) = some x := by
  have e : ixN (xs ++ [x]).length (-1) = some xs.length := by
    unfold ixN
    simp
    omega
  unfold atD atI
  rw [e]
  simp
theorem lD_pd (xs : List Int) : pd (lD xs) = true ∧ (lD xs).depth ≤ 1 := by
  refine ⟨?_, ?_⟩
  · simp only [lD, pd]; exact pds_ints xs
  · simp only [lD, PyData.depth, depth_ints]; omega
theorem eq_nilLL (xs : List (List Int)) : eqD (.list (xs.map lD)) (.list []) = some (decide (xs = [])) := by
  have := eq_nilD (ds := xs.map lD) fun d hd => by
    obtain ⟨x, _, rfl⟩ := List.mem_map.mp hd
    exact ⟨(lD_pd x).1, by have := (lD_pd x).2; omega⟩
  rw [this]
  simp
theorem eq_nilL (xs : List Int) : eqD (lD xs) (.list []) = some (decide (xs = [])) := eq_nil xs
/-- looks and what they see: lots of the table, few -/
def QsOk (c : Nat) (qs : List (List Int × List Int)) : Prop := ∀ q ∈ qs, (∀ i ∈ q.1, 0 ≤ i ∧ i < (c : Int)) ∧ q.1.length ≤ 100
section
variable {Γ : Nat → Fn} {t : Tab} {cells : Nat}
theorem ge_words {s : Nat} (h : s < t.words.length) : t.words[s]? = some (rowAt t s) := by
  unfold rowAt
  rw [List.getD_eq_getElem?_getD, List.getElem?_eq_getElem h]; rfl
/-- the states at a look -/
theorem states_lc (hs : ShownFn (Γ i_seen)) (tok : TabOk cells t) {q : List Int × List Int} (hq : (∀ i ∈ q.1, 0 ≤ i ∧ i < (cells : Int)) ∧ q.1.length ≤ 100) {a1 a2 a3 a4 a7 a8 : Option D} :
    lcD [8] (Tg.v 8) (evW Γ (W.rng1 (E.b1 B1.len (E.b2 B2.idx (E.v 0) (E.c (.int 0)))))) (ifD (evE Γ c0_come_to) (evE Γ e0_come_to)) [some t.d, a1, a2, a3, a4, some (tI q.1), some (tI q.2), a7, a8] = .ok (lD (fit t q)) [some t.d, a1, a2, a3, a4, some (tI q.1), some (tI q.2), a7, a8] := by
  have t200 := tok.many
  have m := lcF_fm (ρ := [some t.d, a1, a2, a3, a4, some (tI q.1), some (tI q.2), a7, none]) (body := lcT [8] (Tg.v 8) (ifD (evE Γ c0_come_to) (evE Γ e0_come_to))) (g := fun n : Nat => PyData.int (n : Int)) (f := fun n => if look (rowAt t n) q.1 = q.2 then some (.int (n : Int)) else none) (List.range t.words.length) (fun n hn => by
    have hn := List.mem_range.mp hn
    have e := hs tok hq.1 hq.2 (ge_words hn)
    by_cases h : look (rowAt t n) q.1 = q.2
    · simp [c0_come_to, e0_come_to, lcT, bindT, ifD, wipeE, callR, argD, outs, e, eq_tI, h]
    · simp [c0_come_to, e0_come_to, lcT, bindT, ifD, wipeE, callR, argD, outs, e, eq_tI, h])
  have fm : ((List.range t.words.length).filterMap fun n => if look (rowAt t n) q.1 = q.2 then some (PyData.int (n : Int)) else none) = (fit t q).map .int := by
    unfold fit
    generalize List.range t.words.length = xs
    induction xs with
    | nil => rfl
    | cons x xs ih =>
      by_cases h : look (rowAt t x) q.1 = q.2
      · simp only [List.filterMap_cons, h, if_true, List.filter_cons, decide_true, List.map_cons, ih]
      · simp only [List.filterMap_cons, h, if_false, List.filter_cons, decide_false, Bool.false_eq_true, ih]
  rw [fm] at m
  have rz : rngD 0 (t.words.length : Int) = (List.range t.words.length).map fun n : Nat => PyData.int (n : Int) := by
    unfold rngD
    simp
  rw [← rz] at m
  have a0 : b2 .idx t.d (.int 0) = some (.tuple (t.words.map tI)) := rfl
  have hlc := lcD_ok (vs := [8]) (tg := Tg.v 8) (w := evW Γ (W.rng1 (E.b1 B1.len (E.b2 B2.idx (E.v 0) (E.c (.int 0)))))) (body := ifD (evE Γ c0_come_to) (evE Γ e0_come_to)) (ρ := [some t.d, a1, a2, a3, a4, some (tI q.1), some (tI q.2), a7, a8]) (ρ1 := [some t.d, a1, a2, a3, a4, some (tI q.1), some (tI q.2), a7, a8])
    (by simp [a0, rng1K_i (n := (t.words.length : Int)) (by unfold LIM; omega) (by unfold LIM; omega)]) (by rw [rngD_len]; simp [LIM]; omega) m
  rw [hlc]
  simp [backE, lD]
end
def stepS (o : Option Int) (prev : Option (List Int)) (f : List Int) : List Int := match prev with
  | none => f
  | some S => fwd o S f
def goL (o : Option Int) (t : Tab) : Option (List Int) → List (List Int × List Int) → List (List Int)
  | _, [] => []
  | prev, q :: qs => if stepS o prev (fit t q) = [] then [stepS o prev (fit t q)] else stepS o prev (fit t q) :: goL o t (some (stepS o prev (fit t q))) qs
theorem stepS_asc {o : Option Int} {prev : Option (List Int)} {f : List Int} (h : Asc f) : Asc (stepS o prev f) := by
  cases prev with
  | none => exact h
  | some S => exact fwd_asc h
theorem stepS_len {o : Option Int} {prev : Option (List Int)} {f : List Int} : (stepS o prev f).length ≤ f.length := by
  cases prev with
  | none => exact Nat.le_refl _
  | some S => exact fwd_len
def pairT (q : List Int × List Int) : D := .tuple [tI q.1, tI q.2]
abbrev comeT : Tg := .t (.cons (.v 5) (.cons (.v 6) .nil))
theorem come_loop {Γ : Nat → Fn} (hs : ShownFn (Γ i_seen)) (hl : LedFn (Γ i_led_to)) {t : Tab} {cells : Nat} (tok : TabOk cells t) (o : Option Int) {a2 a3 : Option D} : ∀ (qs : List (List Int × List Int)), QsOk cells qs → ∀ (found : List (List Int)) (prev : Option (List Int)) (a5 a6 a7 : Option D), found.getLast? = prev → (∀ S, prev = some S → Asc S ∧ S.length ≤ 200) → found.length + qs.length ≤ 1000 →
    ∃ ρ, (forF (forT comeT (exSs Γ b0_come_to)) (qs.map pairT) [some t.d, some (spD o), a2, a3, some (.list (found.map lD)), a5, a6, a7, none] = .ret (.list ((found ++ goL o t prev qs).map lD)) ρ ∨ ∃ b5 b6 b7, forF (forT comeT (exSs Γ b0_come_to)) (qs.map pairT) [some t.d, some (spD o), a2, a3, some (.list (found.map lD)), a5, a6, a7, none] = .nx [some t.d, some (spD o), a2, a3, some (.list ((found ++ goL o t prev qs).map lD)), b5, b6, b7, none])
  | [], _, found, prev, a5, a6, a7, _, _, _ => ⟨[], .inr ⟨a5, a6, a7, by simp [goL, forF]⟩⟩
  | q :: qs, hqs, found, prev, a5, a6, a7, hp, hpa, hlen => by
    have t200 := tok.many
    have hq := hqs q List.mem_cons_self
    have fl := fit_len t q
    have fa := fit_asc t q
    have hlc := fun (a4 a7 : Option D) => states_lc hs tok hq (a1 := some (spD o)) (a2 := a2) (a3 := a3) (a4 := a4) (a7 := a7) (a8 := none)
    generalize hf : fit t q = f at fl fa hlc
    have turn : ∀ TT : Ss, exSs Γ (.cons (.asg (.v 7) (.lci [8] (.rng1 (.b1 .len (.b2 .idx (.v 0) (.c (.int 0))))) (.v 8) c0_come_to e0_come_to)) (.cons (.ifs (.b2 .ne (.v 4) (.lst (.nil))) (.cons (.asg (.v 7) (.call i_led_to (.val (.v 1) (.val (.b2 .idx (.v 4) (.b1 .neg (.c (.int 1)))) (.val (.v 7) (.nil)))))) (.nil)) (.nil)) TT)) [some t.d, some (spD o), a2, a3, some (.list (found.map lD)), some (tI q.1), some (tI q.2), a7, none] =
        exSs Γ TT [some t.d, some (spD o), a2, a3, some (.list (found.map lD)), some (tI q.1), some (tI q.2), some (lD (stepS o prev f)), none] := fun TT => by
      cases prev with
      | none =>
        have : found = [] := by simpa using hp
        subst this
        have := eq_nilLL []
        simp only [List.map_nil] at this
        simp [hlc, LIM, this, stepS]
      | some S =>
        obtain ⟨pre, e⟩ := List.getLast?_eq_some_iff.mp hp
        subst e
        have e1 := eq_nilLL (pre ++ [S])
        have hS := hpa S rfl
        have e2 := hl o S f hS.1 fa (by omega) (by omega)
        have a9 : atD ((pre ++ [S]).map lD) (-1) = some (lD S) := by
          rw [List.map_append]; exact atD_last
        generalize hF : (pre ++ [S]).map lD = F at e1 a9 hlc ⊢
        have e3 : decide (pre ++ [S] = []) = false := by simp
        rw [e3] at e1
        simp only [lD] at hlc
        have e2' : Γ i_led_to [spD o, lD S, .list (f.map .int)] = .ok (.list ((fwd o S f).map .int)) [] := e2
        simp [hlc, LIM, e1, a9, callR, argD, outs, e2, stepS, lD]
    generalize hX : stepS o prev f = X at turn
    have xa : Asc X := hX ▸ stepS_asc fa
    have xl : X.length ≤ 200 := by
      have := stepS_len (o := o) (prev := prev) (f := f)
      rw [hX] at this; omega
    have fl2 : found.length < LIM := by simp only [List.length_cons] at hlen; unfold LIM; omega
    have e1 := eq_nilL X
    have go : goL o t prev (q :: qs) = if X = [] then [X] else X :: goL o t (some X) qs := by simp only [goL, hf, hX]
    rw [go]
    by_cases hx : X = []
    · refine ⟨[some t.d, some (spD o), a2, a3, none, some (tI q.1), some (tI q.2), some (lD X), none], .inl ?_⟩
      have b : forT comeT (exSs Γ b0_come_to) (pairT q) [some t.d, some (spD o), a2, a3, some (.list (found.map lD)), a5, a6, a7, none] = .ret (.list ((found ++ [X]).map lD)) [some t.d, some (spD o), a2, a3, none, some (tI q.1), some (tI q.2), some (lD X), none] := by
        simp only [forT, comeT, pairT, bindT, bindTs, List.set]
        unfold b0_come_to
        rw [turn]
        have e2 : decide (X = []) = true := decide_eq_true hx
        rw [e2] at e1
        generalize hY : lD X = Y at e1 ⊢
        simp [appD, getPl, setPl, fl2, e1, mvD, hY]
      simp only [List.map_cons, forF, b, if_pos hx]
    · have b : forT comeT (exSs Γ b0_come_to) (pairT q) [some t.d, some (spD o), a2, a3, some (.list (found.map lD)), a5, a6, a7, none] = .nx [some t.d, some (spD o), a2, a3, some (.list ((found ++ [X]).map lD)), some (tI q.1), some (tI q.2), some (lD X), none] := by
        simp only [forT, comeT, pairT, bindT, bindTs, List.set]
        unfold b0_come_to
        rw [turn]
        have e2 : decide (X = []) = false := decide_eq_false hx
        rw [e2] at e1
        generalize hY : lD X = Y at e1 ⊢
        simp [appD, getPl, setPl, fl2, e1, hY]
      obtain ⟨ρ, h⟩ := come_loop hs hl tok o qs (fun q hq => hqs q (List.mem_cons_of_mem _ hq)) (found ++ [X]) (some X) (some (tI q.1)) (some (tI q.2)) (some (lD X)) (by simp) (fun S e => by cases e; exact ⟨xa, xl⟩) (by simp only [List.length_cons] at hlen; simp; omega)
      refine ⟨ρ, ?_⟩
      simp only [List.map_cons, forF, b, if_neg hx]
      simpa using h

end Tx
namespace Tx
open PySem PySem.Spec PyProof.Rows L2 TV
theorem fwd_nil (o : Option Int) (f : List Int) : fwd o [] f = [] := by
  unfold fwd
  rw [List.filter_eq_nil_iff]
  intro a _
  simp
theorem lastF_nil (o : Option Int) : ∀ fs, lastF o [] fs = []
  | [] => rfl
  | f :: fs => by unfold lastF; rw [fwd_nil]; exact lastF_nil o fs
theorem goL_some (o : Option Int) (t : Tab) : ∀ (qs : List (List Int × List Int)) (S : List Int), S ≠ [] → (lastF o S (qs.map (fit t)) ≠ [] → S :: goL o t (some S) qs = seqF o S (qs.map (fit t))) ∧ (lastF o S (qs.map (fit t)) = [] → (S :: goL o t (some S) qs).getLast? = some [])
  | [], S, hS => ⟨fun _ => rfl, fun h => absurd h hS⟩
  | q :: qs, S, hS => by
    have go : goL o t (some S) (q :: qs) = if fwd o S (fit t q) = [] then [fwd o S (fit t q)] else fwd o S (fit t q) :: goL o t (some (fwd o S (fit t q))) qs := rfl
    simp only [List.map_cons, lastF, seqF]
    rw [go]
    by_cases hX : fwd o S (fit t q) = []
    · rw [if_pos hX, hX, lastF_nil]
      exact ⟨fun h => absurd rfl h, fun _ => by simp⟩
    · rw [if_neg hX]
      obtain ⟨h1, h2⟩ := goL_some o t qs _ hX
      refine ⟨fun h => by rw [h1 h], fun h => ?_⟩
      have := h2 h
      rw [List.getLast?_cons_cons]
      exact this
theorem goL_none (o : Option Int) (t : Tab) (q : List Int × List Int) (qs : List (List Int × List Int)) : (lastF o (fit t q) (qs.map (fit t)) ≠ [] → goL o t none (q :: qs) = seqF o (fit t q) (qs.map (fit t))) ∧ (lastF o (fit t q) (qs.map (fit t)) = [] → (goL o t none (q :: qs)).getLast? = some []) := by
  have go : goL o t none (q :: qs) = if fit t q = [] then [fit t q] else fit t q :: goL o t (some (fit t q)) qs := rfl
  rw [go]
  by_cases hX : fit t q = []
  · rw [if_pos hX, hX, lastF_nil]
    exact ⟨fun h => absurd rfl h, fun _ => by simp⟩
  · rw [if_neg hX]
    exact goL_some o t qs _ hX
theorem seqF_last (o : Option Int) : ∀ (fs : List (List Int)) (S : List Int), (seqF o S fs).getLast? = some (lastF o S fs)
  | [], S => rfl
  | f :: fs, S => by
    simp only [seqF, lastF]
    obtain ⟨x, xs, e⟩ := seqF_ne o (fwd o S f) fs
    have := seqF_last o fs (fwd o S f)
    rw [e] at this ⊢
    rw [List.getLast?_cons_cons]
    exact this
/-- looks and sights as data -/
abbrev lksD (qs : List (List Int × List Int)) : D := tT (qs.map (·.1))
abbrev wrdD (qs : List (List Int × List Int)) : D := tT (qs.map (·.2))
theorem zip_qs (qs : List (List Int × List Int)) : zipD ((qs.map (·.1)).map tI) ((qs.map (·.2)).map tI) = qs.map pairT := by
  unfold zipD
  induction qs with
  | nil => rfl
  | cons q qs ih => simp only [List.map_cons, List.zip_cons_cons, ih]; rfl
abbrev LF (o : Option Int) (t : Tab) (q : List Int × List Int) (qs : List (List Int × List Int)) : List Int := lastF o (fit t q) (qs.map (fit t))
def ComeFn (F : Fn) : Prop := ∀ (t : Tab) (cells : Nat), TabOk cells t → ∀ (o : Option Int) (qs : List (List Int × List Int)), QsOk cells qs → qs.length ≤ 900 → F [t.d, spD o, lksD qs, wrdD qs] = .ok (.list ((goL o t none qs).map lD)) []
theorem come_sem {Γ : Nat → Fn} (hs : ShownFn (Γ i_seen)) (hl : LedFn (Γ i_led_to)) : ComeFn (f_come_to.sem Γ) := fun t cells tok o qs hqs hlen => by
  obtain ⟨ρ, h⟩ := come_loop hs hl tok o (a2 := some (lksD qs)) (a3 := some (wrdD qs)) qs hqs [] none none none none rfl (fun S e => by cases e) (by simpa using Nat.le_trans hlen (by omega))
  simp only [List.map_nil, List.nil_append] at h
  unfold Df.sem TV.run f_come_to
  have z := zip_qs qs
  rcases h with h | ⟨b5, b6, b7, h⟩
  · simp only [lksD, wrdD, tT] at h
    generalize (goL o t none qs).map lD = R at h ⊢
    simp [-List.map_map, Df.ios, iosOf, Sh.isM, LIM, tT, z, h, mvD]
  · simp only [lksD, wrdD, tT] at h
    generalize (goL o t none qs).map lD = R at h ⊢
    simp [-List.map_map, Df.ios, iosOf, Sh.isM, LIM, tT, z, h, mvD]
theorem goL_last (o : Option Int) (t : Tab) (q : List Int × List Int) (qs : List (List Int × List Int)) : ∃ pre, goL o t none (q :: qs) = pre ++ [LF o t q qs] := by
  obtain ⟨h1, h2⟩ := goL_none o t q qs
  by_cases h : LF o t q qs = []
  · rw [h]; exact List.getLast?_eq_some_iff.mp (h2 h)
  · rw [h1 h]; exact List.getLast?_eq_some_iff.mp (seqF_last o _ _)
def ReadFn (F : Fn) : Prop := ∀ (t : Tab) (cells : Nat), TabOk cells t → ∀ (o : Option Int) (q : List Int × List Int) (qs : List (List Int × List Int)), QsOk cells (q :: qs) → qs.length ≤ 800 → F [t.d, spD o, lksD (q :: qs), wrdD (q :: qs)] = .ok (.bool (decide (LF o t q qs ≠ []))) []
theorem read_sem {Γ : Nat → Fn} (hc : ComeFn (Γ i_come_to)) : ReadFn (f_is_read.sem Γ) := fun t cells tok o q qs hqs hlen => by
  have e := hc t cells tok o (q :: qs) hqs (by simp; omega)
  obtain ⟨pre, e2⟩ := goL_last o t q qs
  have a1 : atD ((goL o t none (q :: qs)).map lD) (-1) = some (lD (LF o t q qs)) := by
    rw [e2, List.map_append]; exact atD_last
  have e3 := eq_nilL (LF o t q qs)
  generalize lksD (q :: qs) = L1 at e ⊢
  generalize wrdD (q :: qs) = L2 at e ⊢
  generalize (goL o t none (q :: qs)).map lD = R at e a1
  unfold Df.sem TV.run f_is_read
  simp [Df.ios, iosOf, Sh.isM, LIM, callR, argD, outs, e, a1, e3]
/-! what is lived through -/
def bkL (o : Option Int) : List (List Int) → List (List Int)
  | [] => []
  | [x] => [x]
  | x :: y :: r => bwd o x ((bkL o (y :: r)).headD []) :: bkL o (y :: r)
theorem bkL_cons {o : Option Int} {x : List Int} {ys : List (List Int)} (h : ys ≠ []) : bkL o (x :: ys) = bwd o x ((bkL o ys).headD []) :: bkL o ys := by
  cases ys with
  | nil => exact absurd rfl h
  | cons y r => rfl
theorem bkL_ne {o : Option Int} : ∀ {xs : List (List Int)}, xs ≠ [] → bkL o xs ≠ []
  | [], h => absurd rfl h
  | [x], _ => by simp [bkL]
  | x :: y :: r, _ => by simp [bkL]
theorem bk_head (o : Option Int) : ∀ (fs : List (List Int)) (S : List Int) (b : Int), b ∈ (bkL o (seqF o S fs)).headD [] ↔ b ∈ S ∧ ∃ e, Ch o b fs e
  | [], S, b => by
    simp only [seqF, bkL, List.headD_cons]
    exact ⟨fun h => ⟨h, b, rfl⟩, fun h => h.1⟩
  | f :: fs, S, b => by
    obtain ⟨x, xs, e⟩ := seqF_ne o (fwd o S f) fs
    have ih := bk_head o fs (fwd o S f)
    have hd : (bkL o (seqF o S (f :: fs))).headD [] = bwd o S ((bkL o (seqF o (fwd o S f) fs)).headD []) := by
      simp only [seqF]
      rw [bkL_cons (by rw [e]; simp)]
      rfl
    rw [hd, mem_bwd]
    constructor
    · rintro ⟨h1, c, hc, h2⟩
      obtain ⟨h3, e, h4⟩ := (ih c).mp hc
      exact ⟨h1, e, c, (mem_fwd.mp h3).1, h2, h4⟩
    · rintro ⟨h1, e, c, h2, h3, h4⟩
      exact ⟨h1, c, (ih c).mpr ⟨mem_fwd.mpr ⟨h2, b, h1, h3⟩, e, h4⟩, h3⟩
theorem bk_last (o : Option Int) : ∀ (fs : List (List Int)) (S : List Int), (bkL o (seqF o S fs)).getLast? = some (lastF o S fs)
  | [], S => rfl
  | f :: fs, S => by
    obtain ⟨x, xs, e⟩ := seqF_ne o (fwd o S f) fs
    have ih := bk_last o fs (fwd o S f)
    have ne := bkL_ne (o := o) (xs := seqF o (fwd o S f) fs) (by rw [e]; simp)
    simp only [seqF, lastF]
    rw [bkL_cons (by rw [e]; simp)]
    obtain ⟨y, ys, e2⟩ := List.exists_cons_of_ne_nil ne
    rw [e2] at ih ⊢
    rw [List.getLast?_cons_cons]
    exact ih
theorem bk_asc (o : Option Int) : ∀ {xs : List (List Int)}, (∀ x ∈ xs, Asc x ∧ x.length ≤ 200) → ∀ y ∈ bkL o xs, Asc y ∧ y.length ≤ 200
  | [], _, y, hy => by simp [bkL] at hy
  | [x], h, y, hy => by simp [bkL] at hy; subst hy; exact h _ List.mem_cons_self
  | x :: z :: r, h, y, hy => by
    simp only [bkL, List.mem_cons] at hy
    rcases hy with rfl | hy
    · have := h x List.mem_cons_self
      exact ⟨bwd_asc this.1, Nat.le_trans bwd_len this.2⟩
    · exact bk_asc o (xs := z :: r) (fun w hw => h w (List.mem_cons_of_mem _ hw)) y hy
theorem seq_asc (o : Option Int) : ∀ {fs : List (List Int)} {S : List Int}, (Asc S ∧ S.length ≤ 200) → (∀ x ∈ fs, Asc x ∧ x.length ≤ 200) → ∀ x ∈ seqF o S fs, Asc x ∧ x.length ≤ 200
  | [], S, h, _, x, hx => by simp [seqF] at hx; subst hx; exact h
  | f :: fs, S, h, hf, x, hx => by
    simp only [seqF, List.mem_cons] at hx
    rcases hx with rfl | hx
    · exact h
    · have := hf f List.mem_cons_self
      exact seq_asc o ⟨fwd_asc this.1, Nat.le_trans fwd_len this.2⟩ (fun y hy => hf y (List.mem_cons_of_mem _ hy)) x hx

end Tx
namespace Tx
open PySem PySem.Spec PyProof.Rows L2 TV
theorem fits_asc {t : Tab} {cells : Nat} (tok : TabOk cells t) (qs : List (List Int × List Int)) : ∀ x ∈ qs.map (fit t), Asc x ∧ x.length ≤ 200 := fun x hx => by
  obtain ⟨q, _, rfl⟩ := List.mem_map.mp hx
  have := fit_len t q
  have := tok.many
  exact ⟨fit_asc t q, by omega⟩
theorem lived_loop {Γ : Nat → Fn} (hl : LeadFn (Γ i_leading_to)) {o : Option Int} {L : List (List Int)} (hL : ∀ x ∈ L, Asc x ∧ x.length ≤ 200) (hlen : L.length ≤ 1000) {x : List Int} {pre : List (List Int)} (e : L = pre ++ [x]) {a0 a2 a3 a4 : Option D} :
    ∃ a6, forF (forT (Tg.v 6) (exSs Γ b0_lived_through)) ((pre.map lD).reverse) [a0, some (spD o), a2, a3, a4, some (.list [lD x]), none] = .nx [a0, some (spD o), a2, a3, a4, some (.list ((bkL o L).reverse.map lD)), a6] := by
  obtain ⟨ρ, h, pre', suf, a6, hp, hn, hr, rfl⟩ := forF_inv (body := forT (Tg.v 6) (exSs Γ b0_lived_through))
    (fun rest ρ => ∃ (pre' suf : List (List Int)) (a6 : Option D), pre' ++ suf = L ∧ suf ≠ [] ∧ rest = (pre'.map lD).reverse ∧ ρ = [a0, some (spD o), a2, a3, a4, some (.list ((bkL o suf).reverse.map lD)), a6])
    (fun d ds ρ ⟨pre', suf, a6, hp, hn, hr, e⟩ => by
      subst e
      rcases List.eq_nil_or_concat pre' with e | ⟨p2, s, e⟩
      · subst e; simp at hr
      · rw [List.concat_eq_append] at e
        subst e
        simp only [List.map_append, List.map_cons, List.map_nil, List.reverse_append, List.reverse_cons, List.reverse_nil, List.nil_append, List.cons_append, List.cons.injEq] at hr
        obtain ⟨rfl, rfl⟩ := hr
        have ne := bkL_ne (o := o) hn
        obtain ⟨y, ys, ey⟩ := List.exists_cons_of_ne_nil ne
        have hs := hL s (by rw [← hp]; simp)
        have hy := bk_asc o (xs := suf) (fun w hw => hL w (by rw [← hp]; simp [hw])) y (by rw [ey]; exact List.mem_cons_self)
        have e2 := hl o s y hs.1 hy.1 (by omega) (by omega)
        have e3 : bkL o (s :: suf) = bwd o s y :: (y :: ys) := by rw [bkL_cons hn, ey]; rfl
        have len : (bkL o suf).length ≤ 1000 := by
          have : ∀ xs : List (List Int), (bkL o xs).length ≤ xs.length := fun xs => by
            induction xs with
            | nil => simp [bkL]
            | cons x xs ih =>
              cases xs with
              | nil => simp [bkL]
              | cons z r => simp [bkL] at ih ⊢; omega
          have h1 := this suf
          have h2 : suf.length ≤ L.length := by rw [← hp]; simp; omega
          omega
        rw [ey] at len
        refine ⟨_, .inl ?_, p2, s :: suf, some (lD s), by rw [← hp]; simp, by simp, rfl, rfl⟩
        rw [ey, e3]
        have a1 : atD (((y :: ys).reverse).map lD) (-1) = some (lD y) := by
          rw [List.reverse_cons, List.map_append]; exact atD_last
        have l2 : (((y :: ys).reverse).map lD).length < LIM := by simp at len ⊢; unfold LIM; omega
        have e4 : ((bwd o s y :: y :: ys).reverse).map lD = ((y :: ys).reverse).map lD ++ [lD (bwd o s y)] := by
          rw [List.reverse_cons, List.map_append]; rfl
        rw [e4]
        generalize ((y :: ys).reverse).map lD = K at a1 l2 ⊢
        have e5 : Γ i_leading_to [spD o, lD s, lD y] = .ok (lD (bwd o s y)) [] := e2
        simp [b0_lived_through, callR, argD, outs, a1, e5, appD, getPl, setPl, l2])
    ((pre.map lD).reverse) [a0, some (spD o), a2, a3, a4, some (.list [lD x]), none] ⟨pre, [x], none, e.symm, by simp, rfl, rfl⟩
  have : pre' = [] := by
    cases pre' with
    | nil => rfl
    | cons _ _ => simp at hr
  subst this
  simp only [List.nil_append] at hp
  subst hp
  exact ⟨a6, h⟩
def LivedFn (F : Fn) : Prop := ∀ (t : Tab) (cells : Nat), TabOk cells t → ∀ (o : Option Int) (q : List Int × List Int) (qs : List (List Int × List Int)), QsOk cells (q :: qs) → qs.length ≤ 800 → LF o t q qs ≠ [] → F [t.d, spD o, lksD (q :: qs), wrdD (q :: qs)] = .ok (.list ((bkL o (seqF o (fit t q) (qs.map (fit t)))).map lD)) []
@[simp] theorem o_rev {ds : List D} : b1 .rev (.list ds) = some (.list ds.reverse) := rfl
@[simp] theorem o_rv2 {ds : List D} : b1 .rv2 (.list ds) = some (.list ds.dropLast.reverse) := rfl
theorem seqF_len (o : Option Int) : ∀ (fs : List (List Int)) (S : List Int), (seqF o S fs).length = fs.length + 1
  | [], S => rfl
  | f :: fs, S => by simp [seqF, seqF_len o fs]
theorem lived_sem {Γ : Nat → Fn} (hc : ComeFn (Γ i_come_to)) (hl : LeadFn (Γ i_leading_to)) : LivedFn (f_lived_through.sem Γ) := fun t cells tok o q qs hqs hlen hne => by
  have e := hc t cells tok o (q :: qs) hqs (by simp; omega)
  have e0 := (goL_none o t q qs).1 hne
  rw [e0] at e
  have fa := fits_asc tok (q :: qs)
  have sa := seq_asc o (fs := qs.map (fit t)) (S := fit t q) (fa _ (by simp)) (fun x hx => fa x (by simp only [List.map_cons, List.mem_cons]; exact .inr hx))
  obtain ⟨pre, e2⟩ := List.getLast?_eq_some_iff.mp (seqF_last o (qs.map (fit t)) (fit t q))
  have sl := seqF_len o (qs.map (fit t)) (fit t q)
  rw [List.length_map] at sl
  generalize seqF o (fit t q) (qs.map (fit t)) = L at e sa e2 sl ⊢
  obtain ⟨a6, h⟩ := lived_loop (o := o) (a0 := some t.d) (a2 := some (lksD (q :: qs))) (a3 := some (wrdD (q :: qs))) (a4 := some (.list (L.map lD))) hl sa (by omega) e2
  have e3 := eq_nilL (LF o t q qs)
  have a1 : atD (L.map lD) (-1) = some (lD (LF o t q qs)) := by
    rw [e2, List.map_append]; exact atD_last
  have dl : (L.map lD).dropLast = pre.map lD := by rw [e2, List.map_append]; simp
  have rv : ((bkL o L).reverse.map lD).reverse = (bkL o L).map lD := by rw [List.map_reverse, List.reverse_reverse]
  generalize lksD (q :: qs) = L1 at e h ⊢
  generalize wrdD (q :: qs) = L2 at e h ⊢
  change eqD (lD (LF o t q qs)) (.list []) = _ at e3
  rw [decide_eq_false hne] at e3
  generalize (bkL o L).reverse.map lD = K at h rv
  generalize hM : L.map lD = M at e a1 dl h
  unfold Df.sem TV.run f_lived_through
  change forF _ (pre.map lD).reverse [some t.d, some (spD o), some L1, some L2, some (.list M), some (.list [lD (LF o t q qs)]), none] = _ at h
  generalize lD (LF o t q qs) = Z at h e3 a1
  simp [-List.map_reverse, Df.ios, iosOf, Sh.isM, LIM, callR, argD, outs, e, a1, e3, dl, h, rv]
/-- the greatest begin, the least end -/
structure IsSpan (o : Option Int) (f : List Int) (fs : List (List Int)) (hi lo : Int) : Prop where
  h1 : hi ∈ f ∧ ∃ e, Ch o hi fs e
  h2 : ∀ b ∈ f, (∃ e, Ch o b fs e) → b ≤ hi
  l1 : ∃ b ∈ f, Ch o b fs lo
  l2 : ∀ b ∈ f, ∀ e, Ch o b fs e → lo ≤ e
theorem asc_last {xs : List Int} (ha : Asc xs) {x : Int} (hx : x ∈ xs) (h : ∀ y ∈ xs, y ≤ x) : xs.getLast? = some x := by
  have ne : xs ≠ [] := fun e => by subst e; cases hx
  obtain ⟨i, hi⟩ := List.getElem?_of_mem hx
  have li := (List.getElem?_eq_some_iff.mp hi).1
  have hl : xs[xs.length - 1]? = some xs[xs.length - 1] := List.getElem?_eq_getElem (by omega)
  have h1 := asc_get ha hi hl (by omega)
  have h2 := h _ (List.mem_of_getElem? hl)
  rw [List.getLast?_eq_getElem?, hl]
  congr 1
  omega
theorem asc_head {xs : List Int} (ha : Asc xs) {x : Int} (hx : x ∈ xs) (h : ∀ y ∈ xs, x ≤ y) : xs[0]? = some x := by
  obtain ⟨i, hi⟩ := List.getElem?_of_mem hx
  have li := (List.getElem?_eq_some_iff.mp hi).1
  have hl : xs[0]? = some xs[0] := List.getElem?_eq_getElem (by omega)
  have h1 := asc_get ha hl hi (by omega)
  have h2 := h _ (List.mem_of_getElem? hl)
  rw [hl]
  congr 1
  omega
theorem atD_neg {xs : List D} {x : D} (h : xs.getLast? = some x) : atD xs (-1) = some x := by
  obtain ⟨pre, rfl⟩ := List.getLast?_eq_some_iff.mp h
  exact atD_last
def SureFn (F : Fn) : Prop := ∀ (t : Tab) (cells : Nat), TabOk cells t → ∀ (o : Option Int) (q : List Int × List Int) (qs : List (List Int × List Int)), QsOk cells (q :: qs) → qs.length ≤ 800 → ∀ hi lo, IsSpan o (fit t q) (qs.map (fit t)) hi lo → F [t.d, spD o, lksD (q :: qs), wrdD (q :: qs)] = .ok (.tuple [.int hi, .int lo]) []
theorem IsSpan.ne {o : Option Int} {t : Tab} {q : List Int × List Int} {qs : List (List Int × List Int)} {hi lo : Int} (s : IsSpan o (fit t q) (qs.map (fit t)) hi lo) : LF o t q qs ≠ [] := fun h => by
  have := (mem_lastF (o := o) (e := lo) (fs := qs.map (fit t)) (S := fit t q)).mpr s.l1
  change lo ∈ LF o t q qs at this
  rw [h] at this; cases this
theorem sure_sem {Γ : Nat → Fn} (hl : LivedFn (Γ i_lived_through)) : SureFn (f_sure_states.sem Γ) := fun t cells tok o q qs hqs hlen hi lo s => by
  have e := hl t cells tok o q qs hqs hlen s.ne
  have fa := fits_asc tok (q :: qs)
  have sa := seq_asc o (fs := qs.map (fit t)) (S := fit t q) (fa _ (by simp)) (fun x hx => fa x (by simp only [List.map_cons, List.mem_cons]; exact .inr hx))
  have ba := bk_asc o sa
  have bh := bk_head o (qs.map (fit t)) (fit t q)
  have bl := bk_last o (qs.map (fit t)) (fit t q)
  have bn := bkL_ne (o := o) (xs := seqF o (fit t q) (qs.map (fit t))) (by obtain ⟨x, xs, e⟩ := seqF_ne o (fit t q) (qs.map (fit t)); rw [e]; simp)
  generalize bkL o (seqF o (fit t q) (qs.map (fit t))) = K at e ba bh bl bn
  obtain ⟨k, ks, rfl⟩ := List.exists_cons_of_ne_nil bn
  simp only [List.headD_cons] at bh
  have ka := (ba k List.mem_cons_self).1
  have a1 : atD (k.map PyData.int) (-1) = some (.int hi) := atD_neg (by
    rw [List.getLast?_map, asc_last ka ((bh hi).mpr s.h1) fun y hy => s.h2 y ((bh y).mp hy).1 ((bh y).mp hy).2]; rfl)
  have la := (ba _ (List.mem_of_getLast? bl)).1
  have a2 : atD ((k :: ks).map lD) (-1) = some (lD (LF o t q qs)) := atD_neg (by rw [List.getLast?_map, bl]; rfl)
  have a3 : atD ((LF o t q qs).map PyData.int) 0 = some (.int lo) := atD_ints (i := 0) (asc_head la (mem_lastF.mpr s.l1) fun y hy => by
    obtain ⟨b, hb, h⟩ := mem_lastF.mp hy
    exact s.l2 b hb y h)
  have a0 : atD ((k :: ks).map lD) 0 = some (lD k) := atD_at (n := 0) rfl
  generalize (k :: ks).map lD = M at e a0 a2
  generalize lksD (q :: qs) = L1 at e ⊢
  generalize wrdD (q :: qs) = L2 at e ⊢
  unfold Df.sem TV.run f_sure_states
  simp only [lD] at a0 a2
  simp [Df.ios, iosOf, Sh.isM, LIM, callR, argD, outs, e, a0, a1, a2, a3]

end Tx
namespace Tx
open PySem PySem.Spec PyProof.Rows L2 TV
def valAt (t : Tab) (i : Int) : Int := t.vals.getD i.toNat 0
theorem val_at {t : Tab} {i : Int} (h0 : 0 ≤ i) (h1 : i < t.vals.length) : atD (t.vals.map PyData.int) i = some (.int (valAt t i)) := by
  obtain ⟨n, rfl⟩ := Int.eq_ofNat_of_zero_le h0
  have hn : n < t.vals.length := by omega
  unfold valAt
  rw [List.getD_eq_getElem?_getD, Int.toNat_natCast, List.getElem?_eq_getElem hn]
  exact atD_ints (List.getElem?_eq_getElem hn)
@[simp] theorem o_td0 {t : Tab} : b2 .idx t.d (.int 0) = some (.tuple (t.words.map tI)) := rfl
@[simp] theorem o_td1 {t : Tab} : b2 .idx t.d (.int 1) = some (.tuple (t.vals.map .int)) := rfl
theorem Ch.mem {o : Option Int} {P : Int → Prop} : ∀ {fs : List (List Int)} {b e : Int}, Ch o b fs e → P b → (∀ f ∈ fs, ∀ x ∈ f, P x) → P e
  | [], b, e, h, hb, _ => by have h : e = b := h; exact h ▸ hb
  | f :: fs, b, e, ⟨c, h1, _, h2⟩, hb, hf => Ch.mem h2 (hf f List.mem_cons_self c h1) fun g hg => hf g (List.mem_cons_of_mem _ hg)
theorem fit_rng {t : Tab} {q : List Int × List Int} {x : Int} (h : x ∈ fit t q) : 0 ≤ x ∧ x < t.words.length := by
  obtain ⟨n, rfl, h1, _⟩ := mem_fit.mp h
  omega
theorem fits_rng {t : Tab} {qs : List (List Int × List Int)} : ∀ f ∈ qs.map (fit t), ∀ x ∈ f, 0 ≤ x ∧ x < (t.words.length : Int) := fun f hf x hx => by
  obtain ⟨q, _, rfl⟩ := List.mem_map.mp hf
  exact fit_rng hx
theorem IsSpan.rng {o : Option Int} {t : Tab} {q : List Int × List Int} {qs : List (List Int × List Int)} {hi lo : Int} (s : IsSpan o (fit t q) (qs.map (fit t)) hi lo) : (0 ≤ hi ∧ hi < t.words.length) ∧ (0 ≤ lo ∧ lo < (t.words.length : Int)) := by
  refine ⟨fit_rng s.h1.1, ?_⟩
  obtain ⟨b, hb, h⟩ := s.l1
  exact Ch.mem (P := fun x => 0 ≤ x ∧ x < (t.words.length : Int)) h (fit_rng hb) fits_rng
def SvalFn (F : Fn) : Prop := ∀ (t : Tab) (cells : Nat), TabOk cells t → ∀ (o : Option Int) (q : List Int × List Int) (qs : List (List Int × List Int)), QsOk cells (q :: qs) → qs.length ≤ 800 → ∀ hi lo, IsSpan o (fit t q) (qs.map (fit t)) hi lo → F [t.d, spD o, lksD (q :: qs), wrdD (q :: qs)] = .ok (.tuple [.int (valAt t hi), .int (valAt t lo)]) []
theorem sval_sem {Γ : Nat → Fn} (hs : SureFn (Γ i_sure_states)) : SvalFn (f_sure_values.sem Γ) := fun t cells tok o q qs hqs hlen hi lo s => by
  have e := hs t cells tok o q qs hqs hlen hi lo s
  obtain ⟨⟨r1, r2⟩, r3, r4⟩ := s.rng
  have le := tok.len
  have a1 := val_at (t := t) r1 (by omega)
  have a2 := val_at (t := t) r3 (by omega)
  generalize lksD (q :: qs) = L1 at e ⊢
  generalize wrdD (q :: qs) = L2 at e ⊢
  unfold Df.sem TV.run f_sure_values
  simp [Df.ios, iosOf, Sh.isM, LIM, callR, argD, outs, e, bindTs, bindT, a1, a2]
/-! the law's own span -/
def chM (r : Option D) (T : R D) (ρ : TV.Env) : R D := match r with
  | some (.bool true) => T
  | some (.bool false) => .ok (.bool false) ρ
  | _ => .no
@[simp] theorem chM_b {b : Bool} {T : R D} {ρ : TV.Env} : chM (some (.bool b)) T ρ = if b = true then T else .ok (.bool false) ρ := by cases b <;> rfl
def chK' (f g : B2) (x : D) (Z : TV.Env → R D) : D → TV.Env → R D := fun y ρ => chM (b2 f x y) ((Z ρ).bind fun z ρ => R.of (b2 g y z) ρ) ρ
@[simp] theorem chK'_e {f g : B2} {x y : D} {Z : TV.Env → R D} {ρ : TV.Env} : chK' f g x Z y ρ = chM (b2 f x y) ((Z ρ).bind (b2K' g y)) ρ := rfl
def chK (f g : B2) (Y Z : TV.Env → R D) : D → TV.Env → R D := fun x ρ => (Y ρ).bind (chK' f g x Z)
@[simp] theorem chK_e {f g : B2} {x : D} {Y Z : TV.Env → R D} {ρ : TV.Env} : chK f g Y Z x ρ = (Y ρ).bind (chK' f g x Z) := rfl
@[simp] theorem e_ch {Γ : Nat → Fn} {a : Option D} {as : TV.Env} {f g : B2} {x y z : E} : evE Γ (.ch f g x y z) (a :: as) = (evE Γ x (a :: as)).bind (chK f g (evE Γ y) (evE Γ z)) := by
  show chD (b2 f) (b2 g) (evE Γ x) (evE Γ y) (evE Γ z) (a :: as) = _
  unfold chD
  rfl
/-- a comprehension over numbers with a condition that hangs on the number alone -/
theorem lcF_filt {body : D → TV.Env → R (Option D)} {ρ : TV.Env} {p : Int → Bool} (xs : List Int) (h : ∀ x ∈ xs, body (.int x) ρ = .ok (if p x = true then some (.int x) else none) ρ) : lcF body (xs.map .int) ρ = .ok ((xs.filter p).map .int) ρ := by
  have m := lcF_fm (g := PyData.int) (f := fun x => if p x = true then some (PyData.int x) else none) xs h
  rw [m]
  congr 1
  clear m h
  induction xs with
  | nil => rfl
  | cons x xs ih =>
    by_cases hx : p x = true
    · simp only [List.filterMap_cons, hx, if_true, List.filter_cons, List.map_cons, ih]
    · simp only [List.filterMap_cons, hx, if_false, List.filter_cons, ih, Bool.false_eq_true]
theorem lcF_ones {body : D → TV.Env → R (Option D)} {ρ : TV.Env} {p : Int → Bool} {c : D} (xs : List Int) (h : ∀ x ∈ xs, body (.int x) ρ = .ok (if p x = true then some c else none) ρ) : lcF body (xs.map .int) ρ = .ok (List.replicate (xs.filter p).length c) ρ := by
  have m := lcF_fm (g := PyData.int) (f := fun x => if p x = true then some c else none) xs h
  rw [m]
  congr 1
  clear m h
  induction xs with
  | nil => rfl
  | cons x xs ih =>
    by_cases hx : p x = true
    · simp only [List.filterMap_cons, hx, if_true, List.filter_cons, List.length_cons, List.replicate_succ, ih]
    · simp only [List.filterMap_cons, hx, if_false, List.filter_cons, ih, Bool.false_eq_true]
theorem eq_ones (n : Nat) : eqD (.list (List.replicate n (.int 1))) (.list []) = some (decide (n = 0)) := by
  have := eq_nil (List.replicate n 1)
  simp only [List.map_replicate] at this
  rw [this]
  cases n <;> simp [List.replicate_succ]
def topB (top : Int) (w s : Int) : Bool := decide (w ≤ s) && decide (s ≤ w + top)
def topO (o : Option Int) (many : Nat) : Int := match o with
  | none => many
  | some s => s
theorem near_top {o : Option Int} {many : Nat} {w s : Int} (h0 : 0 ≤ w) (h1 : s < many) : topB (topO o many) w s = nearB o w s := by
  unfold topB nearB topO
  cases o with
  | none => simp; omega
  | some v =>
    show (decide (w ≤ s) && decide (s ≤ w + v)) = (decide (w ≤ s) && decide (s - w ≤ v))
    congr 1
    rw [decide_eq_decide]
    omega
theorem left_lc {Γ : Nat → Fn} {X f : List Int} (hX : X.length ≤ 1000) (hf : f.length ≤ 1000) {top : Int} {a0 a1 a2 a3 a4 a5 a6 a7 a8 a9 a10 a14 a15 : Option D} :
    lcD [14] (Tg.v 14) (evW Γ (.seq (.v 12))) (ifD (evE Γ c1__law_span) (evE Γ e1__law_span)) [a0, a1, a2, a3, a4, a5, a6, a7, a8, a9, a10, some (lD X), some (lD f), some (.int top), a14, a15] = .ok (lD (f.filter fun s => X.any fun w => topB top w s)) [a0, a1, a2, a3, a4, a5, a6, a7, a8, a9, a10, some (lD X), some (lD f), some (.int top), a14, a15] := by
  have inner : ∀ s : Int, lcD [15] (Tg.v 15) (evW Γ (.seq (.v 11))) (ifD (evE Γ c0__law_span) (evE Γ e0__law_span)) [a0, a1, a2, a3, a4, a5, a6, a7, a8, a9, a10, some (lD X), some (lD f), some (.int top), some (.int s), a15] = .ok (.list (List.replicate (X.filter fun w => topB top w s).length (.int 1))) [a0, a1, a2, a3, a4, a5, a6, a7, a8, a9, a10, some (lD X), some (lD f), some (.int top), some (.int s), a15] := fun s => by
    have m := lcF_ones (ρ := [a0, a1, a2, a3, a4, a5, a6, a7, a8, a9, a10, some (lD X), some (lD f), some (.int top), some (.int s), none]) (body := lcT [15] (Tg.v 15) (ifD (evE Γ c0__law_span) (evE Γ e0__law_span))) (p := fun w => topB top w s) (c := .int 1) X (fun w _ => by
      unfold topB
      by_cases h1 : w ≤ s
      · by_cases h2 : s ≤ w + top
        · simp [c0__law_span, e0__law_span, lcT, bindT, ifD, wipeE, h1, h2]
        · simp [c0__law_span, e0__law_span, lcT, bindT, ifD, wipeE, h1, h2]
      · simp [c0__law_span, e0__law_span, lcT, bindT, ifD, wipeE, h1])
    have hlc := lcD_ok (vs := [15]) (tg := Tg.v 15) (w := evW Γ (.seq (.v 11))) (body := ifD (evE Γ c0__law_span) (evE Γ e0__law_span)) (ρ := [a0, a1, a2, a3, a4, a5, a6, a7, a8, a9, a10, some (lD X), some (lD f), some (.int top), some (.int s), a15]) (ρ1 := [a0, a1, a2, a3, a4, a5, a6, a7, a8, a9, a10, some (lD X), some (lD f), some (.int top), some (.int s), a15]) (by simp [lD]) (by simp [LIM]; omega) m
    rw [hlc]
    simp [backE]
  have m := lcF_filt (ρ := [a0, a1, a2, a3, a4, a5, a6, a7, a8, a9, a10, some (lD X), some (lD f), some (.int top), none, a15]) (body := lcT [14] (Tg.v 14) (ifD (evE Γ c1__law_span) (evE Γ e1__law_span))) (p := fun s => X.any fun w => topB top w s) f (fun s _ => by
    have e1 := eq_ones (X.filter fun w => topB top w s).length
    have e2 : (X.any fun w => topB top w s) = !decide ((X.filter fun w => topB top w s).length = 0) := by
      rw [Bool.eq_iff_iff]
      simp [List.filter_eq_nil_iff]
    have i1 := inner s
    rw [e2]
    generalize (X.filter fun w => topB top w s).length = n at e1 i1 ⊢
    by_cases hn : n = 0
    · simp [c1__law_span, e1__law_span, lcT, bindT, ifD, wipeE, i1, LIM, e1, hn] at e1 ⊢
      try simp [e1]
    · simp [c1__law_span, e1__law_span, lcT, bindT, ifD, wipeE, i1, LIM, e1, hn])
  have hlc := lcD_ok (vs := [14]) (tg := Tg.v 14) (w := evW Γ (.seq (.v 12))) (body := ifD (evE Γ c1__law_span) (evE Γ e1__law_span)) (ρ := [a0, a1, a2, a3, a4, a5, a6, a7, a8, a9, a10, some (lD X), some (lD f), some (.int top), a14, a15]) (ρ1 := [a0, a1, a2, a3, a4, a5, a6, a7, a8, a9, a10, some (lD X), some (lD f), some (.int top), a14, a15]) (by simp [lD]) (by simp [LIM]; omega) m
  rw [hlc]
  simp [backE, lD]

end Tx
namespace Tx
open PySem PySem.Spec PyProof.Rows L2 TV
theorem cut_from1 {d : D} {ds : List D} : TV.cutD (d :: ds) (some 1) none = ds := by
  have e : HT.sIx (d :: ds).length 0 (some 1) = 1 := by
    have h := HT.sIx_nat (d :: ds).length 0 1
    rw [show ((1 : Nat) : Int) = 1 from rfl] at h
    rw [h]
    simp
  unfold TV.cutD
  rw [e, HT.sIx_none]
  simp
@[simp] theorem o_slLL' {ds : List D} {i : Int} : b2 .slL (.list ds) (.int i) = some (.list (TV.cutD ds (some i) none)) := rfl
@[simp] theorem o_slLT' {ds : List D} {i : Int} : b2 .slL (.tuple ds) (.int i) = some (.tuple (TV.cutD ds (some i) none)) := rfl
theorem left_fwd {o : Option Int} {many : Nat} {X f : List Int} (hX : ∀ x ∈ X, 0 ≤ x) (hf : ∀ x ∈ f, x < (many : Int)) : (f.filter fun s => X.any fun w => topB (topO o many) w s) = fwd o X f := by
  unfold fwd
  refine List.filter_congr fun s hs => ?_
  rw [Bool.eq_iff_iff, List.any_eq_true, List.any_eq_true]
  constructor
  · rintro ⟨w, h1, h2⟩; exact ⟨w, h1, by rw [← near_top (hX w h1) (hf s hs)]; exact h2⟩
  · rintro ⟨w, h1, h2⟩; exact ⟨w, h1, by rw [near_top (hX w h1) (hf s hs)]; exact h2⟩
theorem left_loop {Γ : Nat → Fn} {o : Option Int} {many : Nat} {a0 a2 a3 a4 a5 a7 a8 a9 a10 a14 a15 : Option D} : ∀ (fs : List (List Int)) (X : List Int) (a12 a13 : Option D), X.length ≤ 1000 → (∀ x ∈ X, 0 ≤ x ∧ x < (many : Int)) → (∀ f ∈ fs, f.length ≤ 1000 ∧ ∀ x ∈ f, 0 ≤ x ∧ x < (many : Int)) →
    ∃ b12 b13, forF (forT (Tg.v 12) (exSs Γ b0__law_span)) (fs.map lD) [a0, some (spD o), a2, a3, a4, a5, some (.int (many : Nat)), a7, a8, a9, a10, some (lD X), a12, a13, a14, a15] = .nx [a0, some (spD o), a2, a3, a4, a5, some (.int (many : Nat)), a7, a8, a9, a10, some (lD (lastF o X fs)), b12, b13, a14, a15]
  | [], X, a12, a13, _, _, _ => ⟨a12, a13, rfl⟩
  | f :: fs, X, a12, a13, hl, hX, hfs => by
    obtain ⟨fl, fr⟩ := hfs f List.mem_cons_self
    have lc := left_lc (Γ := Γ) (X := X) (f := f) (top := topO o many) hl fl (a0 := a0) (a1 := some (spD o)) (a2 := a2) (a3 := a3) (a4 := a4) (a5 := a5) (a6 := some (.int (many : Nat))) (a7 := a7) (a8 := a8) (a9 := a9) (a10 := a10) (a14 := a14) (a15 := a15)
    rw [left_fwd (fun x hx => (hX x hx).1) (fun x hx => (fr x hx).2)] at lc
    have b : forT (Tg.v 12) (exSs Γ b0__law_span) (lD f) [a0, some (spD o), a2, a3, a4, a5, some (.int (many : Nat)), a7, a8, a9, a10, some (lD X), a12, a13, a14, a15] = .nx [a0, some (spD o), a2, a3, a4, a5, some (.int (many : Nat)), a7, a8, a9, a10, some (lD (fwd o X f)), some (lD f), some (.int (topO o many)), a14, a15] := by
      generalize lD (fwd o X f) = R at lc
      generalize lD X = X' at lc
      generalize lD f = f' at lc
      cases o with
      | none =>
        simp only [topO] at lc
        simp [b0__law_span, spD, lc, topO] at lc ⊢
        try simp [lc]
      | some s =>
        simp only [topO] at lc
        simp [b0__law_span, spD, lc, topO] at lc ⊢
        try simp [lc]
    obtain ⟨b12, b13, h⟩ := left_loop fs (fwd o X f) (some (lD f)) (some (.int (topO o many))) (Nat.le_trans fwd_len fl) (fun x hx => fr x (mem_fwd.mp hx).1) (fun g hg => hfs g (List.mem_cons_of_mem _ hg))
    refine ⟨b12, b13, ?_⟩
    simp only [List.map_cons, forF, b, lastF]
    exact h
theorem lastF_asc {o : Option Int} : ∀ {fs : List (List Int)} {X : List Int}, Asc X → (∀ f ∈ fs, Asc f) → Asc (lastF o X fs)
  | [], X, h, _ => h
  | f :: fs, X, h, hf => by
    unfold lastF
    exact lastF_asc (fwd_asc (hf f List.mem_cons_self)) fun g hg => hf g (List.mem_cons_of_mem _ hg)
theorem lastF_len {o : Option Int} : ∀ {fs : List (List Int)} {X : List Int} {n : Nat}, X.length ≤ n → (∀ f ∈ fs, f.length ≤ n) → (lastF o X fs).length ≤ n
  | [], X, n, h, _ => h
  | f :: fs, X, n, h, hf => by
    unfold lastF
    exact lastF_len (Nat.le_trans fwd_len (hf f List.mem_cons_self)) fun g hg => hf g (List.mem_cons_of_mem _ hg)
/-- what is known of a span so far -/
def SpanSo (o : Option Int) (done : List Int) (fs : List (List Int)) (a7 a8 : D) : Prop := ((∀ b ∈ done, ∀ e, ¬ Ch o b fs e) ∧ a7 = .none ∧ a8 = .none) ∨ ∃ hi lo, IsSpan o done fs hi lo ∧ a7 = .int hi ∧ a8 = .int lo
theorem begin_loop {Γ : Nat → Fn} {o : Option Int} {many : Nat} {f0 : List Int} {fs : List (List Int)} (ha : Asc f0) (h0 : ∀ x ∈ f0, 0 ≤ x ∧ x < (many : Int)) (hfs : ∀ f ∈ fs, (Asc f ∧ f.length ≤ 200) ∧ ∀ x ∈ f, 0 ≤ x ∧ x < (many : Int)) {a0 a2 a3 a9 a10 a14 a15 : Option D} {fl : List D} (hfl : fl = (f0 :: fs).map lD) {a5 a11 a12 a13 : Option D} :
    ∃ b5 b11 b12 b13 d7 d8, forF (forT (Tg.v 5) (exSs Γ b1__law_span)) (f0.map .int) [a0, some (spD o), a2, a3, some (.list fl), a5, some (.int (many : Nat)), some .none, some .none, a9, a10, a11, a12, a13, a14, a15] = .nx [a0, some (spD o), a2, a3, some (.list fl), b5, some (.int (many : Nat)), some d7, some d8, a9, a10, b11, b12, b13, a14, a15] ∧ SpanSo o f0 fs d7 d8 := by
  obtain ⟨ρ, e, done, rest', d7, d8, b5, b11, b12, b13, he, er, rfl, hs⟩ := forF_inv (body := forT (Tg.v 5) (exSs Γ b1__law_span))
    (fun rest ρ => ∃ (done rest' : List Int) (d7 d8 : D) (b5 b11 b12 b13 : Option D), done ++ rest' = f0 ∧ rest = rest'.map .int ∧ ρ = [a0, some (spD o), a2, a3, some (.list fl), b5, some (.int (many : Nat)), some d7, some d8, a9, a10, b11, b12, b13, a14, a15] ∧ SpanSo o done fs d7 d8)
    (fun d ds ρ ⟨done, rest', d7, d8, b5, b11, b12, b13, he, er, e, hs⟩ => by
      subst e
      cases rest' with
      | nil => simp at er
      | cons b rs =>
        simp only [List.map_cons, List.cons.injEq] at er
        obtain ⟨rfl, rfl⟩ := er
        have hb := h0 b (by rw [← he]; simp)
        have hdone : ∀ x ∈ done, x < b := fun x hx => by
          have h1 := ha
          rw [← he] at h1
          exact (List.pairwise_append.mp h1).2.2 x hx b List.mem_cons_self
        obtain ⟨c12, c13, lp⟩ := left_loop (Γ := Γ) (o := o) (many := many) (a0 := a0) (a2 := a2) (a3 := a3) (a4 := some (.list fl)) (a5 := some (.int b)) (a7 := some d7) (a8 := some d8) (a9 := a9) (a10 := a10) (a14 := a14) (a15 := a15) fs [b] b12 b13 (by simp) (fun x hx => by simp at hx; subst hx; exact hb) (fun f hf => ⟨by have := (hfs f hf).1.2; omega, (hfs f hf).2⟩)
        have la := lastF_asc (o := o) (fs := fs) (X := [b]) (by simp) (fun f hf => (hfs f hf).1.1)
        have mem : ∀ e, e ∈ lastF o [b] fs ↔ Ch o b fs e := fun e => by rw [mem_lastF]; simp
        have cut : TV.cutD fl (some 1) none = fs.map lD := by subst hfl; exact cut_from1
        generalize lastF o [b] fs = X at lp la mem
        have e1 := eq_nilL X
        change forF _ _ [a0, some (spD o), a2, a3, some (.list fl), some (.int b), some (.int (many : Nat)), some d7, some d8, a9, a10, some (.list [.int b]), b12, b13, a14, a15] = _ at lp
        by_cases hX : X = []
        · rw [decide_eq_true hX] at e1
          refine ⟨_, .inl ?_, done ++ [b], rs, d7, d8, some (.int b), some (lD X), c12, c13, by simp [← he], rfl, rfl, ?_⟩
          · generalize lD X = X' at lp e1
            simp [b1__law_span, LIM, cut, lp, e1]
          · have no : ∀ e, ¬ Ch o b fs e := fun e h => by have := (mem e).mpr h; rw [hX] at this; cases this
            rcases hs with ⟨h1, h2⟩ | ⟨hi, lo, q, h2⟩
            · refine .inl ⟨fun x hx e => ?_, h2⟩
              rcases List.mem_append.mp hx with hx | hx
              · exact h1 x hx e
              · simp at hx; subst hx; exact no e
            · refine .inr ⟨hi, lo, ⟨⟨by simp [q.h1.1], q.h1.2⟩, fun x hx ⟨e, h⟩ => ?_, ?_, fun x hx e h => ?_⟩, h2⟩
              · rcases List.mem_append.mp hx with hx | hx
                · exact q.h2 x hx ⟨e, h⟩
                · simp at hx; subst hx; exact absurd h (no e)
              · obtain ⟨x, hx, h⟩ := q.l1
                exact ⟨x, by simp [hx], h⟩
              · rcases List.mem_append.mp hx with hx | hx
                · exact q.l2 x hx e h
                · simp at hx; subst hx; exact absurd h (no e)
        · rw [decide_eq_false hX] at e1
          obtain ⟨x0, xs, ex⟩ := List.exists_cons_of_ne_nil hX
          have a0' : atD (X.map PyData.int) 0 = some (.int x0) := by rw [ex]; exact atD_at (n := 0) rfl
          have x0m : Ch o b fs x0 := (mem x0).mp (by rw [ex]; exact List.mem_cons_self)
          have x0l : ∀ e, Ch o b fs e → x0 ≤ e := fun e h => by
            have h1 := (mem e).mpr h
            rw [ex] at h1 la
            rcases List.mem_cons.mp h1 with h1 | h1
            · omega
            · have := (List.pairwise_cons.mp la).1 e h1; omega
          have a0'' : b2 .idx (lD X) (.int 0) = some (.int x0) := a0'
          rcases hs with ⟨h1, rfl, rfl⟩ | ⟨hi, lo, q, rfl, rfl⟩
          · refine ⟨_, .inl ?_, done ++ [b], rs, .int b, .int x0, some (.int b), some (lD X), c12, c13, by simp [← he], rfl, rfl, .inr ⟨b, x0, ⟨⟨by simp, x0, x0m⟩, fun x hx _ => ?_, ⟨b, by simp, x0m⟩, fun x hx e h => ?_⟩, rfl, rfl⟩⟩
            · generalize lD X = X' at lp e1 a0''
              simp [b1__law_span, LIM, cut, lp, e1, a0'', TV.bindL]
            · rcases List.mem_append.mp hx with hx | hx
              · have := hdone x hx; omega
              · simp at hx; omega
            · rcases List.mem_append.mp hx with hx | hx
              · exact absurd h (h1 x hx e)
              · simp at hx; subst hx; exact x0l e h
          · refine ⟨_, .inl ?_, done ++ [b], rs, .int b, .int (if x0 < lo then x0 else lo), some (.int b), some (lD X), c12, c13, by simp [← he], rfl, rfl, .inr ⟨b, _, ⟨⟨by simp, x0, x0m⟩, fun x hx _ => ?_, ?_, fun x hx e h => ?_⟩, rfl, rfl⟩⟩
            · generalize lD X = X' at lp e1 a0''
              simp [b1__law_span, LIM, cut, lp, e1, a0'', TV.bindL]
            · rcases List.mem_append.mp hx with hx | hx
              · have := hdone x hx; omega
              · simp at hx; omega
            · by_cases hlt : x0 < lo
              · rw [if_pos hlt]; exact ⟨b, by simp, x0m⟩
              · rw [if_neg hlt]
                obtain ⟨x, hx, h⟩ := q.l1
                exact ⟨x, by simp [hx], h⟩
            · rcases List.mem_append.mp hx with hx | hx
              · have := q.l2 x hx e h; split <;> omega
              · simp at hx; subst hx; have := x0l e h; split <;> omega)
    (f0.map .int) [a0, some (spD o), a2, a3, some (.list fl), a5, some (.int (many : Nat)), some .none, some .none, a9, a10, a11, a12, a13, a14, a15] ⟨[], f0, .none, .none, a5, a11, a12, a13, rfl, rfl, rfl, .inl ⟨(fun b hb => by cases hb), rfl, rfl⟩⟩
  have : rest' = [] := by
    cases rest' with
    | nil => rfl
    | cons _ _ => simp at er
  subst this
  simp only [List.append_nil] at he
  subst he
  exact ⟨b5, b11, b12, b13, d7, d8, e, hs⟩

end Tx
namespace Tx
open PySem PySem.Spec PyProof.Rows L2 TV
theorem span_states {Γ : Nat → Fn} {t : Tab} {cells : Nat} (hs : ShownFn (Γ i__law_shown)) (tok : TabOk cells t) {q : List Int × List Int} (hq : (∀ i ∈ q.1, 0 ≤ i ∧ i < (cells : Int)) ∧ q.1.length ≤ 100) {a1 a2 a3 a4 a5 a7 a8 a11 a12 a13 a14 a15 : Option D} :
    lcD [14] (Tg.v 14) (evW Γ (W.rng1 (.v 6))) (ifD (evE Γ c2__law_span) (evE Γ e2__law_span)) [some t.d, a1, a2, a3, a4, a5, some (.int (t.words.length : Nat)), a7, a8, some (tI q.1), some (tI q.2), a11, a12, a13, a14, a15] = .ok (lD (fit t q)) [some t.d, a1, a2, a3, a4, a5, some (.int (t.words.length : Nat)), a7, a8, some (tI q.1), some (tI q.2), a11, a12, a13, a14, a15] := by
  have t200 := tok.many
  have m := lcF_fm (ρ := [some t.d, a1, a2, a3, a4, a5, some (.int (t.words.length : Nat)), a7, a8, some (tI q.1), some (tI q.2), a11, a12, a13, none, a15]) (body := lcT [14] (Tg.v 14) (ifD (evE Γ c2__law_span) (evE Γ e2__law_span))) (g := fun n : Nat => PyData.int (n : Int)) (f := fun n => if look (rowAt t n) q.1 = q.2 then some (.int (n : Int)) else none) (List.range t.words.length) (fun n hn => by
    have hn := List.mem_range.mp hn
    have e := hs tok hq.1 hq.2 (ge_words hn)
    by_cases h : look (rowAt t n) q.1 = q.2
    · simp [c2__law_span, e2__law_span, lcT, bindT, ifD, wipeE, callR, argD, outs, e, eq_tI, h]
    · simp [c2__law_span, e2__law_span, lcT, bindT, ifD, wipeE, callR, argD, outs, e, eq_tI, h])
  have fm : ((List.range t.words.length).filterMap fun n => if look (rowAt t n) q.1 = q.2 then some (PyData.int (n : Int)) else none) = (fit t q).map .int := by
    unfold fit
    generalize List.range t.words.length = xs
    clear m
    induction xs with
    | nil => rfl
    | cons x xs ih =>
      by_cases h : look (rowAt t x) q.1 = q.2
      · simp only [List.filterMap_cons, h, if_true, List.filter_cons, decide_true, List.map_cons, ih]
      · simp only [List.filterMap_cons, h, if_false, List.filter_cons, decide_false, Bool.false_eq_true, ih]
  rw [fm] at m
  have rz : rngD 0 (t.words.length : Int) = (List.range t.words.length).map fun n : Nat => PyData.int (n : Int) := by
    unfold rngD
    simp
  rw [← rz] at m
  have hlc := lcD_ok (vs := [14]) (tg := Tg.v 14) (w := evW Γ (W.rng1 (.v 6))) (body := ifD (evE Γ c2__law_span) (evE Γ e2__law_span)) (ρ := [some t.d, a1, a2, a3, a4, a5, some (.int (t.words.length : Nat)), a7, a8, some (tI q.1), some (tI q.2), a11, a12, a13, a14, a15]) (ρ1 := [some t.d, a1, a2, a3, a4, a5, some (.int (t.words.length : Nat)), a7, a8, some (tI q.1), some (tI q.2), a11, a12, a13, a14, a15])
    (by simp [rng1K_i (n := (t.words.length : Int)) (by unfold LIM; omega) (by unfold LIM; omega)]) (by rw [rngD_len]; simp [LIM]; omega) m
  rw [hlc]
  simp [backE, lD]
abbrev spanT : Tg := .t (.cons (.v 9) (.cons (.v 10) .nil))
theorem fits_loop {Γ : Nat → Fn} {t : Tab} {cells : Nat} (hs : ShownFn (Γ i__law_shown)) (tok : TabOk cells t) {a1 a2 a3 a5 a7 a8 a11 a12 a13 a14 a15 : Option D} : ∀ (qs : List (List Int × List Int)), QsOk cells qs → ∀ (found : List D) (a9 a10 : Option D), found.length + qs.length ≤ 1000 →
    ∃ b9 b10, forF (forT spanT (exSs Γ b2__law_span)) (qs.map pairT) [some t.d, a1, a2, a3, some (.list found), a5, some (.int (t.words.length : Nat)), a7, a8, a9, a10, a11, a12, a13, a14, a15] = .nx [some t.d, a1, a2, a3, some (.list (found ++ (qs.map (fit t)).map lD)), a5, some (.int (t.words.length : Nat)), a7, a8, b9, b10, a11, a12, a13, a14, a15]
  | [], _, found, a9, a10, _ => ⟨a9, a10, by simp [forF]⟩
  | q :: qs, hq, found, a9, a10, hl => by
    simp only [List.length_cons] at hl
    have hlc := fun a4 => span_states hs tok (hq q List.mem_cons_self) (a1 := a1) (a2 := a2) (a3 := a3) (a4 := a4) (a5 := a5) (a7 := a7) (a8 := a8) (a11 := a11) (a12 := a12) (a13 := a13) (a14 := a14) (a15 := a15)
    have fl : found.length < LIM := by unfold LIM; omega
    obtain ⟨b9, b10, h⟩ := fits_loop (a1 := a1) (a2 := a2) (a3 := a3) (a5 := a5) (a7 := a7) (a8 := a8) (a11 := a11) (a12 := a12) (a13 := a13) (a14 := a14) (a15 := a15) hs tok qs (fun p hp => hq p (List.mem_cons_of_mem _ hp)) (found ++ [lD (fit t q)]) (some (tI q.1)) (some (tI q.2)) (by simp; omega)
    refine ⟨b9, b10, ?_⟩
    have b : forT spanT (exSs Γ b2__law_span) (pairT q) [some t.d, a1, a2, a3, some (.list found), a5, some (.int (t.words.length : Nat)), a7, a8, a9, a10, a11, a12, a13, a14, a15] = .nx [some t.d, a1, a2, a3, some (.list (found ++ [lD (fit t q)])), a5, some (.int (t.words.length : Nat)), a7, a8, some (tI q.1), some (tI q.2), a11, a12, a13, a14, a15] := by
      generalize lD (fit t q) = R at hlc
      simp [forT, spanT, pairT, bindT, bindTs, b2__law_span, appD, getPl, setPl, hlc, fl]
    simp only [List.map_cons, forF, b, h, List.append_assoc, List.cons_append, List.nil_append]
def SpanFn (F : Fn) : Prop := ∀ (t : Tab) (cells : Nat), TabOk cells t → ∀ (o : Option Int) (q : List Int × List Int) (qs : List (List Int × List Int)), QsOk cells (q :: qs) → qs.length ≤ 800 → (LF o t q qs = [] ∧ F [t.d, spD o, lksD (q :: qs), wrdD (q :: qs)] = .ok .none []) ∨ ∃ hi lo, IsSpan o (fit t q) (qs.map (fit t)) hi lo ∧ F [t.d, spD o, lksD (q :: qs), wrdD (q :: qs)] = .ok (.tuple [.int hi, .int lo]) []
theorem span_core {Γ : Nat → Fn} (hs : ShownFn (Γ i__law_shown)) {t : Tab} {cells : Nat} (tok : TabOk cells t) (o : Option Int) (q : List Int × List Int) (qs : List (List Int × List Int)) (hqs : QsOk cells (q :: qs)) (hlen : qs.length ≤ 800) {L1 L2 : List D} (z : zipD L1 L2 = (q :: qs).map pairT) :
    ∃ d7 d8, f__law_span.sem Γ [t.d, spD o, .tuple L1, .tuple L2] = .ok (if (match d7 with | .none => true | _ => false) = true then .none else .tuple [d7, d8]) [] ∧ SpanSo o (fit t q) (qs.map (fit t)) d7 d8 := by
  obtain ⟨b9, b10, h1⟩ := fits_loop hs tok (a1 := some (spD o)) (a2 := some (.tuple L1)) (a3 := some (.tuple L2)) (a5 := none) (a7 := some .none) (a8 := some .none) (a11 := none) (a12 := none) (a13 := none) (a14 := none) (a15 := none) (q :: qs) hqs [] none none (by simp; omega)
  have fa := fits_asc tok (q :: qs)
  obtain ⟨b5, b11, b12, b13, d7, d8, h2, sp⟩ := begin_loop (Γ := Γ) (o := o) (many := t.words.length) (f0 := fit t q) (fs := qs.map (fit t)) (fit_asc t q) (fun x hx => fit_rng hx) (fun f hf => ⟨fa f (by simp only [List.map_cons, List.mem_cons]; exact .inr hf), fits_rng f hf⟩) (a0 := some t.d) (a2 := some (.tuple L1)) (a3 := some (.tuple L2)) (a9 := b9) (a10 := b10) (a14 := none) (a15 := none) (a5 := none) (a11 := none) (a12 := none) (a13 := none) (fl := ((q :: qs).map (fit t)).map lD) rfl
  refine ⟨d7, d8, ?_, sp⟩
  have ix : atD (((q :: qs).map (fit t)).map lD) 0 = some (lD (fit t q)) := atD_at (n := 0) rfl
  rw [List.nil_append] at h1
  generalize (q :: qs).map pairT = PP at h1 z
  generalize ((q :: qs).map (fit t)).map lD = FL at h1 h2 ix
  simp only [lD] at ix
  unfold Df.sem TV.run f__law_span
  simp [Df.ios, iosOf, Sh.isM, LIM, TV.bindL, z, h1, ix, h2]
  cases d7 <;> rfl
theorem span_sem {Γ : Nat → Fn} (hs : ShownFn (Γ i__law_shown)) : SpanFn (f__law_span.sem Γ) := fun t cells tok o q qs hqs hlen => by
  obtain ⟨d7, d8, res, sp⟩ := span_core hs tok o q qs hqs hlen (zip_qs (q :: qs))
  show (LF o t q qs = [] ∧ f__law_span.sem Γ [t.d, spD o, .tuple _, .tuple _] = _) ∨ ∃ hi lo, _ ∧ f__law_span.sem Γ [t.d, spD o, .tuple _, .tuple _] = _
  rw [res]
  rcases sp with ⟨h, rfl, rfl⟩ | ⟨hi, lo, s, rfl, rfl⟩
  · refine .inl ⟨?_, rfl⟩
    cases hL : LF o t q qs with
    | nil => rfl
    | cons e es =>
      have : e ∈ LF o t q qs := by rw [hL]; exact List.mem_cons_self
      obtain ⟨b, hb, hc⟩ := mem_lastF.mp this
      exact absurd hc (h b hb e)
  · exact .inr ⟨hi, lo, s, rfl⟩

end Tx
namespace Tx
open PySem PySem.Spec PyProof.Rows L2 TV
/-! nodes of which each path to a leaf keeps a promise -/
/-- a path: looks with what they see, the leaf -/
abbrev Pth := List (List Int × List Int) × D
def AllP (c : Nat) (Q : Pth → Prop) : Nat → List (List Int × List Int) → D → Prop
  | 0, qs, x => Leaf x ∧ Q (qs, x)
  | k + 1, qs, x => (Leaf x ∧ Q (qs, x)) ∨ ∃ lot ps, LotOk c lot ∧ ps.length ≤ 4 ∧ (∀ p ∈ ps, SiOk lot.length p.1 ∧ AllP c Q k (qs ++ [(lot, p.1)]) p.2) ∧ x = mkLook lot ps
def AllL (c : Nat) (Q : Pth → Prop) (k : Nat) (qs : List (List Int × List Int)) (x : D) : Prop := ∃ lot ps, LotOk c lot ∧ ps.length ≤ 4 ∧ (∀ p ∈ ps, SiOk lot.length p.1 ∧ AllP c Q k (qs ++ [(lot, p.1)]) p.2) ∧ x = mkLook lot ps
theorem AllL.p {c : Nat} {Q : Pth → Prop} {k : Nat} {qs : List (List Int × List Int)} {x : D} (h : AllL c Q k qs x) : AllP c Q (k + 1) qs x := .inr h
theorem AllP.nd {c : Nat} {Q : Pth → Prop} : ∀ {k : Nat} {qs : List (List Int × List Int)} {x : D}, AllP c Q k qs x → Nd c k x
  | 0, _, _, h => h.1
  | k + 1, _, _, .inl h => .inl h.1
  | k + 1, _, _, .inr ⟨lot, ps, h1, h2, h3, h4⟩ => .inr ⟨lot, ps, h1, h2, fun p hp => ⟨(h3 p hp).1, (h3 p hp).2.nd⟩, h4⟩
theorem AllL.lk {c : Nat} {Q : Pth → Prop} {k : Nat} {qs : List (List Int × List Int)} {x : D} (h : AllL c Q k qs x) : Lk c k x := by
  obtain ⟨lot, ps, h1, h2, h3, h4⟩ := h
  exact ⟨lot, ps, h1, h2, fun p hp => ⟨(h3 p hp).1, (h3 p hp).2.nd⟩, h4⟩
theorem AllP.up {c : Nat} {Q : Pth → Prop} : ∀ {k : Nat} {qs : List (List Int × List Int)} {x : D}, AllP c Q k qs x → AllP c Q (k + 1) qs x
  | 0, _, _, h => .inl h
  | k + 1, _, _, .inl h => .inl h
  | k + 1, _, _, .inr ⟨lot, ps, h1, h2, h3, h4⟩ => .inr ⟨lot, ps, h1, h2, fun p hp => ⟨(h3 p hp).1, (h3 p hp).2.up⟩, h4⟩
def pthD (p : Pth) : D := .tuple [lksD p.1, wrdD p.1, p.2]
/-- some paths that keep a promise -/
def PathsFn (k : Nat) (F : Fn) : Prop := ∀ (c : Nat) (Q : Pth → Prop) (qs : List (List Int × List Int)) (x : D), AllP c Q k qs x → qs.length + k ≤ 100 → ∃ L : List Pth, F [lksD qs, wrdD qs, x] = .ok (.list (L.map pthD)) [] ∧ (∀ p ∈ L, Leaf p.2 ∧ Q p) ∧ L.length ≤ 4 ^ k
abbrev pathT : Tg := .t (.cons (.v 4) (.cons (.v 5) .nil))
theorem paths_sem {Γ : Nat → Fn} {k : Nat} (hk : k ≤ 8) (rec : ∀ k', k = k' + 1 → PathsFn k' (Γ i_paths_on)) : PathsFn k (f_paths_on.sem Γ) := fun c Q qs x hx hlen => by
  have leaf : Leaf x → Q (qs, x) → ∃ L : List Pth, f_paths_on.sem Γ [lksD qs, wrdD qs, x] = .ok (.list (L.map pthD)) [] ∧ (∀ p ∈ L, Leaf p.2 ∧ Q p) ∧ L.length ≤ 4 ^ k := fun h q => by
    refine ⟨[(qs, x)], ?_, fun p hp => ?_, ?_⟩
    · have e3 : [(qs, x)].map pthD = [.tuple [lksD qs, wrdD qs, x]] := rfl
      rw [e3]
      generalize lksD qs = L1
      generalize wrdD qs = L2
      obtain ⟨s, r, rfl, e⟩ := leaf_head h
      have a0 : atD (.str s :: r) 0 = some (.str s) := atD_at (n := 0) rfl
      unfold Df.sem TV.run f_paths_on
      simp [Df.ios, iosOf, Sh.isM, a0, e, LIM]
    · simp at hp; subst hp; exact ⟨h, q⟩
    · have := Nat.pow_le_pow_right (n := 4) (by decide) (Nat.zero_le k)
      simpa using this
  cases k with
  | zero => exact leaf hx.1 hx.2
  | succ k =>
    rcases hx with h | ⟨lot, ps, hlot, h4, hp, rfl⟩
    · exact leaf h.1 h.2
    · obtain ⟨ρ, e, rest', L, a4, a5, hr, rfl, hq, hlen2⟩ := forF_inv (body := forT pathT (exSs Γ b0_paths_on))
        (fun rest ρ => ∃ (rest' : List (List Int × D)) (L : List Pth) (a4 a5 : Option D), (rest = rest'.map pairD ∧ ∀ p ∈ rest', p ∈ ps) ∧ ρ = [some (lksD qs), some (wrdD qs), some (mkLook lot ps), some (.list (L.map pthD)), a4, a5] ∧ (∀ p ∈ L, Leaf p.2 ∧ Q p) ∧ L.length + rest'.length * 4 ^ k ≤ ps.length * 4 ^ k)
        (fun d ds ρ ⟨rest', L, a4, a5, ⟨hr, hm⟩, e, hq, hl⟩ => by
          subst e
          cases rest' with
          | nil => simp at hr
          | cons p r =>
            simp only [List.map_cons, List.cons.injEq] at hr
            obtain ⟨rfl, rfl⟩ := hr
            obtain ⟨sk, ap⟩ := hp p (hm p List.mem_cons_self)
            obtain ⟨M, e1, e2, e3⟩ := rec k rfl c Q (qs ++ [(lot, p.1)]) p.2 ap (by simp; omega)
            have pk : ps.length * 4 ^ k ≤ 4 * 4 ^ 8 := Nat.mul_le_mul h4 (Nat.pow_le_pow_right (by decide) (by omega))
            have hl' : L.length + M.length + r.length * 4 ^ k ≤ ps.length * 4 ^ k := by
              simp only [List.length_cons, Nat.add_mul, Nat.one_mul] at hl
              omega
            refine ⟨_, .inl ?_, r, L ++ M, some (tI p.1), some p.2, ⟨rfl, fun q hq => hm q (List.mem_cons_of_mem _ hq)⟩, rfl, fun q hq2 => ?_, by simpa using hl'⟩
            · have n1 : (qs.map (·.1)).map tI ++ [tI lot] = ((qs ++ [(lot, p.1)]).map (·.1)).map tI := by simp
              have n2 : (qs.map (·.2)).map tI ++ [tI p.1] = ((qs ++ [(lot, p.1)]).map (·.2)).map tI := by simp
              have l1 : ((qs.map (·.1)).map tI).length + 1 ≤ LIM := by simp [LIM]; omega
              have l2 : ((qs.map (·.2)).map tI).length + 1 ≤ LIM := by simp [LIM]; omega
              have l3 : (L.map pthD).length + (M.map pthD).length ≤ LIM := by
                have : (4 : Nat) * 4 ^ 8 = 262144 := by decide
                simp [LIM]; omega
              have l4 : (L ++ M).map pthD = L.map pthD ++ M.map pthD := List.map_append
              rw [l4]
              simp only [lksD, wrdD, tT] at e1
              rw [← n1, ← n2] at e1
              simp only [lksD, wrdD, tT]
              generalize (qs.map (·.1)).map tI = A at e1 l1
              generalize (qs.map (·.2)).map tI = B at e1 l2
              generalize L.map pthD = L' at l3
              generalize M.map pthD = M' at l3 e1
              simp only [LIM] at l1 l2 l3
              simp [forT, pathT, pairD, bindT, bindTs, b0_paths_on, callR, argD, outs, extD, getPl, setPl, LIM, l1, l2, e1, l3]
            · rcases List.mem_append.mp hq2 with h | h
              · exact hq q h
              · exact e2 q h)
        (ps.map pairD) [some (lksD qs), some (wrdD qs), some (mkLook lot ps), some (.list []), none, none] ⟨ps, [], none, none, ⟨rfl, fun _ h => h⟩, rfl, by simp, by simp⟩
      have : rest' = [] := by
        cases rest' with
        | nil => rfl
        | cons _ _ => simp at hr
      subst this
      refine ⟨L, ?_, hq, ?_⟩
      · generalize lksD qs = L1 at e ⊢
        generalize wrdD qs = L2 at e ⊢
        generalize L.map pthD = LL at e ⊢
        unfold Df.sem TV.run f_paths_on
        simp [Df.ios, iosOf, Sh.isM, e_ll, LIM, e, mvD]
      · have h5 : ps.length * 4 ^ k ≤ 4 * 4 ^ k := Nat.mul_le_mul_right _ h4
        rw [Nat.pow_succ]
        simp at hlen2
        omega

end Tx
namespace Tx
open PySem PySem.Spec PyProof.Rows L2 TV
theorem span_ex {o : Option Int} {t : Tab} {q : List Int × List Int} {qs : List (List Int × List Int)} (h : LF o t q qs ≠ []) : ∃ hi lo, IsSpan o (fit t q) (qs.map (fit t)) hi lo := by
  have la := lastF_asc (o := o) (fs := qs.map (fit t)) (X := fit t q) (fit_asc t q) (fun f hf => by obtain ⟨p, _, rfl⟩ := List.mem_map.mp hf; exact fit_asc t p)
  obtain ⟨x, xs, ex⟩ := List.exists_cons_of_ne_nil h
  change lastF o (fit t q) (qs.map (fit t)) = x :: xs at ex
  have ml : ∀ e, e ∈ x :: xs ↔ ∃ b ∈ fit t q, Ch o b (qs.map (fit t)) e := fun e => by rw [← ex, mem_lastF]
  rw [ex] at la
  obtain ⟨b0, hb0, hc0⟩ := (ml x).mp List.mem_cons_self
  have key : ∀ f : List Int, Asc f → (∃ b ∈ f, ∃ e, Ch o b (qs.map (fit t)) e) → ∃ hi, (hi ∈ f ∧ ∃ e, Ch o hi (qs.map (fit t)) e) ∧ ∀ b ∈ f, (∃ e, Ch o b (qs.map (fit t)) e) → b ≤ hi := fun f => by
    induction f with
    | nil => rintro _ ⟨b, hb, _⟩; cases hb
    | cons y ys ih =>
      intro ha hx
      have ha := List.pairwise_cons.mp ha
      by_cases hy : ∃ b ∈ ys, ∃ e, Ch o b (qs.map (fit t)) e
      · obtain ⟨hi, h1, h2⟩ := ih ha.2 hy
        refine ⟨hi, ⟨List.mem_cons_of_mem _ h1.1, h1.2⟩, fun b hb he => ?_⟩
        rcases List.mem_cons.mp hb with rfl | hb
        · have := ha.1 hi h1.1; omega
        · exact h2 b hb he
      · obtain ⟨b, hb, he⟩ := hx
        rcases List.mem_cons.mp hb with rfl | hb
        · refine ⟨b, ⟨List.mem_cons_self, he⟩, fun b2 hb2 he2 => ?_⟩
          rcases List.mem_cons.mp hb2 with rfl | hb2
          · exact Int.le_refl _
          · exact absurd ⟨b2, hb2, he2⟩ hy
        · exact absurd ⟨b, hb, he⟩ hy
  obtain ⟨hi, h1, h2⟩ := key _ (fit_asc t q) ⟨b0, hb0, x, hc0⟩
  refine ⟨hi, x, h1, h2, ⟨b0, hb0, hc0⟩, fun b hb e he => ?_⟩
  have := (ml e).mpr ⟨b, hb, he⟩
  rcases List.mem_cons.mp this with rfl | h3
  · exact Int.le_refl _
  · have := (List.pairwise_cons.mp la).1 e h3; omega
theorem IsSpan.uniq {o : Option Int} {f : List Int} {fs : List (List Int)} {hi lo hi' lo' : Int} (a : IsSpan o f fs hi lo) (b : IsSpan o f fs hi' lo') : hi = hi' ∧ lo = lo' := by
  have h1 := a.h2 hi' b.h1.1 b.h1.2
  have h2 := b.h2 hi a.h1.1 a.h1.2
  obtain ⟨x, hx, q1⟩ := a.l1
  obtain ⟨y, hy, q2⟩ := b.l1
  have h3 := b.l2 x hx lo q1
  have h4 := a.l2 y hy lo' q2
  omega
/-- what a leaf tells is sure -/
def SureP (t : Tab) (o : Option Int) (p : Pth) : Prop := ∀ v : Int, p.2 = .tuple [.str "tell", .int v] → ∀ q qs, p.1 = q :: qs → ∀ hi lo, IsSpan o (fit t q) (qs.map (fit t)) hi lo → valAt t hi ≤ v ∧ v ≤ valAt t lo
theorem QsOk.app {c : Nat} {qs : List (List Int × List Int)} (h : QsOk c qs) (hc : c ≤ 100) {lot s : List Int} (hl : LotOk c lot) : QsOk c (qs ++ [(lot, s)]) := fun q hq => by
  rcases List.mem_append.mp hq with hq | hq
  · exact h q hq
  · simp at hq; subst hq
    exact ⟨hl.2.2, by have := hl.2.1; show lot.length ≤ 100; omega⟩
theorem AllP.imp {c : Nat} (hc : c ≤ 100) {Q : Pth → Prop} : ∀ {k : Nat} {qs : List (List Int × List Int)} {x : D}, AllP c Q k qs x → QsOk c qs → qs ≠ [] → ∀ {n}, qs.length + k ≤ n → AllP c (fun p => Q p ∧ QsOk c p.1 ∧ p.1.length ≤ n ∧ p.1 ≠ []) k qs x
  | 0, qs, x, h, hq, hn, n, hl => ⟨h.1, h.2, hq, by show qs.length ≤ n; omega, hn⟩
  | k + 1, qs, x, .inl h, hq, hn, n, hl => .inl ⟨h.1, h.2, hq, by show qs.length ≤ n; omega, hn⟩
  | k + 1, qs, x, .inr ⟨lot, ps, h1, h2, h3, h4⟩, hq, hn, n, hl => .inr ⟨lot, ps, h1, h2, fun p hp => ⟨(h3 p hp).1, AllP.imp hc (h3 p hp).2 (hq.app hc h1) (by simp) (by simp; omega)⟩, h4⟩
theorem AllL.imp {c : Nat} (hc : c ≤ 100) {Q : Pth → Prop} {k : Nat} {qs : List (List Int × List Int)} {x : D} (h : AllL c Q k qs x) (hq : QsOk c qs) {n : Nat} (hl : qs.length + k + 1 ≤ n) : AllP c (fun p => Q p ∧ QsOk c p.1 ∧ p.1.length ≤ n ∧ p.1 ≠ []) (k + 1) qs x := by
  obtain ⟨lot, ps, h1, h2, h3, h4⟩ := h
  exact .inr ⟨lot, ps, h1, h2, fun p hp => ⟨(h3 p hp).1, AllP.imp hc (h3 p hp).2 (hq.app hc h1) (by simp) (by simp; omega)⟩, h4⟩
/-- no wrong run where what is told is sure -/
def NoRunFn (F : Fn) : Prop := ∀ (t : Tab) (cells : Nat), TabOk cells t → ∀ (o : Option Int) (q : List Int × List Int) (qs : List (List Int × List Int)), QsOk cells (q :: qs) → qs.length ≤ 800 → ∀ v : Int, (∀ hi lo, IsSpan o (fit t q) (qs.map (fit t)) hi lo → valAt t hi ≤ v ∧ v ≤ valAt t lo) → F [t.d, spD o, lksD (q :: qs), wrdD (q :: qs), .int v] = .ok .none []
theorem norun_sem {Γ : Nat → Fn} (hr : ReadFn (Γ i_is_read)) (hv : SvalFn (Γ i_sure_values)) : NoRunFn (f_wrong_run.sem Γ) := fun t cells tok o q qs hqs hlen v hs => by
  have e1 := hr t cells tok o q qs hqs hlen
  by_cases h : LF o t q qs = []
  · rw [decide_eq_false (fun z => z h)] at e1
    generalize lksD (q :: qs) = L1 at e1 ⊢
    generalize wrdD (q :: qs) = L2 at e1 ⊢
    unfold Df.sem TV.run f_wrong_run
    simp [Df.ios, iosOf, Sh.isM, callR, argD, outs, e1]
  · rw [decide_eq_true h] at e1
    obtain ⟨hi, lo, s⟩ := span_ex h
    have e2 := hv t cells tok o q qs hqs hlen hi lo s
    obtain ⟨h1, h2⟩ := hs hi lo s
    have h1 : ¬ v < valAt t hi := by omega
    have h2 : ¬ valAt t lo < v := by omega
    generalize lksD (q :: qs) = L1 at e1 e2 ⊢
    generalize wrdD (q :: qs) = L2 at e1 e2 ⊢
    unfold Df.sem TV.run f_wrong_run
    simp [Df.ios, iosOf, Sh.isM, callR, argD, outs, e1, e2, bindTs, bindT, h1, h2]
def PofFn (k : Nat) (F : Fn) : Prop := ∀ (c : Nat) (Q : Pth → Prop) (x : D), AllP c Q k [] x → ∃ L : List Pth, F [x] = .ok (.tuple (L.map pthD)) [] ∧ (∀ p ∈ L, Leaf p.2 ∧ Q p) ∧ L.length ≤ 4 ^ k
theorem pof_sem {Γ : Nat → Fn} {k : Nat} (hk : k ≤ 8) (hp : PathsFn k (Γ i_paths_on)) : PofFn k (f_paths_of.sem Γ) := fun c Q x hx => by
  obtain ⟨L, e, h1, h2⟩ := hp c Q [] x hx (by simp; omega)
  change Γ i_paths_on [.tuple [], .tuple [], x] = _ at e
  refine ⟨L, ?_, h1, h2⟩
  unfold Df.sem TV.run f_paths_of
  simp [Df.ios, iosOf, Sh.isM, callR, argD, outs, e, LIM]
def WrongFn (k : Nat) (F : Fn) : Prop := ∀ (t : Tab) (cells : Nat), TabOk cells t → ∀ (o : Option Int) (x : D), AllL cells (SureP t o) k [] x → F [t.d, spD o, x] = .ok .none []
@[simp] theorem o_isntN {d : D} : b2 .isnt d .none = some (.bool (match d with | .none => false | _ => true)) := rfl
abbrev wrongT : Tg := .t (.cons (.v 3) (.cons (.t (.cons (.v 5) (.cons (.v 6) (.cons (.v 7) .nil)))) .nil))
theorem wrong_sem {Γ : Nat → Fn} {k : Nat} (hk : k ≤ 7) (hp : PofFn (k + 1) (Γ i_paths_of)) (hw : NoRunFn (Γ i_wrong_run)) : WrongFn k (f_wrong_path.sem Γ) := fun t cells tok o x hx => by
  have c3 := tok.c3
  obtain ⟨L, e, h1, h2⟩ := hp cells _ x (hx.imp (by omega) (fun q hq => by cases hq) (n := 100) (by simp; omega))
  have h3 : L.length ≤ 4 ^ 8 := Nat.le_trans h2 (Nat.pow_le_pow_right (by decide) (by omega))
  obtain ⟨ρ, e2, rest', a3, a4, a5, a6, a7, hr, rfl, _⟩ := forF_inv (body := forT wrongT (exSs Γ b0_wrong_path))
    (fun rest ρ => ∃ (rest' : List (Pth × Nat)) (a3 a4 a5 a6 a7 : Option D), rest = rest'.map (fun p => .tuple [.int (p.2 : Nat), pthD p.1]) ∧ ρ = [some t.d, some (spD o), some x, a3, a4, a5, a6, a7] ∧ ∀ p ∈ rest', p.1 ∈ L)
    (fun d ds ρ ⟨rest', a3, a4, a5, a6, a7, hr, e, hm⟩ => by
      subst e
      cases rest' with
      | nil => simp at hr
      | cons p r =>
        simp only [List.map_cons, List.cons.injEq] at hr
        obtain ⟨rfl, rfl⟩ := hr
        obtain ⟨lf, sp, qok, ql, qne⟩ := h1 p.1 (hm p List.mem_cons_self)
        refine ⟨_, .inl ?_, r, some (.int (p.2 : Nat)), some .none, some (lksD p.1.1), some (wrdD p.1.1), some p.1.2, rfl, rfl, fun q hq => hm q (List.mem_cons_of_mem _ hq)⟩
        obtain ⟨⟨qs, leaf⟩, num⟩ := p
        simp only [] at lf sp qok ql qne ⊢
        cases lf with
        | again =>
          have a0' : atD [PyData.str "again"] 0 = some (.str "again") := rfl
          simp only [pthD]
          generalize lksD qs = L1
          generalize wrdD qs = L2
          simp [forT, wrongT, bindT, bindTs, b0_wrong_path, a0', e_at]
        | tell v hv =>
          obtain ⟨q, qr, rfl⟩ := List.exists_cons_of_ne_nil qne
          have e3 := hw t cells tok o q qr qok (by simp at ql; omega) v (fun hi lo s => sp v rfl q qr rfl hi lo s)
          have a0' : atD [PyData.str "tell", .int v] 0 = some (.str "tell") := rfl
          have a1' : atD [PyData.str "tell", .int v] 1 = some (.int v) := rfl
          simp only [pthD]
          generalize lksD (q :: qr) = L1 at e3 ⊢
          generalize wrdD (q :: qr) = L2 at e3 ⊢
          simp [forT, wrongT, bindT, bindTs, b0_wrong_path, a0', a1', e_tt, callR, argD, outs, e3])
    (enumD (L.map pthD)) [some t.d, some (spD o), some x, none, none, none, none, none] ⟨L.zipIdx, none, none, none, none, none, by
      unfold enumD
      rw [List.zipIdx_map, List.map_map]
      rfl, rfl, fun p hp => List.fst_mem_of_mem_zipIdx hp⟩
  unfold Df.sem TV.run f_wrong_path
  generalize L.map pthD = LL at e e2
  simp [Df.ios, iosOf, Sh.isM, callR, argD, outs, e, e2]

end Tx
namespace Tx
open PySem PySem.Spec PyProof.Rows L2 TV
/-! filled readers -/
open Classical in
noncomputable def leafOf (t : Tab) (o : Option Int) : List (List Int × List Int) → D
  | [] => again
  | q :: qr => if h : ∃ p : Int × Int, IsSpan o (fit t q) (qr.map (fit t)) p.1 p.2 ∧ valAt t p.1 ≤ valAt t p.2 then .tuple [.str "tell", .int (valAt t (choose h).1)] else again
theorem leafOf_tell {t : Tab} {o : Option Int} {q : List Int × List Int} {qr : List (List Int × List Int)} {hi lo : Int} (s : IsSpan o (fit t q) (qr.map (fit t)) hi lo) (h : valAt t hi ≤ valAt t lo) : leafOf t o (q :: qr) = .tuple [.str "tell", .int (valAt t hi)] := by
  have ex : ∃ p : Int × Int, IsSpan o (fit t q) (qr.map (fit t)) p.1 p.2 ∧ valAt t p.1 ≤ valAt t p.2 := ⟨(hi, lo), s, h⟩
  refine (dif_pos ex).trans ?_
  rw [((Classical.choose_spec ex).1.uniq s).1]
theorem leafOf_again {t : Tab} {o : Option Int} {q : List Int × List Int} {qr : List (List Int × List Int)} (h : ∀ hi lo, IsSpan o (fit t q) (qr.map (fit t)) hi lo → valAt t lo < valAt t hi) : leafOf t o (q :: qr) = again := by
  refine dif_neg ?_
  rintro ⟨p, s, h2⟩
  have := h _ _ s
  omega
theorem val_ok {t : Tab} (v : ValsOk t) {i : Int} (h0 : 0 ≤ i) (h1 : i < t.vals.length) : -1000000000000 ≤ valAt t i ∧ valAt t i ≤ 1000000000000 := by
  unfold valAt
  rw [List.getD_eq_getElem?_getD, List.getElem?_eq_getElem (by omega), Option.getD_some]
  have := v.2.2 _ (List.getElem_mem (show i.toNat < t.vals.length by omega))
  omega
/-- a filled leaf: again, or the value of a sure begin -/
theorem leafOf_cases {t : Tab} {cells : Nat} (tok : TabOk cells t) (vok : ValsOk t) (o : Option Int) (qs : List (List Int × List Int)) : leafOf t o qs = again ∨ ∃ q qr hi lo, qs = q :: qr ∧ IsSpan o (fit t q) (qr.map (fit t)) hi lo ∧ valAt t hi ≤ valAt t lo ∧ leafOf t o qs = .tuple [.str "tell", .int (valAt t hi)] := by
  cases qs with
  | nil => exact .inl rfl
  | cons q qr =>
    by_cases ex : ∃ p : Int × Int, IsSpan o (fit t q) (qr.map (fit t)) p.1 p.2 ∧ valAt t p.1 ≤ valAt t p.2
    · obtain ⟨⟨hi, lo⟩, s, h⟩ := ex
      exact .inr ⟨q, qr, hi, lo, rfl, s, h, leafOf_tell s h⟩
    · exact .inl (leafOf_again fun hi lo s => Int.lt_of_not_ge fun h => ex ⟨(hi, lo), s, h⟩)
theorem leafOf_leaf {t : Tab} {cells : Nat} (tok : TabOk cells t) (vok : ValsOk t) (o : Option Int) (qs : List (List Int × List Int)) : Leaf (leafOf t o qs) := by
  rcases leafOf_cases tok vok o qs with e | ⟨q, qr, hi, lo, _, s, _, e⟩
  · rw [e]; exact .again
  · rw [e]
    obtain ⟨⟨r1, r2⟩, _⟩ := s.rng
    have := tok.len
    exact .tell _ (val_ok vok r1 (by omega))
def unI : List D → List Int
  | [] => []
  | .int i :: r => i :: unI r
  | _ :: r => unI r
theorem unI_map : ∀ is : List Int, unI (is.map .int) = is
  | [] => rfl
  | i :: is => by simp [unI, unI_map is]
def unP : D → List Int × D
  | .tuple [.tuple s, x] => (unI s, x)
  | _ => ([], .none)
theorem unP_pair (p : List Int × D) : unP (pairD p) = p := by
  show (unI (p.1.map .int), p.2) = p
  rw [unI_map]
noncomputable def fillF (t : Tab) (o : Option Int) : Nat → List (List Int × List Int) → D → D
  | 0, qs, _ => leafOf t o qs
  | k + 1, qs, .tuple [_, .tuple lot, .tuple ps] => mkLook (unI lot) (ps.map fun d => ((unP d).1, fillF t o k (qs ++ [(unI lot, (unP d).1)]) (unP d).2))
  | _ + 1, qs, _ => leafOf t o qs
theorem fillF_look (t : Tab) (o : Option Int) (k : Nat) (qs : List (List Int × List Int)) (lot : List Int) (ps : List (List Int × D)) : fillF t o (k + 1) qs (mkLook lot ps) = mkLook lot (ps.map fun p => (p.1, fillF t o k (qs ++ [(lot, p.1)]) p.2)) := by
  show mkLook (unI (lot.map .int)) ((ps.map pairD).map fun d => ((unP d).1, fillF t o k (qs ++ [(unI (lot.map .int), (unP d).1)]) (unP d).2)) = _
  rw [unI_map, List.map_map]
  congr 1
  refine List.map_congr_left fun p _ => ?_
  simp only [Function.comp_apply, unP_pair]
theorem fillF_leaf {t : Tab} {o : Option Int} {k : Nat} {qs : List (List Int × List Int)} {x : D} (h : Leaf x) : fillF t o k qs x = leafOf t o qs := by
  cases k with
  | zero => rfl
  | succ k => cases h <;> rfl
theorem fillF_nd {t : Tab} {cells : Nat} (tok : TabOk cells t) (vok : ValsOk t) (o : Option Int) : ∀ {k : Nat} {qs : List (List Int × List Int)} {x : D}, Nd cells k x → Nd cells k (fillF t o k qs x) ∧ AllP cells (fun p => p.2 = leafOf t o p.1) k qs (fillF t o k qs x)
  | 0, qs, x, _ => ⟨leafOf_leaf tok vok o qs, leafOf_leaf tok vok o qs, rfl⟩
  | k + 1, qs, x, .inl h => by
    rw [fillF_leaf h]
    exact ⟨.inl (leafOf_leaf tok vok o qs), .inl ⟨leafOf_leaf tok vok o qs, rfl⟩⟩
  | k + 1, qs, x, .inr ⟨lot, ps, h1, h2, h3, h4⟩ => by
    subst h4
    rw [fillF_look]
    have ih := fun p (hp : p ∈ ps) => fillF_nd tok vok o (k := k) (qs := qs ++ [(lot, p.1)]) (h3 p hp).2
    refine ⟨.inr ⟨lot, _, h1, by simpa using h2, fun p hp => ?_, rfl⟩, .inr ⟨lot, _, h1, by simpa using h2, fun p hp => ?_, rfl⟩⟩
    · obtain ⟨q, hq, rfl⟩ := List.mem_map.mp hp
      exact ⟨(h3 q hq).1, (ih q hq).1⟩
    · obtain ⟨q, hq, rfl⟩ := List.mem_map.mp hp
      exact ⟨(h3 q hq).1, (ih q hq).2⟩
theorem fillF_lk {t : Tab} {cells : Nat} (tok : TabOk cells t) (vok : ValsOk t) (o : Option Int) {k : Nat} {qs : List (List Int × List Int)} {x : D} (h : Lk cells k x) : Lk cells k (fillF t o (k + 1) qs x) ∧ AllL cells (fun p => p.2 = leafOf t o p.1) k qs (fillF t o (k + 1) qs x) := by
  obtain ⟨lot, ps, h1, h2, h3, rfl⟩ := h
  rw [fillF_look]
  have ih := fun p (hp : p ∈ ps) => fillF_nd tok vok o (k := k) (qs := qs ++ [(lot, p.1)]) (h3 p hp).2
  refine ⟨⟨lot, _, h1, by simpa using h2, fun p hp => ?_, rfl⟩, ⟨lot, _, h1, by simpa using h2, fun p hp => ?_, rfl⟩⟩
  · obtain ⟨q, hq, rfl⟩ := List.mem_map.mp hp
    exact ⟨(h3 q hq).1, (ih q hq).1⟩
  · obtain ⟨q, hq, rfl⟩ := List.mem_map.mp hp
    exact ⟨(h3 q hq).1, (ih q hq).2⟩
/-- filled twice is filled once -/
theorem fillF_twice {t : Tab} {cells : Nat} (tok : TabOk cells t) (vok : ValsOk t) (o o' : Option Int) : ∀ {k : Nat} {qs : List (List Int × List Int)} {x : D}, Nd cells k x → fillF t o k qs (fillF t o' k qs x) = fillF t o k qs x
  | 0, qs, x, _ => rfl
  | k + 1, qs, x, .inl h => by rw [fillF_leaf h, fillF_leaf h, fillF_leaf (leafOf_leaf tok vok o' qs)]
  | k + 1, qs, x, .inr ⟨lot, ps, h1, h2, h3, h4⟩ => by
    subst h4
    rw [fillF_look, fillF_look, fillF_look, List.map_map]
    congr 1
    refine List.map_congr_left fun p hp => ?_
    simp only [Function.comp_apply]
    rw [fillF_twice tok vok o o' (h3 p hp).2]
/-- a node that can be filled: a leaf only behind a look -/
def Rt (c k : Nat) (qs : List (List Int × List Int)) (x : D) : Prop := Nd c k x ∧ (qs = [] → ∃ k', k = k' + 1 ∧ Lk c k' x)
def FillFn (k : Nat) (F : Fn) : Prop := ∀ (t : Tab) (cells : Nat), TabOk cells t → ∀ (o : Option Int) (qs : List (List Int × List Int)), QsOk cells qs → qs.length + k ≤ 50 → ∀ x : D, Rt cells k qs x → F [t.d, spD o, lksD qs, wrdD qs, x] = .ok (fillF t o k qs x) []
def LFillFn (k : Nat) (F : Fn) : Prop := ∀ (t : Tab) (cells : Nat), TabOk cells t → ∀ (o : Option Int) (qs : List (List Int × List Int)), QsOk cells qs → qs.length + k ≤ 50 → ∀ x : D, Rt cells k qs x → F [t.d, spD o, x, lksD qs, wrdD qs] = .ok (fillF t o k qs x) []

end Tx
namespace Tx
open PySem PySem.Spec PyProof.Rows L2 TV
/-! the nodes of a reader, in order -/
abbrev Nod := List Int × Nat × D
def nodD (e : Nod) : D := .tuple [tI e.1, .int (e.2.1 : Nat), e.2.2]
def psOf : D → List (List Int × D)
  | .tuple [_, _, .tuple ds] => ds.map unP
  | _ => []
theorem psOf_look (lot : List Int) (ps : List (List Int × D)) : psOf (mkLook lot ps) = ps := by
  simp only [mkLook, psOf, List.map_map]
  conv => rhs; rw [← List.map_id ps]
  exact List.map_congr_left fun p _ => unP_pair p
theorem psOf_leaf {x : D} (h : Leaf x) : psOf x = [] := by cases h <;> rfl
def nodesF : Nat → List Int → Nat → D → List Nod
  | 0, w, m, x => [(w, m, x)]
  | k + 1, w, m, x => (w, m, x) :: (psOf x).zipIdx.flatMap fun q => nodesF k (w ++ [((q.2 : Nat) : Int)]) (m + 1) q.1.2
theorem nodesF_leaf {k : Nat} {w : List Int} {m : Nat} {x : D} (h : Leaf x) : nodesF k w m x = [(w, m, x)] := by
  cases k with
  | zero => rfl
  | succ k => rw [nodesF, psOf_leaf h]; rfl
theorem nodesF_len : ∀ (k : Nat) (w w' : List Int) (m m' : Nat) (x : D), (nodesF k w m x).length = (nodesF k w' m' x).length
  | 0, _, _, _, _, _ => rfl
  | k + 1, w, w', m, m', x => by
    rw [nodesF, nodesF, List.length_cons, List.length_cons, List.length_flatMap, List.length_flatMap]
    congr 2
    exact List.map_congr_left fun q _ => nodesF_len k _ _ _ _ _
def cntN (k : Nat) (x : D) : Nat := (nodesF k [] 0 x).length
theorem cntN_look (k : Nat) (lot : List Int) (ps : List (List Int × D)) : cntN (k + 1) (mkLook lot ps) = 1 + (ps.map fun p => cntN k p.2).sum := by
  unfold cntN
  rw [nodesF, psOf_look, List.length_cons, List.length_flatMap, Nat.add_comm]
  congr 2
  have h := List.zipIdx_map_fst 0 ps
  conv => rhs; rw [← h, List.map_map]
  exact List.map_congr_left fun q _ => nodesF_len k _ _ _ _ _
def CountEx (c k : Nat) (F : Fn) : Prop := ∀ x, Nd c k x → F [x] = .ok (.int (cntN k x : Nat)) []
theorem sum_int : ∀ ns : List Nat, (ns.map fun n : Nat => (n : Int)).sum = ((ns.sum : Nat) : Int)
  | [] => rfl
  | n :: ns => by simp [sum_int ns]
theorem countEx_sem {Γ : Nat → Fn} {c k : Nat} (rec : ∀ k', k = k' + 1 → CountEx c k' (Γ i__law_count)) : CountEx c k (f__law_count.sem Γ) := fun x hx => by
  have leaf : Leaf x → f__law_count.sem Γ [x] = .ok (.int (cntN k x : Nat)) [] := fun h => by
    have e1 : cntN k x = 1 := by unfold cntN; rw [nodesF_leaf h]; rfl
    rw [e1]
    obtain ⟨s, r, rfl, e⟩ := leaf_head h
    have a0 : atD (.str s :: r) 0 = some (.str s) := atD_at (n := 0) rfl
    unfold Df.sem TV.run f__law_count
    simp [Df.ios, iosOf, Sh.isM, a0, e]
  cases k with
  | zero => exact leaf hx
  | succ k =>
    rcases hx with h | ⟨lot, ps, _, h4, hp, rfl⟩
    · exact leaf h
    · have a0 : atD [.str "look", tI lot, .tuple (ps.map pairD)] 0 = some (.str "look") := rfl
      have a2 : atD [.str "look", tI lot, .tuple (ps.map pairD)] 2 = some (.tuple (ps.map pairD)) := rfl
      have m0 := lcF_fm (ρ := [some (mkLook lot ps), none]) (body := lcT [1] (Tg.v 1) (allD (evE Γ e0__law_count))) (g := pairD) (f := fun p => some (PyData.int (cntN k p.2 : Nat))) ps (fun p hpm => by
        have en := rec k rfl p.2 (hp p hpm).2
        have a1 : atD [tI p.1, p.2] 1 = some p.2 := rfl
        simp [lcT, bindT, allD, wipeE, e0__law_count, pairD, a1, callR, argD, outs, en])
      have fm : ps.filterMap (fun p => some (PyData.int (cntN k p.2 : Nat))) = ((ps.map fun p => cntN k p.2).map fun n : Nat => (n : Int)).map .int := by
        rw [show (fun p : List Int × D => some (PyData.int (cntN k p.2 : Nat))) = some ∘ (fun p : List Int × D => PyData.int (cntN k p.2 : Nat)) from rfl, List.filterMap_eq_map, List.map_map, List.map_map]
        rfl
      rw [fm] at m0
      have hlc := lcD_ok (vs := [1]) (tg := Tg.v 1) (w := evW Γ (W.seq (E.b2 B2.idx (E.v 0) (E.c (PyData.int 2))))) (body := allD (evE Γ e0__law_count)) (ρ := [some (mkLook lot ps), none]) (ρ1 := [some (mkLook lot ps), none]) (by simp [mkLook, a2]) (by simp [LIM]; omega) m0
      have os := o_sum ((ps.map fun p => cntN k p.2).map fun n : Nat => (n : Int))
      rw [sum_int] at os
      rw [cntN_look]
      generalize (ps.map fun p => cntN k p.2).sum = N at os ⊢
      generalize ((ps.map fun p => cntN k p.2).map fun n : Nat => (n : Int)).map PyData.int = LL at os hlc
      simp only [mkLook] at hlc
      unfold Df.sem TV.run f__law_count mkLook
      have e1 : eqD (.str "look") (.str "look") = some true := e_ll
      simp [Df.ios, iosOf, Sh.isM, a0, e1, hlc, backE, os]
theorem cnt_le {c : Nat} : ∀ {k : Nat} {x : D}, Nd c k x → cntN k x ≤ 5 ^ k
  | 0, x, _ => by simp [cntN, nodesF]
  | k + 1, x, .inl h => by
    unfold cntN; rw [nodesF_leaf h]
    exact Nat.pow_pos (by decide)
  | k + 1, x, .inr ⟨lot, ps, _, h4, hp, e⟩ => by
    subst e
    rw [cntN_look]
    have hs : (ps.map fun p => cntN k p.2).sum ≤ ps.length * 5 ^ k := by
      have : ∀ p ∈ ps, cntN k p.2 ≤ 5 ^ k := fun p hpm => cnt_le (hp p hpm).2
      clear hp h4
      induction ps with
      | nil => simp
      | cons p ps ih =>
        have h1 := this p List.mem_cons_self
        have h2 := ih fun q hq => this q (List.mem_cons_of_mem _ hq)
        simp only [List.map_cons, List.sum_cons, List.length_cons, Nat.add_mul, Nat.one_mul]
        omega
    have h5 : ps.length * 5 ^ k ≤ 4 * 5 ^ k := Nat.mul_le_mul_right _ h4
    have h1 : 1 ≤ 5 ^ k := Nat.pow_pos (by decide)
    rw [Nat.pow_succ]; omega
theorem Nd.ups {c : Nat} {x : D} : ∀ {k : Nat} (j : Nat), Nd c k x → Nd c (k + j) x
  | _, 0, h => h
  | _, j + 1, h => (Nd.ups j h).up
theorem nodes_more {c : Nat} : ∀ {k : Nat} {w : List Int} {m : Nat} {x : D} (j : Nat), Nd c k x → nodesF (k + j) w m x = nodesF k w m x
  | 0, w, m, x, j, h => by rw [nodesF_leaf h, nodesF_leaf h]
  | k + 1, w, m, x, j, .inl h => by rw [nodesF_leaf h, nodesF_leaf h]
  | k + 1, w, m, x, j, .inr ⟨lot, ps, h1, h2, h3, e⟩ => by
    subst e
    rw [show k + 1 + j = (k + j) + 1 by omega, nodesF, nodesF, psOf_look]
    congr 1
    have key : ∀ (l : List ((List Int × D) × Nat)), (∀ q ∈ l, q.1 ∈ ps) → (l.flatMap fun q => nodesF (k + j) (w ++ [((q.2 : Nat) : Int)]) (m + 1) q.1.2) = l.flatMap fun q => nodesF k (w ++ [((q.2 : Nat) : Int)]) (m + 1) q.1.2 := fun l hl => by
      induction l with
      | nil => rfl
      | cons q l ih =>
        rw [List.flatMap_cons, List.flatMap_cons, ih fun q hq => hl q (List.mem_cons_of_mem _ hq), nodes_more j (h3 q.1 (hl q List.mem_cons_self)).2]
    exact key _ fun q hq => List.mem_of_getElem? (List.mem_zipIdx_iff_getElem?.mp hq)
def ReaderFn (F : Fn) : Prop := ∀ {deep : List Int} {st : Int}, DkOk deep st → ∀ {t : Tab} {cells : Nat}, TabOk cells t → ValsOk t → t.words.length ≤ 60 → ∀ depth : Int, depth ≤ 3 → ∃ x deep' st', F [dk deep st, t.d, .int depth] = .ok x [some (dk deep' st')] ∧ (Lk cells 2 x ∧ Uq 4 x ∧ cntN 4 x ≤ 60) ∧ DkOk deep' st'
theorem Uq.ups {c : Nat} : ∀ {k : Nat} {x : D} (j : Nat), Nd c k x → Uq k x → Uq (k + j) x
  | 0, x, j, h, _ => .leaf h
  | k + 1, x, j, .inl h, _ => .leaf h
  | k + 1, x, j, .inr ⟨lot, ps, h1, h2, h3, e⟩, hu => by
    subst e
    obtain ⟨u1, u2⟩ := hu lot ps rfl
    rw [show k + 1 + j = (k + j) + 1 by omega]
    exact .look u1 fun p hp => Uq.ups j (h3 p hp).2 (u2 p hp)
theorem Lk.upn {c : Nat} {x : D} : ∀ {k : Nat} (j : Nat), Lk c k x → Lk c (k + j) x
  | _, 0, h => h
  | _, j + 1, h => (Lk.upn j h).up
theorem reader_sem {Γ : Nat → Fn} (hn : NodeFn 2 (Γ i__law_node)) (hn1 : NodeFn 1 (Γ i__law_node)) (hc : ∀ c, CountEx c 4 (Γ i__law_count)) : ReaderFn (f__law_reader.sem Γ) := fun {deep st} ok {t cells} tok vok t60 depth hdep => by
  obtain ⟨x, d1, s1, e1, ⟨lk1, u1⟩, ok1⟩ := hn ok tok vok t60 depth (by omega)
  have e2 := hc cells x lk1.nd.up
  obtain ⟨y, d2, s2, e3, ⟨lk2, u2⟩, ok2⟩ := hn1 ok1 tok vok t60 2 (by omega)
  unfold Df.sem TV.run f__law_reader
  by_cases h : (cntN 4 x : Int) < 61
  · refine ⟨x, d1, s1, ?_, ⟨lk1, Uq.ups 1 lk1.nd u1, by omega⟩, ok1⟩
    simp [Df.ios, iosOf, Sh.isM, callR, argD, outs, e1, e2, h]
  · refine ⟨y, d2, s2, ?_, ⟨lk2.upn 1, Uq.ups 2 lk2.nd u2, ?_⟩, ok2⟩
    · simp [Df.ios, iosOf, Sh.isM, callR, argD, outs, e1, e2, h, e3]
    · have e4 : cntN 4 y = cntN 2 y := by
        unfold cntN
        rw [show (4 : Nat) = 2 + 2 from rfl, nodes_more 2 lk2.nd]
      have h9 : cntN 2 y ≤ 5 ^ 2 := cnt_le (k := 2) lk2.nd
      rw [e4]
      have : (5 : Nat) ^ 2 = 25 := by decide
      omega

end Tx
namespace Tx
open PySem PySem.Spec PyProof.Rows L2 TV
/-! reader_error of a reader -/
theorem lc_true {α : Type} {g : α → D} {xs : List α} {vs : List Nat} {tg : Tg} {w : TV.Env → R (List D)} {body : TV.Env → R (Option D)} {ρ ρ1 : TV.Env} (hw : w ρ = .ok (xs.map g) ρ1) (hl : xs.length ≤ LIM) (h : ∀ x ∈ xs, lcT vs tg body (g x) (wipeE ρ1 vs) = .ok (some (.bool true)) (wipeE ρ1 vs)) : lcD vs tg w body ρ = .ok (.list (List.replicate xs.length (.bool true))) (backE ρ1 (wipeE ρ1 vs) vs) := by
  have m := lcF_fm (g := g) (f := fun _ => some (.bool true)) xs h
  have e : xs.filterMap (fun _ => some (PyData.bool true)) = List.replicate xs.length (.bool true) := by
    clear hw hl h m
    induction xs with
    | nil => rfl
    | cons x xs ih => simp only [List.filterMap_cons, ih]; rfl
  rw [e] at m
  exact lcD_ok hw (by simpa using hl) m
theorem o_allT (n : Nat) : b1 .all_ (.list (List.replicate n (.bool true))) = some (.bool true) := by
  have e : boolsD (List.replicate n (.bool true)) = some (List.replicate n true) := by
    induction n with
    | zero => rfl
    | succ n ih => rw [List.replicate_succ]; show (boolsD (List.replicate n (.bool true))).map (true :: ·) = _; rw [ih]; rfl
  show (match boolsD (List.replicate n (.bool true)) with
    | some bs => some (PyData.bool (bs.all id))
    | none => none) = _
  rw [e]
  simp
@[simp] theorem o_isTupT {ds : List D} : b1 .isTup (.tuple ds) = some (.bool true) := rfl
@[simp] theorem o_isStrS {s : Str} : b1 .isStr (.str s) = some (.bool true) := rfl
@[simp] theorem o_isIntI {i : Int} : b1 .isInt (.int i) = some (.bool true) := rfl
@[simp] theorem o_isBoolI {i : Int} : b1 .isBool (.int i) = some (.bool false) := rfl
@[simp] theorem e_gcI {Γ : Nat → Fn} {x : Str} {d : D} {a : Option D} {as : TV.Env} : evE Γ (.gc x d) (a :: as) = .ok d (a :: as) := rfl
theorem cut_tl (ds : List D) : TV.cutD ds (some 1) none = ds.tail := by
  cases ds with
  | nil => unfold TV.cutD; simp
  | cons d ds => exact cut_from1
/-! the small defs -/
def IntFn (F : Fn) : Prop := ∀ i : Int, F [.int i] = .ok (.bool true) []
theorem int_sem (Γ : Nat → Fn) : IntFn (f_is_integer.sem Γ) := fun i => by
  unfold Df.sem TV.run f_is_integer
  simp [Df.ios, iosOf, Sh.isM]
def SignFn (F : Fn) : Prop := ∀ i : Int, 0 ≤ i → i < 200 → F [.int i] = .ok (.bool true) []
theorem sign_sem {Γ : Nat → Fn} (h : IntFn (Γ i_is_integer)) : SignFn (f_is_sign.sem Γ) := fun i h0 h1 => by
  have e := h i
  have h2 : i ≤ 199 := by omega
  unfold Df.sem TV.run f_is_sign
  simp [Df.ios, iosOf, Sh.isM, callR, argD, outs, e, h0, h2]
def SignRowFn (F : Fn) : Prop := ∀ is : List Int, is.length ≤ 1000 → (∀ i ∈ is, 0 ≤ i ∧ i < 200) → F [tI is] = .ok (.bool true) []
theorem signrow_sem {Γ : Nat → Fn} (h : SignFn (Γ i_is_sign)) : SignRowFn (f_is_sign_row.sem Γ) := fun is hl hs => by
  have hlc := lc_true (g := PyData.int) (xs := is) (vs := [1]) (tg := Tg.v 1) (w := evW Γ (W.seq (.v 0))) (body := allD (evE Γ e0_is_sign_row)) (ρ := [some (tI is), none]) (ρ1 := [some (tI is), none]) (by simp [tI]) (by unfold LIM; omega) (fun i hi => by
    have e := h i (hs i hi).1 (hs i hi).2
    simp [e0_is_sign_row, lcT, bindT, allD, wipeE, callR, argD, outs, e])
  have ha := o_allT is.length
  generalize List.replicate is.length (PyData.bool true) = RR at ha hlc
  unfold tI at hlc ⊢
  unfold Df.sem TV.run f_is_sign_row
  simp [Df.ios, iosOf, Sh.isM, hlc, ha, backE, wipeE]
def ValueFn (F : Fn) : Prop := ∀ v : Int, -1000000000000 ≤ v → v ≤ 1000000000000 → F [.int v] = .ok (.bool true) []
theorem value_sem {Γ : Nat → Fn} (h : IntFn (Γ i_is_integer)) : ValueFn (f_is_value.sem Γ) := fun v h0 h1 => by
  have e := h v
  have h2 : (if v < 0 then -v else v) ≤ 1000000000000 := by split <;> omega
  unfold Df.sem TV.run f_is_value
  simp [Df.ios, iosOf, Sh.isM, callR, argD, outs, e, h2]
theorem zip_tail_map {α : Type} {g : α → D} (xs : List α) : zipD (xs.map g) (xs.map g).tail = (xs.zip xs.tail).map fun p => PyData.tuple [g p.1, g p.2] := by
  unfold zipD
  rw [← List.map_tail, List.zip_map, List.map_map]
  rfl
theorem pair_tail {α : Type} {R : α → α → Prop} : ∀ {xs : List α}, xs.Pairwise R → ∀ p ∈ xs.zip xs.tail, R p.1 p.2
  | [], _, p, hp => by simp at hp
  | [x], _, p, hp => by simp at hp
  | x :: y :: r, h, p, hp => by
    have h := List.pairwise_cons.mp h
    simp only [List.tail_cons, List.zip_cons_cons, List.mem_cons] at hp
    rcases hp with rfl | hp
    · exact h.1 y List.mem_cons_self
    · exact pair_tail (xs := y :: r) h.2 p hp
def CellLotFn (F : Fn) : Prop := ∀ (c : Nat) (lot : List Int), c ≤ 100 → LotOk c lot → lot.Pairwise (· < ·) → F [.int (c : Nat), tI lot] = .ok (.bool true) []
theorem celllot_sem {Γ : Nat → Fn} (h : IntFn (Γ i_is_integer)) : CellLotFn (f_is_cell_lot.sem Γ) := fun c lot hc hlot hasc => by
  obtain ⟨l1, l2, l3⟩ := hlot
  have ll : lot.length ≤ 100 := by omega
  have n1 : eqD (tI lot) (.tuple []) = some false := by
    have := eq_tI lot []
    rw [decide_eq_false l1] at this
    exact this
  have h1 := fun (a3 a4 : Option D) => lc_true (g := PyData.int) (xs := lot) (vs := [2]) (tg := Tg.v 2) (w := evW Γ (W.seq (.v 1))) (body := allD (evE Γ e1_is_cell_lot)) (ρ := [some (.int (c : Nat)), some (tI lot), none, a3, a4]) (ρ1 := [some (.int (c : Nat)), some (tI lot), none, a3, a4]) (by simp [tI]) (by unfold LIM; omega) (fun i hi => by
    obtain ⟨i0, i1⟩ := l3 i hi
    have e := h i
    simp [e1_is_cell_lot, lcT, bindT, allD, wipeE, callR, argD, outs, e, i0, i1])
  have h2 := fun (a2 : Option D) => lc_true (g := fun p : Int × Int => PyData.tuple [.int p.1, .int p.2]) (xs := lot.zip lot.tail) (vs := [3, 4]) (tg := Tg.t (.cons (.v 3) (.cons (.v 4) .nil))) (w := evW Γ (W.zip (.v 1) (.b2 .slL (.v 1) (.c (.int 1))))) (body := allD (evE Γ e0_is_cell_lot)) (ρ := [some (.int (c : Nat)), some (tI lot), a2, none, none]) (ρ1 := [some (.int (c : Nat)), some (tI lot), a2, none, none])
    (by rw [← zip_tail_map]; simp [tI, cut_tl]) (by rw [List.length_zip]; unfold LIM; omega) (fun p hp => by
    have e := pair_tail hasc p hp
    simp [e0_is_cell_lot, lcT, bindT, bindTs, allD, wipeE, e])
  have ha1 := o_allT lot.length
  have ha2 := o_allT (lot.zip lot.tail).length
  generalize List.replicate lot.length (PyData.bool true) = R1 at ha1 h1
  generalize List.replicate (lot.zip lot.tail).length (PyData.bool true) = R2 at ha2 h2
  have it : b1 .isTup (tI lot) = some (.bool true) := rfl
  generalize tI lot = L at *
  unfold Df.sem TV.run f_is_cell_lot
  simp [Df.ios, iosOf, Sh.isM, it, n1, LIM, h1, h2, ha1, ha2, backE, wipeE]
def CellsFn (F : Fn) : Prop := ∀ (t : Tab) (cells : Nat), TabOk cells t → F [t.d] = .ok (.int (cells : Nat)) []
theorem cells_sem (Γ : Nat → Fn) : CellsFn (f_cells_of.sem Γ) := fun t cells tok => by
  have t2 := tok.two
  have a0 : atD [.tuple (t.words.map tI), .tuple (t.vals.map .int)] 0 = some (.tuple (t.words.map tI)) := rfl
  have a00 : atD (t.words.map tI) 0 = some (tI t.words[0]) := atD_at (n := 0) (by rw [List.getElem?_map, List.getElem?_eq_getElem (by omega)]; rfl)
  have rl : t.words[0].length = cells := (tok.row _ (List.getElem_mem (by omega))).1
  unfold Df.sem TV.run f_cells_of
  simp [Df.ios, iosOf, Sh.isM, Tab.d, a0, a00, tI, rl]
def PairFn (F : Fn) : Prop := ∀ p : List Int × D, F [pairD p] = .ok (.bool true) []
theorem pairf_sem (Γ : Nat → Fn) : PairFn (f_is_pair.sem Γ) := fun p => by
  unfold Df.sem TV.run f_is_pair pairD
  simp [Df.ios, iosOf, Sh.isM, eq_int]
theorem e_ta : eqD (.str "tell") (.str "again") = some false := by decide +kernel
theorem e_aa : eqD (.str "again") (.str "again") = some true := by decide +kernel
structure BegFn (F : Fn) : Prop where
  ag3 : F [again, .str "look", .int 3] = .ok (.bool false) []
  ag2 : F [again, .str "tell", .int 2] = .ok (.bool false) []
  ag1 : F [again, .str "again", .int 1] = .ok (.bool true) []
  te3 : ∀ v : Int, F [.tuple [.str "tell", .int v], .str "look", .int 3] = .ok (.bool false) []
  te2 : ∀ v : Int, F [.tuple [.str "tell", .int v], .str "tell", .int 2] = .ok (.bool true) []
  lo3 : ∀ lot ps, F [mkLook lot ps, .str "look", .int 3] = .ok (.bool true) []
theorem beg_sem (Γ : Nat → Fn) : BegFn (f_is_begun.sem Γ) where
  ag3 := by unfold Df.sem TV.run f_is_begun again; simp [Df.ios, iosOf, Sh.isM, eq_int]
  ag2 := by unfold Df.sem TV.run f_is_begun again; simp [Df.ios, iosOf, Sh.isM, eq_int]
  ag1 := by
    have a0' : atD [PyData.str "again"] 0 = some (.str "again") := rfl
    unfold Df.sem TV.run f_is_begun again; simp [Df.ios, iosOf, Sh.isM, eq_int, a0', e_aa]
  te3 := fun v => by unfold Df.sem TV.run f_is_begun; simp [Df.ios, iosOf, Sh.isM, eq_int]
  te2 := fun v => by
    have a0' : atD [PyData.str "tell", .int v] 0 = some (.str "tell") := rfl
    unfold Df.sem TV.run f_is_begun; simp [Df.ios, iosOf, Sh.isM, eq_int, a0', e_tt]
  lo3 := fun lot ps => by
    have a0' : atD [PyData.str "look", tI lot, .tuple (ps.map pairD)] 0 = some (.str "look") := rfl
    unfold Df.sem TV.run f_is_begun mkLook; simp [Df.ios, iosOf, Sh.isM, eq_int, a0', e_ll]
structure BranFn (F : Fn) : Prop where
  leaf : ∀ x, Leaf x → F [x] = .ok (.bool false) []
  look : ∀ lot ps, F [mkLook lot ps] = .ok (.bool true) []
theorem bran_sem {Γ : Nat → Fn} (h : BegFn (Γ i_is_begun)) : BranFn (f_has_branches.sem Γ) where
  leaf := fun x hx => by
    have a := h.ag3
    have b := h.te3
    unfold again at a
    unfold Df.sem TV.run f_has_branches
    cases hx <;> simp [Df.ios, iosOf, Sh.isM, callR, argD, outs, a, b]
  look := fun lot ps => by
    have a := h.lo3 lot ps
    have a2' : atD [PyData.str "look", tI lot, .tuple (ps.map pairD)] 2 = some (.tuple (ps.map pairD)) := rfl
    unfold mkLook at a ⊢
    unfold Df.sem TV.run f_has_branches
    simp [Df.ios, iosOf, Sh.isM, callR, argD, outs, a, a2']
def SightFn (F : Fn) : Prop := ∀ lot s : List Int, s.length ≤ 1000 → SiOk lot.length s → F [tI lot, tI s] = .ok (.bool true) []
theorem sight_sem {Γ : Nat → Fn} (h : SignRowFn (Γ i_is_sign_row)) : SightFn (f_is_sight.sem Γ) := fun lot s hl hs => by
  have e := h s hl hs.2
  have e1 : b1 .len (tI s) = some (.int (s.length : Nat)) := by show some (PyData.int ((s.map PyData.int).length : Nat)) = _; rw [List.length_map]
  have e2 : b1 .len (tI lot) = some (.int (lot.length : Nat)) := by show some (PyData.int ((lot.map PyData.int).length : Nat)) = _; rw [List.length_map]
  rw [hs.1] at e1
  generalize tI s = S at *
  generalize tI lot = L at *
  unfold Df.sem TV.run f_is_sight
  simp [Df.ios, iosOf, Sh.isM, callR, argD, outs, e, e1, e2, eq_int]

end Tx
namespace Tx
open PySem PySem.Spec PyProof.Rows L2 TV
structure Ps (Γ : Nat → Fn) : Prop where
  cells : CellsFn (Γ i_cells_of)
  clot : CellLotFn (Γ i_is_cell_lot)
  sight : SightFn (Γ i_is_sight)
def LFaultFn (F : Fn) : Prop := ∀ (t : Tab) (cells : Nat), TabOk cells t → ∀ (m : Nat) (lot : List Int) (ps : List (List Int × D)), m < 8 → LotOk cells lot → lot.Pairwise (· < ·) → ps.length ≤ 1000 → (∀ p ∈ ps, SiOk lot.length p.1) → (ps.map (·.1)).Pairwise Lx → F [t.d, .int (m : Nat), mkLook lot ps] = .ok .none []
theorem lfault_sem {Γ : Nat → Fn} (hp : Ps Γ) : LFaultFn (f_look_fault.sem Γ) := fun t cells tok m lot ps hm hlot hasc hpl hps hasc2 => by
  have c3 := tok.c3
  have e1 := hp.cells t cells tok
  have e2 := hp.clot cells lot (by omega) hlot hasc
  have l100 : lot.length ≤ 100 := by have := hlot.2.1; omega
  have a1' : atD [PyData.str "look", tI lot, .tuple (ps.map pairD)] 1 = some (tI lot) := rfl
  have a2' : atD [PyData.str "look", tI lot, .tuple (ps.map pairD)] 2 = some (.tuple (ps.map pairD)) := rfl
  have m0 := lcF_fm (ρ := [some t.d, some (.int (m : Nat)), some (mkLook lot ps), none, none, none, none, none, none]) (body := lcT [5] (Tg.v 5) (allD (evE Γ e2_look_fault))) (g := pairD) (f := fun p => some (tI p.1)) ps (fun p _ => by
    have p0 : atD [tI p.1, p.2] 0 = some (tI p.1) := rfl
    simp [e2_look_fault, lcT, bindT, allD, wipeE, pairD, p0])
  have fm : ps.filterMap (fun p : List Int × D => some (tI p.1)) = (ps.map (·.1)).map tI := by
    rw [show (fun p : List Int × D => some (tI p.1)) = some ∘ (fun p : List Int × D => tI p.1) from rfl, List.filterMap_eq_map, List.map_map]
    rfl
  rw [fm] at m0
  have h0 := lcD_ok (vs := [5]) (tg := Tg.v 5) (w := evW Γ (W.seq (.b2 .idx (.v 2) (.c (.int 2))))) (body := allD (evE Γ e2_look_fault)) (ρ := [some t.d, some (.int (m : Nat)), some (mkLook lot ps), none, none, none, none, none, none]) (ρ1 := [some t.d, some (.int (m : Nat)), some (mkLook lot ps), none, none, none, none, none, none]) (ds := ps.map pairD) (by simp [mkLook, a2']) (by simp [LIM]; omega) m0
  have h1 := lc_true (g := tI) (xs := ps.map (·.1)) (vs := [6]) (tg := Tg.v 6) (w := evW Γ (W.seq (.v 4))) (body := allD (evE Γ e1_look_fault)) (ρ := [some t.d, some (.int (m : Nat)), some (mkLook lot ps), some (tI lot), some (.list ((ps.map (·.1)).map tI)), none, none, none, none]) (ρ1 := [some t.d, some (.int (m : Nat)), some (mkLook lot ps), some (tI lot), some (.list ((ps.map (·.1)).map tI)), none, none, none, none]) (by simp) (by rw [List.length_map]; unfold LIM; omega) (fun s hs => by
    obtain ⟨p, hpm, rfl⟩ := List.mem_map.mp hs
    have sk := hps p hpm
    have e := hp.sight lot p.1 (by rw [sk.1]; omega) sk
    simp [e1_look_fault, lcT, bindT, allD, wipeE, callR, argD, outs, e])
  have h2 := lc_true (g := fun p : List Int × List Int => PyData.tuple [tI p.1, tI p.2]) (xs := (ps.map (·.1)).zip (ps.map (·.1)).tail) (vs := [7, 8]) (tg := Tg.t (.cons (.v 7) (.cons (.v 8) .nil))) (w := evW Γ (W.zip (.v 4) (.b2 .slL (.v 4) (.c (.int 1))))) (body := allD (evE Γ e0_look_fault)) (ρ := [some t.d, some (.int (m : Nat)), some (mkLook lot ps), some (tI lot), some (.list ((ps.map (·.1)).map tI)), none, none, none, none]) (ρ1 := [some t.d, some (.int (m : Nat)), some (mkLook lot ps), some (tI lot), some (.list ((ps.map (·.1)).map tI)), none, none, none, none])
    (by
      rw [← zip_tail_map]
      generalize (ps.map (·.1)).map tI = SS
      simp [cut_tl]) (by rw [List.length_zip, List.length_map]; unfold LIM; omega) (fun p hpm => by
    have e : lexLtI p.1 p.2 = true := pair_tail hasc2 p hpm
    have lt : b2 .lt (tI p.1) (tI p.2) = some (.bool true) := by
      show lexD lexLtI (p.1.map .int) (p.2.map .int) = _
      unfold lexD
      rw [intsD_i, intsD_i]
      show some (PyData.bool (lexLtI p.1 p.2)) = _
      rw [e]
    simp [e0_look_fault, lcT, bindT, bindTs, allD, wipeE, lt])
  have ha1 := o_allT (ps.map (·.1)).length
  have ha2 := o_allT ((ps.map (·.1)).zip (ps.map (·.1)).tail).length
  generalize List.replicate (ps.map (·.1)).length (PyData.bool true) = R1 at ha1 h1
  generalize List.replicate ((ps.map (·.1)).zip (ps.map (·.1)).tail).length (PyData.bool true) = R2 at ha2 h2
  generalize (ps.map (·.1)).map tI = SS at h0 h1 h2
  have nm : ¬ 8 ≤ (m : Int) := by omega
  unfold mkLook at h0 h1 h2 ⊢
  generalize ps.map pairD = PP at *
  generalize tI lot = L at *
  unfold Df.sem TV.run f_look_fault
  simp [Df.ios, iosOf, Sh.isM, nm, a1', h0, LIM, bindTs, bindT, callR, argD, outs, e1, e2, h1, ha1, h2, ha2, backE, wipeE]
/-- a node of a reader -/
def NodOk (cells : Nat) (e : Nod) : Prop := (Leaf e.2.2 ∧ e.1 ≠ []) ∨ ∃ lot ps, e.2.2 = mkLook lot ps ∧ e.2.1 < 8 ∧ LotOk cells lot ∧ lot.Pairwise (· < ·) ∧ ps.length ≤ 4 ∧ (∀ p ∈ ps, SiOk lot.length p.1) ∧ (ps.map (·.1)).Pairwise Lx
structure Qs (Γ : Nat → Fn) : Prop where
  beg : BegFn (Γ i_is_begun)
  bran : BranFn (Γ i_has_branches)
  pair : PairFn (Γ i_is_pair)
  lf : LFaultFn (Γ i_look_fault)
  val : ValueFn (Γ i_is_value)
def NFaultFn (F : Fn) : Prop := ∀ (t : Tab) (cells : Nat), TabOk cells t → ∀ e : Nod, NodOk cells e → F [t.d, tI e.1, .int (e.2.1 : Nat), e.2.2] = .ok .none []
theorem nfault_sem {Γ : Nat → Fn} (hq : Qs Γ) : NFaultFn (f_node_fault.sem Γ) := fun t cells tok e he => by
  obtain ⟨w, m, x⟩ := e
  rcases he with ⟨hl, hw⟩ | ⟨lot, ps, rfl, hm, hlot, hasc, h4, hps, hasc2⟩
  · have hw : w ≠ [] := hw
    have hl : Leaf x := hl
    have n1 : eqD (tI w) (.tuple []) = some false := by
      have := eq_tI w []
      rw [decide_eq_false hw] at this
      exact this
    have e1 := hq.bran.leaf x hl
    have isl : e_at = e_at := rfl
    generalize tI w = W at *
    cases hl with
    | again =>
      have b2' := hq.beg.ag2
      have b1' := hq.beg.ag1
      unfold again at b1' b2'
      have a0' : atD [PyData.str "again"] 0 = some (.str "again") := rfl
      unfold Df.sem TV.run f_node_fault
      simp [Df.ios, iosOf, Sh.isM, callR, argD, outs, e1, n1, b1', b2', LIM, a0', e_at]
    | tell v hv =>
      have b2' := hq.beg.te2 v
      have ev := hq.val v hv.1 hv.2
      have a0' : atD [PyData.str "tell", .int v] 0 = some (.str "tell") := rfl
      have a1' : atD [PyData.str "tell", .int v] 1 = some (.int v) := rfl
      unfold Df.sem TV.run f_node_fault
      simp [Df.ios, iosOf, Sh.isM, callR, argD, outs, e1, n1, b2', LIM, a0', a1', e_tt, ev]
  · have e1 := hq.bran.look lot ps
    have e2 := hq.lf t cells tok m lot ps hm hlot hasc (by omega) hps hasc2
    have a2' : atD [PyData.str "look", tI lot, .tuple (ps.map pairD)] 2 = some (.tuple (ps.map pairD)) := rfl
    have h1 := lc_true (g := pairD) (xs := ps) (vs := [4]) (tg := Tg.v 4) (w := evW Γ (W.seq (.b2 .idx (.v 3) (.c (.int 2))))) (body := allD (evE Γ e0_node_fault)) (ρ := [some t.d, some (tI w), some (.int (m : Nat)), some (mkLook lot ps), none]) (ρ1 := [some t.d, some (tI w), some (.int (m : Nat)), some (mkLook lot ps), none]) (by simp [mkLook, a2']) (by unfold LIM; omega) (fun p hp => by
      have e := hq.pair p
      simp [e0_node_fault, lcT, bindT, allD, wipeE, callR, argD, outs, e])
    have ha := o_allT ps.length
    generalize List.replicate ps.length (PyData.bool true) = R1 at ha h1
    show f_node_fault.sem Γ [t.d, tI w, .int (m : Nat), mkLook lot ps] = _
    generalize mkLook lot ps = X at *
    generalize tI w = W at *
    unfold Df.sem TV.run f_node_fault
    simp [Df.ios, iosOf, Sh.isM, callR, argD, outs, e1, h1, ha, backE, wipeE, e2]
theorem nodes_ok {cells : Nat} : ∀ {k : Nat} {w : List Int} {m : Nat} {x : D}, Nd cells k x → Uq k x → m + k ≤ 8 → (w ≠ [] ∨ ∃ lot ps, x = mkLook lot ps) → ∀ e ∈ nodesF k w m x, NodOk cells e := fun {k w m x} hx hu hm hw e he => by
  have leaf : ∀ {k}, Leaf x → e ∈ nodesF k w m x → NodOk cells e := fun {k} hl he => by
    rw [nodesF_leaf hl] at he
    simp only [List.mem_singleton] at he
    subst he
    refine .inl ⟨hl, ?_⟩
    rcases hw with h | ⟨lot, ps, rfl⟩
    · exact h
    · exfalso
      generalize hy : mkLook lot ps = y at hl
      cases hl <;> simp [mkLook] at hy
  induction k generalizing w m x with
  | zero => exact leaf hx he
  | succ k ih =>
    rcases hx with h | ⟨lot, ps, h1, h2, h3, rfl⟩
    · exact leaf h he
    · obtain ⟨⟨u1, u2⟩, u3⟩ := hu lot ps rfl
      rw [nodesF, psOf_look] at he
      rcases List.mem_cons.mp he with rfl | he
      · exact .inr ⟨lot, ps, rfl, by show m < 8; omega, h1, u1, h2, fun p hp => (h3 p hp).1, u2⟩
      · obtain ⟨q, hq, he⟩ := List.mem_flatMap.mp he
        have hqm := List.mem_of_getElem? (List.mem_zipIdx_iff_getElem?.mp hq)
        exact ih (h3 q.1 hqm).2 (u3 q.1 hqm) (by omega) (.inl (by simp)) he (fun {k} hl he => by
          rw [nodesF_leaf hl] at he
          simp only [List.mem_singleton] at he
          subst he
          exact .inl ⟨hl, by simp⟩)
/-! nodes_in -/
abbrev Sta := Nat × Nod
def remF (T : List Sta) : List Nod := T.reverse.flatMap fun e => nodesF e.1 e.2.1 e.2.2.1 e.2.2.2
theorem remF_snoc (T : List Sta) (e : Sta) : remF (T ++ [e]) = nodesF e.1 e.2.1 e.2.2.1 e.2.2.2 ++ remF T := by unfold remF; simp
theorem remF_app (T U : List Sta) : remF (T ++ U.reverse) = (U.flatMap fun e => nodesF e.1 e.2.1 e.2.2.1 e.2.2.2) ++ remF T := by unfold remF; simp
theorem nodesF_pos (k : Nat) (w : List Int) (m : Nat) (x : D) : 1 ≤ (nodesF k w m x).length := by cases k <;> simp [nodesF]
def staD (e : Sta) : D := nodD e.2
def belowF (k : Nat) (w : List Int) (m : Nat) (ps : List (List Int × D)) : List Sta := ps.zipIdx.map fun q => (k, w ++ [((q.2 : Nat) : Int)], m + 1, q.1.2)
theorem below_lc {Γ : Nat → Fn} (hp : PairFn (Γ i_is_pair)) (k : Nat) {w : List Int} (hw : w.length ≤ 100) {m : Nat} {lot : List Int} {ps : List (List Int × D)} (h4 : ps.length ≤ 4) {a0 a1 a2 a6 a7 a8 : Option D} :
    lcD [7, 8] (Tg.t (.cons (.v 7) (.cons (.v 8) .nil))) (evW Γ (W.enum (.b2 .idx (.v 5) (.c (.int 2))))) (ifD (evE Γ c0_nodes_in) (evE Γ e0_nodes_in)) [a0, a1, a2, some (tI w), some (.int (m : Nat)), some (mkLook lot ps), a6, a7, a8] = .ok (.list ((belowF k w m ps).map staD)) [a0, a1, a2, some (tI w), some (.int (m : Nat)), some (mkLook lot ps), a6, a7, a8] := by
  have a2' : atD [PyData.str "look", tI lot, .tuple (ps.map pairD)] 2 = some (.tuple (ps.map pairD)) := rfl
  have m0 := lcF_fm (ρ := [a0, a1, a2, some (tI w), some (.int (m : Nat)), some (mkLook lot ps), a6, none, none]) (body := lcT [7, 8] (Tg.t (.cons (.v 7) (.cons (.v 8) .nil))) (ifD (evE Γ c0_nodes_in) (evE Γ e0_nodes_in))) (g := fun q : (List Int × D) × Nat => PyData.tuple [.int (q.2 : Nat), pairD q.1]) (f := fun q => some (nodD (w ++ [((q.2 : Nat) : Int)], m + 1, q.1.2))) ps.zipIdx (fun q _ => by
    have e := hp q.1
    have p1 : atD [tI q.1.1, q.1.2] 1 = some q.1.2 := rfl
    have l1 : (w.map PyData.int).length + 1 ≤ 1000000 := by rw [List.length_map]; omega
    unfold pairD at e ⊢
    unfold nodD tI at *
    simp only [List.map_append, List.map_cons, List.map_nil]
    generalize w.map PyData.int = W at *
    simp [c0_nodes_in, e0_nodes_in, lcT, bindT, bindTs, ifD, wipeE, callR, argD, outs, e, p1, LIM, l1])
  have ed : enumD (ps.map pairD) = ps.zipIdx.map fun q => PyData.tuple [.int (q.2 : Nat), pairD q.1] := by
    unfold enumD
    rw [List.zipIdx_map, List.map_map]
    rfl
  have fm : (ps.zipIdx.filterMap fun q : (List Int × D) × Nat => some (nodD (w ++ [((q.2 : Nat) : Int)], m + 1, q.1.2))) = (belowF k w m ps).map staD := by
    unfold belowF
    rw [show (fun q : (List Int × D) × Nat => some (nodD (w ++ [((q.2 : Nat) : Int)], m + 1, q.1.2))) = some ∘ (fun q : (List Int × D) × Nat => nodD (w ++ [((q.2 : Nat) : Int)], m + 1, q.1.2)) from rfl, List.filterMap_eq_map, List.map_map]
    rfl
  rw [fm] at m0
  have hlc := lcD_ok (vs := [7, 8]) (tg := Tg.t (.cons (.v 7) (.cons (.v 8) .nil))) (w := evW Γ (W.enum (.b2 .idx (.v 5) (.c (.int 2))))) (body := ifD (evE Γ c0_nodes_in) (evE Γ e0_nodes_in)) (ρ := [a0, a1, a2, some (tI w), some (.int (m : Nat)), some (mkLook lot ps), a6, a7, a8]) (ρ1 := [a0, a1, a2, some (tI w), some (.int (m : Nat)), some (mkLook lot ps), a6, a7, a8]) (ds := ps.zipIdx.map fun q => PyData.tuple [.int (q.2 : Nat), pairD q.1])
    (by rw [← ed]; simp [mkLook, a2']) (by simp [LIM]; omega) m0
  rw [hlc]
  simp [backE]

end Tx
namespace Tx
open PySem PySem.Spec PyProof.Rows L2 TV
theorem remS (T : List Sta) (k : Nat) (w : List Int) (m : Nat) (x : D) : remF (T ++ [(k, w, m, x)]) = nodesF k w m x ++ remF T := remF_snoc T _
theorem rem_len (T : List Sta) : T.length ≤ (remF T).length := by
  unfold remF
  rw [← List.length_reverse]
  generalize T.reverse = U
  induction U with
  | nil => simp
  | cons e U ih =>
    rw [List.flatMap_cons, List.length_append, List.length_cons]
    have := nodesF_pos e.1 e.2.1 e.2.2.1 e.2.2.2
    omega
theorem pop2 {a0 a1 : Option D} {xs : List D} {d : D} {r : TV.Env} : popD (.v 2) (a0 :: a1 :: some (.list (xs ++ [d])) :: r) = .ok d (a0 :: a1 :: some (.list xs) :: r) := by
  simp [popD, getPl, setPl]
abbrev nodC : E := .and_ (.b2 .ne (.v 2) (.lst .nil)) (.b2 .le (.b1 .len (.v 1)) (.gc "MAX_NODES" (.int 60)))
abbrev nodB : Ss := .cons (.asg (.t (.cons (.v 3) (.cons (.v 4) (.cons (.v 5) .nil)))) (.pop (.v 2))) (.cons (.app (.v 1) (.tup (.cons (.v 3) (.cons (.v 4) (.cons (.v 5) .nil))))) (.cons (.ifs (.call i_has_branches (.val (.v 5) .nil)) (.cons (.asg (.v 6) (.lci [7, 8] (.enum (.b2 .idx (.v 5) (.c (.int 2)))) (.t (.cons (.v 7) (.cons (.v 8) .nil))) c0_nodes_in e0_nodes_in)) (.cons (.ext (.v 2) (.b1 .rev (.v 6))) .nil)) .nil) .nil))
def StaOk (cells : Nat) (e : Sta) : Prop := Nd cells e.1 e.2.2.2 ∧ e.1 ≤ 4 ∧ e.2.1.length + e.1 ≤ 50
theorem staD_pd {cells : Nat} (hc : cells ≤ 3) {e : Sta} (h : StaOk cells e) : pd (staD e) = true ∧ (staD e).depth ≤ 63 := by
  obtain ⟨k, w, m, x⟩ := e
  obtain ⟨h1, h2, _⟩ := h
  have h2 : k ≤ 4 := h2
  obtain ⟨q1, q2, _⟩ := Nd.fits hc (show Nd cells k x from h1)
  have q3 := tI_dp w
  refine ⟨by simp only [staD, nodD, pd, pds, tI_pd, q1, Bool.and_self], ?_⟩
  simp only [staD, nodD, PyData.depth, PyData.depthAll, q3]
  omega
theorem nodes_loop {Γ : Nat → Fn} (hb : BranFn (Γ i_has_branches)) (hp : PairFn (Γ i_is_pair)) {cells : Nat} (hc : cells ≤ 3) {a0 : Option D} : ∀ (n : Nat) (T : List Sta) (F : List Nod) (fuel : Nat) (a3 a4 a5 a6 a7 a8 : Option D), (remF T).length = n → (∀ e ∈ T, StaOk cells e) → F.length + n ≤ 60 → n < fuel →
    ∃ (b3 b4 b5 b6 b7 b8 : Option D), whlF (evE Γ nodC) (exSs Γ nodB) fuel [a0, some (.list (F.map nodD)), some (.list (T.map staD)), a3, a4, a5, a6, a7, a8] = .nx [a0, some (.list ((F ++ remF T).map nodD)), some (.list []), b3, b4, b5, b6, b7, b8] := fun n => by
  induction n using Nat.strongRecOn with
  | _ n ih =>
    intro T F fuel a3 a4 a5 a6 a7 a8 hn hT hF hfuel
    obtain ⟨fuel, rfl⟩ : ∃ f, fuel = f + 1 := ⟨fuel - 1, by omega⟩
    have eN := eq_nilD (ds := T.map staD) (fun d hd => by
      obtain ⟨e, he, rfl⟩ := List.mem_map.mp hd
      exact staD_pd hc (hT e he))
    have hFl : (F.map nodD).length ≤ 60 := by rw [List.length_map]; omega
    rcases List.eq_nil_or_concat T with rfl | ⟨T', e, rfl⟩
    · refine ⟨a3, a4, a5, a6, a7, a8, ?_⟩
      have : remF [] = [] := rfl
      rw [this, List.append_nil]
      rw [List.map_nil, decide_eq_true rfl] at eN
      generalize F.map nodD = FF
      simp [whlF, eN, LIM]
    · have hn1 := nodesF_pos e.1 e.2.1 e.2.2.1 e.2.2.2
      rw [List.concat_eq_append] at *
      have ok := hT e (by simp)
      obtain ⟨k, w, m, x⟩ := e
      rw [remS, List.length_append] at hn
      have hn1 : 1 ≤ (nodesF k w m x).length := hn1
      have ne : (T' ++ [(k, w, m, x)]).map staD ≠ [] := by simp
      rw [decide_eq_false ne] at eN
      have mapT : (T' ++ [(k, w, m, x)]).map staD = T'.map staD ++ [.tuple [tI w, .int (m : Nat), x]] := by simp [staD, nodD]
      have mapF : (F ++ [(w, m, x)]).map nodD = F.map nodD ++ [.tuple [tI w, .int (m : Nat), x]] := by simp [nodD]
      rw [mapT] at eN ⊢
      have hle : ((F.map nodD).length : Int) ≤ 60 := by omega
      have cond : evE Γ nodC [a0, some (.list (F.map nodD)), some (.list (T'.map staD ++ [.tuple [tI w, .int (m : Nat), x]])), a3, a4, a5, a6, a7, a8] = .ok (.bool true) [a0, some (.list (F.map nodD)), some (.list (T'.map staD ++ [.tuple [tI w, .int (m : Nat), x]])), a3, a4, a5, a6, a7, a8] := by
        generalize F.map nodD = FF at hle ⊢
        generalize T'.map staD ++ [PyData.tuple [tI w, .int (m : Nat), x]] = TT at eN ⊢
        simp [eN, LIM, hle]
      have lt : (F.map nodD).length < LIM := by unfold LIM; omega
      have go : ∀ (T2 : List Sta) (b6 : Option D), (remF T2).length < n → (∀ e ∈ T2, StaOk cells e) → remF (T' ++ [(k, w, m, x)]) = (w, m, x) :: remF T2 →
          exSs Γ nodB [a0, some (.list (F.map nodD)), some (.list (T'.map staD ++ [.tuple [tI w, .int (m : Nat), x]])), a3, a4, a5, a6, a7, a8] = .nx [a0, some (.list ((F ++ [(w, m, x)]).map nodD)), some (.list (T2.map staD)), some (tI w), some (.int (m : Nat)), some x, b6, a7, a8] →
          ∃ (b3 b4 b5 b6 b7 b8 : Option D), whlF (evE Γ nodC) (exSs Γ nodB) (fuel + 1) [a0, some (.list (F.map nodD)), some (.list (T'.map staD ++ [.tuple [tI w, .int (m : Nat), x]])), a3, a4, a5, a6, a7, a8] = .nx [a0, some (.list ((F ++ remF (T' ++ [(k, w, m, x)])).map nodD)), some (.list []), b3, b4, b5, b6, b7, b8] := fun T2 b6 h1 h2 h4 h5 => by
        have hlen : (remF T2).length + 1 = n := by
          have := congrArg List.length h4
          rw [remS, List.length_append, List.length_cons] at this
          omega
        obtain ⟨c3, c4, c5, c6, c7, c8, e2⟩ := ih _ h1 T2 (F ++ [(w, m, x)]) fuel (some (tI w)) (some (.int (m : Nat))) (some x) b6 a7 a8 rfl h2 (by rw [List.length_append]; simp only [List.length_cons, List.length_nil]; omega) (by omega)
        refine ⟨c3, c4, c5, c6, c7, c8, ?_⟩
        rw [whlF, cond]
        simp only [R.fl_ok]
        rw [h5]
        simp only []
        rw [e2, h4, List.append_assoc]
        rfl
      have leaf : Leaf x → nodesF k w m x = [(w, m, x)] → ∃ (b3 b4 b5 b6 b7 b8 : Option D), whlF (evE Γ nodC) (exSs Γ nodB) (fuel + 1) [a0, some (.list (F.map nodD)), some (.list (T'.map staD ++ [.tuple [tI w, .int (m : Nat), x]])), a3, a4, a5, a6, a7, a8] = .nx [a0, some (.list ((F ++ remF (T' ++ [(k, w, m, x)])).map nodD)), some (.list []), b3, b4, b5, b6, b7, b8] := fun hl hnd => by
        have e1 := hb.leaf x hl
        refine go T' a6 (by rw [hnd] at hn; simp at hn; omega) (fun e he => hT e (by simp [he])) (by rw [remS, hnd]; rfl) ?_
        rw [mapF]
        generalize F.map nodD = FF at lt ⊢
        generalize T'.map staD = TT
        generalize tI w = W
        simp [pop2, bindTs, bindT, appD, getPl, setPl, lt, LIM, callR, argD, outs, e1]
      obtain ⟨h1, h2, h3⟩ := ok
      have h1 : Nd cells k x := h1
      have h2 : k ≤ 4 := h2
      have h3 : w.length + k ≤ 50 := h3
      cases k with
      | zero => exact leaf h1 rfl
      | succ k =>
        rcases h1 with hl | ⟨lot, ps, l1, l2, l3, rfl⟩
        · exact leaf hl (nodesF_leaf hl)
        · have e1 := hb.look lot ps
          have hlc := fun (a1 a2 a6 a7 a8 : Option D) => below_lc (Γ := Γ) hp k (w := w) (by omega) (m := m) (lot := lot) l2 (a0 := a0) (a1 := a1) (a2 := a2) (a6 := a6) (a7 := a7) (a8 := a8)
          have hr : remF (T' ++ [(k + 1, w, m, mkLook lot ps)]) = (w, m, mkLook lot ps) :: remF (T' ++ (belowF k w m ps).reverse) := by
            rw [remS, remF_app, nodesF, psOf_look]
            unfold belowF
            rw [List.flatMap_map]
            rfl
          have bl : (belowF k w m ps).length = ps.length := by unfold belowF; simp
          refine go (T' ++ (belowF k w m ps).reverse) (some (.list ((belowF k w m ps).map staD))) ?_ (fun e he => ?_) hr ?_
          · have := congrArg List.length hr
            rw [remS, List.length_append, List.length_cons] at this
            omega
          · rcases List.mem_append.mp he with he | he
            · exact hT e (by simp [he])
            · rw [List.mem_reverse] at he
              unfold belowF at he
              obtain ⟨q, hq, rfl⟩ := List.mem_map.mp he
              have hqm := List.mem_of_getElem? (List.mem_zipIdx_iff_getElem?.mp hq)
              exact ⟨(l3 q.1 hqm).2, by show k ≤ 4; omega, by simp; omega⟩
          · have mapR : (T' ++ (belowF k w m ps).reverse).map staD = T'.map staD ++ ((belowF k w m ps).map staD).reverse := by rw [List.map_append, List.map_reverse]
            have ll : (T'.map staD).length + ((belowF k w m ps).map staD).reverse.length ≤ LIM := by
              rw [List.length_reverse, List.length_map, List.length_map, bl]
              have := rem_len T'
              unfold LIM; omega
            rw [mapF, mapR]
            generalize (belowF k w m ps).map staD = BB at *
            generalize F.map nodD = FF at lt ⊢
            generalize T'.map staD = TT at *
            generalize tI w = W at *
            have rv : b1 .rev (.list BB) = some (.list BB.reverse) := rfl
            generalize mkLook lot ps = X at *
            have ll2 : TT.length + BB.length ≤ 1000000 := by rw [List.length_reverse] at ll; exact ll
            simp [ll2, pop2, bindTs, bindT, appD, getPl, setPl, lt, LIM, callR, argD, outs, e1, hlc, extD, rv]

end Tx
namespace Tx
open PySem PySem.Spec PyProof.Rows L2 TV
theorem remS1 (k : Nat) (w : List Int) (m : Nat) (x : D) : remF [(k, w, m, x)] = nodesF k w m x := by
  unfold remF; simp
def NodesFn (F : Fn) : Prop := ∀ (cells : Nat), cells ≤ 3 → ∀ x, Nd cells 4 x → cntN 4 x ≤ 60 → F [x] = .ok (.list ((nodesF 4 [] 0 x).map nodD)) []
theorem nodesin_sem {Γ : Nat → Fn} (hb : BranFn (Γ i_has_branches)) (hp : PairFn (Γ i_is_pair)) : NodesFn (f_nodes_in.sem Γ) := fun cells hc x hx hcnt => by
  obtain ⟨b3, b4, b5, b6, b7, b8, e⟩ := nodes_loop (Γ := Γ) hb hp hc (a0 := some x) (nodesF 4 [] 0 x).length [(4, [], 0, x)] [] 1000000 none none none none none none (by rw [remS1]) (fun e he => by
    simp only [List.mem_cons, List.not_mem_nil, or_false] at he
    subst he
    exact ⟨hx, by show 4 ≤ 4; omega, by simp⟩) (by unfold cntN at hcnt; simp; omega) (by unfold cntN at hcnt; omega)
  rw [remS1, List.nil_append] at e
  have e : whlF (evE Γ nodC) (exSs Γ nodB) 1000000 [some x, some (.list []), some (.list [.tuple [.tuple [], .int 0, x]]), none, none, none, none, none, none] = .nx [some x, some (.list ((nodesF 4 [] 0 x).map nodD)), some (.list []), b3, b4, b5, b6, b7, b8] := e
  unfold Df.sem TV.run f_nodes_in
  generalize (nodesF 4 [] 0 x).map nodD = NN at e ⊢
  simp [Df.ios, iosOf, Sh.isM, LIM, TV.bindL, mvD, e]
def RErrFn (F : Fn) : Prop := ∀ (t : Tab) (cells : Nat), TabOk cells t → cells ≤ 3 → ∀ x, Nd cells 4 x → Uq 4 x → cntN 4 x ≤ 60 → (∃ lot ps, x = mkLook lot ps) → F [t.d, x] = .ok .none []
theorem rerr_sem {Γ : Nat → Fn} (hn : NodesFn (Γ i_nodes_in)) (hf : NFaultFn (Γ i_node_fault)) : RErrFn (f_reader_error.sem Γ) := fun t cells tok hc x hx hu hcnt hlk => by
  have e1 := hn cells hc x hx hcnt
  have ok : ∀ e ∈ nodesF 4 [] 0 x, NodOk cells e := nodes_ok hx hu (by omega) (.inr hlk)
  unfold cntN at hcnt
  generalize nodesF 4 [] 0 x = N at *
  have loop := forF_inv (body := forT (.t (.cons (.v 3) (.cons (.v 4) (.cons (.v 5) .nil)))) (exSs Γ b0_reader_error))
    (fun ds ρ => ∃ (M : List Nod) (a3 a4 a5 a6 : Option D), (∀ e ∈ M, NodOk cells e) ∧ ds = M.map nodD ∧ ρ = [some t.d, some x, some (.list (N.map nodD)), a3, a4, a5, a6]) (fun d ds ρ ⟨M, a3, a4, a5, a6, hM, hds, hρ⟩ => by
      subst hρ
      cases M with
      | nil => simp at hds
      | cons e M =>
        obtain ⟨rfl, rfl⟩ := List.cons.inj hds
        have e2 := hf t cells tok e (hM e List.mem_cons_self)
        refine ⟨[some t.d, some x, some (.list (N.map nodD)), some (tI e.1), some (.int (e.2.1 : Nat)), some e.2.2, some .none], ?_, M, _, _, _, _, fun e he => hM e (List.mem_cons_of_mem _ he), rfl, rfl⟩
        left
        generalize N.map nodD = NN
        simp only [nodD]
        generalize tI e.1 = W at *
        generalize e.2.2 = X at *
        simp [forT, bindT, bindTs, b0_reader_error, callR, argD, outs, e2])
  obtain ⟨ρ', e3, M, a3, a4, a5, a6, _, _, hρ⟩ := loop (N.map nodD) [some t.d, some x, some (.list (N.map nodD)), none, none, none, none] ⟨N, none, none, none, none, ok, rfl, rfl⟩
  subst hρ
  have hl : (N.map nodD).length ≤ 60 := by rw [List.length_map]; omega
  have hl2 : ¬ (60 : Int) < ((N.map nodD).length : Int) := by omega
  generalize N.map nodD = NN at *
  unfold Df.sem TV.run f_reader_error
  have hl3 : NN.length ≤ 1000000 := by omega
  simp [Df.ios, iosOf, Sh.isM, callR, argD, outs, e1, LIM, hl2, hl3, e3]

end Tx
namespace Tx
open PySem PySem.Spec PyProof.Rows L2 TV
def BehindFn (F : Fn) : Prop := ∀ lot ps s, F [mkLook lot ps, tI s] = .ok (nxt ps s) []
theorem behind_loop {Γ : Nat → Fn} {a0 : D} {s : List Int} : ∀ (ps : List (List Int × D)) (a2 a3 : Option D), (∃ ρ, forF (forT (Tg.t (.cons (.v 2) (.cons (.v 3) .nil))) (exSs Γ b0_node_behind)) (ps.map pairD) [some a0, some (tI s), a2, a3] = .nx (some a0 :: ρ) ∧ nxt ps s = again) ∨ ∃ ρ, forF (forT (Tg.t (.cons (.v 2) (.cons (.v 3) .nil))) (exSs Γ b0_node_behind)) (ps.map pairD) [some a0, some (tI s), a2, a3] = .ret (nxt ps s) ρ
  | [], a2, a3 => .inl ⟨_, rfl, rfl⟩
  | p :: ps, a2, a3 => by
    by_cases h : p.1 = s
    · right
      have e : nxt (p :: ps) s = p.2 := by simp [nxt, h]
      rw [e]
      refine ⟨[some a0, some (tI s), some (tI p.1), some p.2], ?_⟩
      have : forT (Tg.t (.cons (.v 2) (.cons (.v 3) .nil))) (exSs Γ b0_node_behind) (pairD p) [some a0, some (tI s), a2, a3] = .ret p.2 [some a0, some (tI s), some (tI p.1), some p.2] := by
        simp [forT, bindT, bindTs, pairD, b0_node_behind, eq_tI, h]
      simp [forF, this]
    · have e : nxt (p :: ps) s = nxt ps s := by simp [nxt, h]
      have : forT (Tg.t (.cons (.v 2) (.cons (.v 3) .nil))) (exSs Γ b0_node_behind) (pairD p) [some a0, some (tI s), a2, a3] = .nx [some a0, some (tI s), some (tI p.1), some p.2] := by
        simp [forT, bindT, bindTs, pairD, b0_node_behind, eq_tI, h]
      rw [e]
      simp only [List.map_cons, forF, this]
      exact behind_loop ps (some (tI p.1)) (some p.2)
theorem behind_sem (Γ : Nat → Fn) : BehindFn (f_node_behind.sem Γ) := fun lot ps s => by
  unfold Df.sem TV.run f_node_behind
  rcases behind_loop (Γ := Γ) (a0 := mkLook lot ps) (s := s) ps none none with ⟨ρ, h, e⟩ | ⟨ρ, h⟩
  · simp [Df.ios, iosOf, Sh.isM, h, LIM, e]
    rfl
  · simp [Df.ios, iosOf, Sh.isM, h]

end Tx
namespace Tx
open PySem PySem.Spec PyProof.Rows L2 TV
/-- a thing that is told -/
def EntOk (d : D) : Prop := pd d = true ∧ d.depth ≤ 1 ∧ tx d = true ∧ sz d ≤ 51
theorem ent_ok {v a b : Int} (h1 : v.natAbs < 10 ^ 13) (h2 : a.natAbs < 10 ^ 13) (h3 : b.natAbs < 10 ^ 13) : EntOk (.tuple [.int v, .int a, .int b]) := by
  refine ⟨rfl, by simp [PyData.depth, PyData.depthAll], ?_, by simp [sz, szs]⟩
  simp only [tx, txs, decide_eq_true h1, decide_eq_true h2, decide_eq_true h3]
  rfl
/-- a moment and its state -/
def momD (p : Nat × Nat) : D := .tuple [.int (p.1 : Nat), .int (p.2 : Nat)]
section
variable {Γ : Nat → Fn} {t : Tab} {cells : Nat}
/-- what the law sees -/
theorem sight_lc (ok : TabOk cells t) {lot : List Int} (hl : ∀ i ∈ lot, 0 ≤ i ∧ i < (cells : Int)) (hn : lot.length ≤ 100) {s : Nat} {row : List Int} (hs : t.words[s]? = some row) {ps : List (List Int × D)} {a1 a2 a3 a5 a6 a8 a9 a11 a12 : Option D} {a10 : Option D} :
    lcD [10] (Tg.v 10) (evW Γ (W.seq (E.b2 B2.idx (E.v 4) (E.c (PyData.int 1))))) (allD (evE Γ e1__law_tells)) [some t.d, a1, a2, a3, some (mkLook lot ps), a5, a6, some (.int s), a8, a9, a10, a11, a12] = .ok (.list ((look row lot).map .int)) [some t.d, a1, a2, a3, some (mkLook lot ps), a5, a6, some (.int s), a8, a9, a10, a11, a12] := by
  obtain ⟨rl, _⟩ := ok.row row (List.mem_of_getElem? hs)
  have hw : (t.words.map tI)[s]? = some (tI row) := by rw [List.getElem?_map, hs]; rfl
  have a1' := atD_at hw
  have a0 : atD [.tuple (t.words.map tI), .tuple (t.vals.map .int)] 0 = some (.tuple (t.words.map tI)) := rfl
  have m := lcF_fm (ρ := [some t.d, a1, a2, a3, some (mkLook lot ps), a5, a6, some (.int s), a8, a9, none, a11, a12]) (body := lcT [10] (Tg.v 10) (allD (evE Γ e1__law_tells))) (g := PyData.int) (f := fun i => some (.int (row.getD i.toNat 0))) lot (fun i hi => by
      obtain ⟨i0, i1⟩ := hl i hi
      obtain ⟨n, rfl⟩ := Int.eq_ofNat_of_zero_le i0
      have hr : (row.map PyData.int)[n]? = some (.int (row.getD n 0)) := by
        rw [List.getElem?_map, List.getD_eq_getElem?_getD, List.getElem?_eq_getElem (by omega)]; rfl
      have a2' := atD_at hr
      simp [e1__law_tells, lcT, bindT, allD, wipeE, Tab.d, tI, a0, a1', a2'])
  have hlc := lcD_ok (vs := [10]) (tg := Tg.v 10) (w := evW Γ (W.seq (E.b2 B2.idx (E.v 4) (E.c (PyData.int 1))))) (body := allD (evE Γ e1__law_tells)) (ρ := [some t.d, a1, a2, a3, some (mkLook lot ps), a5, a6, some (.int s), a8, a9, a10, a11, a12]) (ρ1 := [some t.d, a1, a2, a3, some (mkLook lot ps), a5, a6, some (.int s), a8, a9, a10, a11, a12]) (by simp [tI]) (by simp [LIM]; omega) m
  rw [hlc]
  simp [backE, look]
/-- where it goes -/
theorem fit_lc {lot s : List Int} {ps : List (List Int × D)} (h4 : ps.length ≤ 4) {a0 a1 a2 a3 a5 a6 a7 a9 a10 a11 a12 : Option D} :
    lcD [11, 12] (Tg.t (.cons (.v 11) (.cons (.v 12) .nil))) (evW Γ (W.seq (E.b2 B2.idx (E.v 4) (E.c (PyData.int 2))))) (ifD (evE Γ c0__law_tells) (evE Γ e0__law_tells)) [a0, a1, a2, a3, some (mkLook lot ps), a5, a6, a7, some (tI s), a9, a10, a11, a12] = .ok (.list (ps.filterMap fun p => if p.1 = s then some p.2 else none)) [a0, a1, a2, a3, some (mkLook lot ps), a5, a6, a7, some (tI s), a9, a10, a11, a12] := by
  have m := lcF_fm (ρ := [a0, a1, a2, a3, some (mkLook lot ps), a5, a6, a7, some (tI s), a9, a10, none, none]) (body := lcT [11, 12] (Tg.t (.cons (.v 11) (.cons (.v 12) .nil))) (ifD (evE Γ c0__law_tells) (evE Γ e0__law_tells))) (g := pairD) (f := fun p => if p.1 = s then some p.2 else none) ps (fun p hp => by
      by_cases h : p.1 = s
      · simp [lcT, bindT, bindTs, pairD, ifD, c0__law_tells, e0__law_tells, eq_tI, h, wipeE]
      · simp [lcT, bindT, bindTs, pairD, ifD, c0__law_tells, e0__law_tells, eq_tI, h, wipeE])
  have hlc := lcD_ok (vs := [11, 12]) (tg := Tg.t (.cons (.v 11) (.cons (.v 12) .nil))) (w := evW Γ (W.seq (E.b2 B2.idx (E.v 4) (E.c (PyData.int 2))))) (body := ifD (evE Γ c0__law_tells) (evE Γ e0__law_tells)) (ρ := [a0, a1, a2, a3, some (mkLook lot ps), a5, a6, a7, some (tI s), a9, a10, a11, a12]) (ρ1 := [a0, a1, a2, a3, some (mkLook lot ps), a5, a6, a7, some (tI s), a9, a10, a11, a12]) (by simp) (by simp [LIM]; omega) m
  rw [hlc]
  simp [backE]
end
/-- what tells of a life are -/
def TellsFn (F G : Fn) : Prop := ∀ {t : Tab} {cells : Nat}, TabOk cells t → ∀ {rd : D}, Lk cells 3 rd → ∀ {life : List Int}, life.length ≤ 10000 → (∀ s ∈ life, 0 ≤ s ∧ s < t.words.length) → ∃ es : List D, F [t.d, rd, tI life] = .ok (.tuple es) [] ∧ G [t.d, rd, tI life] = .ok (.tuple es) [] ∧ es.length ≤ life.length ∧ ∀ d ∈ es, EntOk d
abbrev momT : Tg := .t (.cons (.v 6) (.cons (.v 7) .nil))
theorem two {Γ Γ' : Nat → Fn} (hs : ShownFn (Γ i_seen)) (hb : BehindFn (Γ i_node_behind)) {t : Tab} {cells : Nat} (tok : TabOk cells t) {rd : D} (hr : Lk cells 3 rd) {a2 : Option D} : ∀ (L : List (Nat × Nat)), (∀ p ∈ L, p.1 ≤ 10000 ∧ p.2 < t.words.length) → ∀ (found : List D) (node : D) (first : Int) (m s m' s' a8 a9 : Option D), found.length + L.length ≤ 20000 → (∀ d ∈ found, EntOk d) → Lk cells 3 node → 0 ≤ first → first ≤ 10001 →
    ∃ (es : List D) (n1 f1 m1 s1 n2 f2 m2 s2 b8 b9 : Option D), forF (forT momT (exSs Γ b0_tells_in)) (L.map momD) [some t.d, some rd, a2, some (.list found), some node, some (.int first), m, s] = .nx [some t.d, some rd, a2, some (.list es), n1, f1, m1, s1] ∧
      forF (forT momT (exSs Γ' b0__law_tells)) (L.map momD) [some t.d, some rd, a2, some (.list found), some node, some (.int first), m', s', a8, a9, none, none, none] = .nx [some t.d, some rd, a2, some (.list es), n2, f2, m2, s2, b8, b9, none, none, none] ∧ es.length ≤ found.length + L.length ∧ ∀ d ∈ es, EntOk d
  | [], _, found, node, first, m, s, m', s', a8, a9, _, hf, _, _, _ => ⟨found, _, _, _, _, _, _, _, _, _, _, rfl, rfl, by simp, hf⟩
  | p :: L, hL, found, node, first, m, s, m', s', a8, a9, hlen, hf, hnode, f0, f1 => by
    obtain ⟨p1, p2⟩ := hL p List.mem_cons_self
    have hL' : ∀ p ∈ L, p.1 ≤ 10000 ∧ p.2 < t.words.length := fun q hq => hL q (List.mem_cons_of_mem _ hq)
    obtain ⟨lot, ps, hlot, h4, hps, rfl⟩ := hnode
    have c3 := tok.c3
    have ll : lot.length ≤ 100 := by have := hlot.2.1; omega
    have hrow : t.words[p.2]? = some t.words[p.2] := List.getElem?_eq_getElem p2
    generalize t.words[p.2] = row at hrow
    have e1 := hs tok hlot.2.2 ll hrow
    have e2 := hb lot ps (look row lot)
    have nd := nxt_nd (fun p hp => (hps p hp).2) (look row lot)
    have fit := nxt_fit ps (look row lot)
    have hlc1 := fun (a1 a2 a3 a5 a6 a8 a9 a11 a12 a10 : Option D) => sight_lc (Γ := Γ') tok hlot.2.2 ll hrow (ps := ps) (a1 := a1) (a2 := a2) (a3 := a3) (a5 := a5) (a6 := a6) (a8 := a8) (a9 := a9) (a11 := a11) (a12 := a12) (a10 := a10)
    have hlc2 := fun (a0 a1 a2 a3 a5 a6 a7 a9 a10 a11 a12 : Option D) => fit_lc (Γ := Γ') (lot := lot) (s := look row lot) h4 (a0 := a0) (a1 := a1) (a2 := a2) (a3 := a3) (a5 := a5) (a6 := a6) (a7 := a7) (a9 := a9) (a10 := a10) (a11 := a11) (a12 := a12)
    simp only [tI] at hlc2
    have pdF : ∀ d ∈ (ps.filterMap fun p => if p.1 = look row lot then some p.2 else none), pd d = true ∧ d.depth ≤ 63 := fun d hd => by
      obtain ⟨q, hq, e⟩ := List.mem_filterMap.mp hd
      split at e
      · cases e
        obtain ⟨h1, h2, _⟩ := Nd.fits (by omega) (hps q hq).2
        exact ⟨h1, by omega⟩
      · cases e
    generalize nxt ps (look row lot) = x at e2 nd fit
    generalize (ps.filterMap fun p => if p.1 = look row lot then some p.2 else none) = F at fit hlc2 pdF
    have hE := eq_nilD pdF
    have hN : ∀ (a0 a1 a2 a3 a4 a5 a6 a7 a8 a10 a11 a12 : Option D), evE Γ' (.ite (.b2 .ne (.v 9) (.lst .nil)) (.b2 .idx (.v 9) (.c (.int 0))) (.tup (.cons (.c (.str "again")) .nil))) [a0, a1, a2, a3, a4, a5, a6, a7, a8, some (.list F), a10, a11, a12] = .ok x [a0, a1, a2, a3, a4, a5, a6, a7, a8, some (.list F), a10, a11, a12] := fun a0 a1 a2 a3 a4 a5 a6 a7 a8 a10 a11 a12 => by
      rcases fit with ⟨e, e'⟩ | ⟨r, e⟩
      · subst e e'
        simp [hE, LIM, again]
      · subst e
        have a0' : atD (x :: r) 0 = some x := atD_at (n := 0) rfl
        simp [hE, a0']
    have key : ∃ (found' : List D) (node' : D) (first' : Int), (∀ m s, forT momT (exSs Γ b0_tells_in) (momD p) [some t.d, some rd, a2, some (.list found), some (mkLook lot ps), some (.int first), m, s] = .nx [some t.d, some rd, a2, some (.list found'), some node', some (.int first'), some (.int p.1), some (.int p.2)]) ∧
        (∀ m s a8 a9, ∃ b8 b9, forT momT (exSs Γ' b0__law_tells) (momD p) [some t.d, some rd, a2, some (.list found), some (mkLook lot ps), some (.int first), m, s, a8, a9, none, none, none] = .nx [some t.d, some rd, a2, some (.list found'), some node', some (.int first'), some (.int p.1), some (.int p.2), b8, b9, none, none, none]) ∧
        found'.length ≤ found.length + 1 ∧ (∀ d ∈ found', EntOk d) ∧ Lk cells 3 node' ∧ 0 ≤ first' ∧ first' ≤ 10001 := by
      have fl : found.length < LIM := by simp only [List.length_cons] at hlen; unfold LIM; omega
      rcases nd with h | h
      · cases h with
        | again =>
          refine ⟨found, rd, (p.1 : Int) + 1, fun m s => ?_, fun m s a8 a9 => ⟨some (.tuple ((look row lot).map .int)), some (.list F), ?_⟩, by omega, hf, hr, by omega, by omega⟩
          · have a0' : atD [PyData.str "again"] 0 = some (.str "again") := rfl
            simp [forT, bindT, bindTs, momD, b0_tells_in, callR, argD, outs, e1, e2, a0', e_at, e_al, TV.bindL]
          · have a0' : atD [PyData.str "again"] 0 = some (.str "again") := rfl
            simp [-e_ite, forT, bindT, bindTs, momD, b0__law_tells, hlc1, hlc2, hN, a0', e_at, e_al, TV.bindL]
        | tell v hv =>
          refine ⟨found ++ [.tuple [.int v, .int first, .int p.1]], rd, (p.1 : Int) + 1, fun m s => ?_, fun m s a8 a9 => ⟨some (.tuple ((look row lot).map .int)), some (.list F), ?_⟩, by simp, fun d hd => ?_, hr, by omega, by omega⟩
          · have a0' : atD [PyData.str "tell", .int v] 0 = some (.str "tell") := rfl
            have a1' : atD [PyData.str "tell", .int v] 1 = some (.int v) := rfl
            simp [forT, bindT, bindTs, momD, b0_tells_in, callR, argD, outs, e1, e2, a0', a1', e_tt, e_tl, TV.bindL, appD, getPl, setPl, fl, LIM]
          · have a0' : atD [PyData.str "tell", .int v] 0 = some (.str "tell") := rfl
            have a1' : atD [PyData.str "tell", .int v] 1 = some (.int v) := rfl
            simp [-e_ite, forT, bindT, bindTs, momD, b0__law_tells, hlc1, hlc2, hN, a0', a1', e_tt, e_tl, TV.bindL, appD, getPl, setPl, fl, LIM]
          · rcases List.mem_append.mp hd with hd | hd
            · exact hf d hd
            · simp at hd; subst hd
              exact ent_ok (by omega) (by omega) (by omega)
      · have hl2 : Lk cells 2 x := h
        obtain ⟨lot2, ps2, q1, q2, q3, rfl⟩ := h
        refine ⟨found, mkLook lot2 ps2, first, fun m s => ?_, fun m s a8 a9 => ⟨some (.tuple ((look row lot).map .int)), some (.list F), ?_⟩, by omega, hf, hl2.up, f0, f1⟩
        · simp [forT, bindT, bindTs, momD, b0_tells_in, callR, argD, outs, e1, e2, e_lt, e_ll]
        · simp [-e_ite, forT, bindT, bindTs, momD, b0__law_tells, hlc1, hlc2, hN, e_lt, e_ll]
    obtain ⟨found', node', first', k1, k2, k3, k4, k5, k6, k7⟩ := key
    obtain ⟨b8, b9, k2⟩ := k2 m' s' a8 a9
    simp only [List.length_cons] at hlen
    obtain ⟨es, n1, f1, m1, s1, n2, f2, m2, s2, c8, c9, r1, r2, r3, r4⟩ := two (Γ' := Γ') hs hb tok hr (a2 := a2) L hL' found' node' first' (some (.int p.1)) (some (.int p.2)) (some (.int p.1)) (some (.int p.2)) b8 b9 (by omega) k4 k5 k6 k7
    refine ⟨es, n1, f1, m1, s1, n2, f2, m2, s2, c8, c9, ?_, ?_, ?_, r4⟩
    · simp only [List.map_cons, forF, k1, r1]
    · simp only [List.map_cons, forF, k2, r2]
    · simp only [List.length_cons]; omega
theorem enum_life {life : List Int} (h : ∀ s ∈ life, 0 ≤ s) : enumD (life.map .int) = (life.zipIdx.map fun q => (q.2, q.1.toNat)).map momD := by
  unfold enumD
  rw [List.zipIdx_map, List.map_map, List.map_map]
  refine List.map_congr_left fun q hq => ?_
  have := h q.1 (List.fst_mem_of_mem_zipIdx hq)
  simp [momD]
  omega
theorem tells_sem {Γ Γ' : Nat → Fn} (hs : ShownFn (Γ i_seen)) (hb : BehindFn (Γ i_node_behind)) : TellsFn (f_tells_in.sem Γ) (f__law_tells.sem Γ') := fun {t cells} tok {rd} hr {life} hl hlife => by
  have en := enum_life fun s hs => (hlife s hs).1
  obtain ⟨es, n1, f1, m1, s1, n2, f2, m2, s2, c8, c9, r1, r2, r3, r4⟩ := two (Γ' := Γ') hs hb tok hr (a2 := some (tI life)) (life.zipIdx.map fun q => (q.2, q.1.toNat)) (fun p hp => by
    obtain ⟨q, hq, rfl⟩ := List.mem_map.mp hp
    have h1 := hlife q.1 (List.fst_mem_of_mem_zipIdx hq)
    have h2 := List.snd_lt_of_mem_zipIdx hq
    exact ⟨by show q.2 ≤ 10000; omega, by show q.1.toNat < _; omega⟩) [] rd 0 none none none none none none (by simp; omega) (by simp) hr (by omega) (by omega)
  have r5 : es.length ≤ life.length := by simpa using r3
  generalize (life.zipIdx.map fun q => (q.2, q.1.toNat)) = LL at en r1 r2
  refine ⟨es, ?_, ?_, r5, r4⟩
  · unfold Df.sem TV.run f_tells_in
    simp only [tI] at r1
    simp [Df.ios, iosOf, Sh.isM, LIM, TV.bindL, tI, en, r1]
  · unfold Df.sem TV.run f__law_tells
    simp only [tI] at r2
    simp [Df.ios, iosOf, Sh.isM, LIM, TV.bindL, tI, en, r2]

end Tx
namespace Tx
open PySem PySem.Spec PyProof.Rows L2 TV
def FLeafFn (F : Fn) : Prop := ∀ (t : Tab) (cells : Nat), TabOk cells t → ∀ (o : Option Int) (q : List Int × List Int) (qs : List (List Int × List Int)), QsOk cells (q :: qs) → qs.length ≤ 800 → F [t.d, spD o, lksD (q :: qs), wrdD (q :: qs)] = .ok (leafOf t o (q :: qs)) []
theorem fleaf_sem {Γ : Nat → Fn} (hr : ReadFn (Γ i_is_read)) (hv : SvalFn (Γ i_sure_values)) : FLeafFn (f_filled_leaf.sem Γ) := fun t cells tok o q qs hqs hlen => by
  have e1 := hr t cells tok o q qs hqs hlen
  by_cases h : LF o t q qs = []
  · rw [decide_eq_false (fun z => z h)] at e1
    rw [leafOf_again fun hi lo s => absurd h s.ne]
    generalize lksD (q :: qs) = L1 at e1 ⊢
    generalize wrdD (q :: qs) = L2 at e1 ⊢
    unfold Df.sem TV.run f_filled_leaf
    simp [Df.ios, iosOf, Sh.isM, callR, argD, outs, e1, LIM]
    rfl
  · rw [decide_eq_true h] at e1
    obtain ⟨hi, lo, s⟩ := span_ex h
    have e2 := hv t cells tok o q qs hqs hlen hi lo s
    by_cases hv : valAt t hi ≤ valAt t lo
    · rw [leafOf_tell s hv]
      generalize lksD (q :: qs) = L1 at e1 e2 ⊢
      generalize wrdD (q :: qs) = L2 at e1 e2 ⊢
      unfold Df.sem TV.run f_filled_leaf
      simp [Df.ios, iosOf, Sh.isM, callR, argD, outs, e1, e2, bindTs, bindT, hv, LIM]
    · rw [leafOf_again fun hi' lo' s' => by obtain ⟨rfl, rfl⟩ := s.uniq s'; omega]
      generalize lksD (q :: qs) = L1 at e1 e2 ⊢
      generalize wrdD (q :: qs) = L2 at e1 e2 ⊢
      unfold Df.sem TV.run f_filled_leaf
      simp [Df.ios, iosOf, Sh.isM, callR, argD, outs, e1, e2, bindTs, bindT, hv, LIM]
      rfl

end Tx
namespace Tx
open PySem PySem.Spec PyProof.Rows L2 TV
theorem rt_child {c k : Nat} {qs : List (List Int × List Int)} {q : List Int × List Int} {x : D} (h : Nd c k x) : Rt c k (qs ++ [q]) x := ⟨h, fun e => by simp at e⟩
abbrev lfillT : Tg := .t (.cons (.v 7) (.cons (.v 8) .nil))
theorem lfill_sem {Γ : Nat → Fn} (hsp : SpanFn (Γ i__law_span)) {k : Nat} (rec : ∀ k', k = k' + 1 → LFillFn k' (Γ i__law_filled)) : LFillFn k (f__law_filled.sem Γ) := fun t cells tok o qs hqs hlen x hx => by
  have leaf : Leaf x → qs ≠ [] → f__law_filled.sem Γ [t.d, spD o, x, lksD qs, wrdD qs] = .ok (fillF t o k qs x) [] := fun h hne => by
    obtain ⟨q, qr, rfl⟩ := List.exists_cons_of_ne_nil hne
    rw [fillF_leaf h]
    obtain ⟨s, r, rfl, e⟩ := leaf_head h
    have a0 : atD (.str s :: r) 0 = some (.str s) := atD_at (n := 0) rfl
    have le := tok.len
    rcases hsp t cells tok o q qr hqs (by simp at hlen; omega) with ⟨hL, e1⟩ | ⟨hi, lo, sp, e1⟩
    · rw [leafOf_again fun hi lo s => absurd hL s.ne]
      generalize lksD (q :: qr) = L1 at e1 ⊢
      generalize wrdD (q :: qr) = L2 at e1 ⊢
      unfold Df.sem TV.run f__law_filled
      simp [Df.ios, iosOf, Sh.isM, a0, e, callR, argD, outs, e1, LIM]
      rfl
    · obtain ⟨⟨r1, r2⟩, r3, r4⟩ := sp.rng
      have v1 := val_at (t := t) r1 (by omega)
      have v2 := val_at (t := t) r3 (by omega)
      have i0 : atD [PyData.int hi, .int lo] 0 = some (.int hi) := rfl
      have i1 : atD [PyData.int hi, .int lo] 1 = some (.int lo) := rfl
      by_cases hg : valAt t lo < valAt t hi
      · rw [leafOf_again fun hi' lo' s' => by obtain ⟨rfl, rfl⟩ := sp.uniq s'; exact hg]
        generalize lksD (q :: qr) = L1 at e1 ⊢
        generalize wrdD (q :: qr) = L2 at e1 ⊢
        unfold Df.sem TV.run f__law_filled
        simp [Df.ios, iosOf, Sh.isM, a0, e, callR, argD, outs, e1, LIM, i0, i1, v1, v2, hg]
        rfl
      · rw [leafOf_tell sp (by omega)]
        generalize lksD (q :: qr) = L1 at e1 ⊢
        generalize wrdD (q :: qr) = L2 at e1 ⊢
        unfold Df.sem TV.run f__law_filled
        simp [Df.ios, iosOf, Sh.isM, a0, e, callR, argD, outs, e1, LIM, i0, i1, v1, v2, hg]
  have look : ∀ k', k = k' + 1 → Lk cells k' x → f__law_filled.sem Γ [t.d, spD o, x, lksD qs, wrdD qs] = .ok (fillF t o k qs x) [] := fun k' e hlk => by
    subst e
    obtain ⟨lot, ps, hlot, h4, hp, rfl⟩ := hlk
    have c3 := tok.c3
    rw [fillF_look]
    obtain ⟨ρ, e, done, rest', a6, a7, a8, he, hr, rfl⟩ := forF_inv (body := forT lfillT (exSs Γ b0__law_filled))
      (fun rest ρ => ∃ (done rest' : List (List Int × D)) (a6 a7 a8 : Option D), done ++ rest' = ps ∧ rest = rest'.map pairD ∧ ρ = [some t.d, some (spD o), some (mkLook lot ps), some (lksD qs), some (wrdD qs), some (.list ((done.map fun p => (p.1, fillF t o k' (qs ++ [(lot, p.1)]) p.2)).map pairD)), a6, a7, a8])
      (fun d ds ρ ⟨done, rest', a6, a7, a8, he, hr, e⟩ => by
        subst e
        cases rest' with
        | nil => simp at hr
        | cons p r =>
          simp only [List.map_cons, List.cons.injEq] at hr
          obtain ⟨rfl, rfl⟩ := hr
          obtain ⟨sk, np⟩ := hp p (by rw [← he]; simp)
          have e1 := rec k' rfl t cells tok o (qs ++ [(lot, p.1)]) (hqs.app (by omega) hlot) (by simp; omega) p.2 (rt_child np)
          have dl0 : done.length + (r.length + 1) = ps.length := by rw [← he]; simp
          refine ⟨_, .inl ?_, done ++ [p], r, a6, some (tI p.1), some p.2, by simp [← he], rfl, rfl⟩
          have n1 : (qs.map (·.1)).map tI ++ [tI lot] = ((qs ++ [(lot, p.1)]).map (·.1)).map tI := by simp
          have n2 : (qs.map (·.2)).map tI ++ [tI p.1] = ((qs ++ [(lot, p.1)]).map (·.2)).map tI := by simp
          have l1 : ((qs.map (·.1)).map tI).length + [tI lot].length ≤ LIM := by simp [LIM]; omega
          have l2 : ((qs.map (·.2)).map tI).length + [tI p.1].length ≤ LIM := by simp [LIM]; omega
          have n3 : ((done ++ [p]).map fun p => (p.1, fillF t o k' (qs ++ [(lot, p.1)]) p.2)).map pairD = (done.map fun p => (p.1, fillF t o k' (qs ++ [(lot, p.1)]) p.2)).map pairD ++ [.tuple [tI p.1, fillF t o k' (qs ++ [(lot, p.1)]) p.2]] := by simp [pairD]
          have dl : ((done.map fun p => (p.1, fillF t o k' (qs ++ [(lot, p.1)]) p.2)).map pairD).length < LIM := by simp [LIM]; omega
          rw [n3]
          generalize fillF t o k' (qs ++ [(lot, p.1)]) p.2 = Y at e1
          simp only [lksD, wrdD, tT] at e1
          rw [← n1, ← n2] at e1
          simp only [lksD, wrdD, tT]
          generalize (qs.map (·.1)).map tI = A at e1 l1
          generalize (qs.map (·.2)).map tI = B at e1 l2
          generalize (done.map fun p => (p.1, fillF t o k' (qs ++ [(lot, p.1)]) p.2)).map pairD = N at dl
          simp [forT, lfillT, pairD, bindT, bindTs, b0__law_filled, callR, argD, outs, appD, getPl, setPl, LIM, o_addT l1, o_addT l2, e1] at dl ⊢
          simp [dl])
      (ps.map pairD) [some t.d, some (spD o), some (mkLook lot ps), some (lksD qs), some (wrdD qs), some (.list []), none, none, none] ⟨[], ps, none, none, none, rfl, rfl, rfl⟩
    have : rest' = [] := by
      cases rest' with
      | nil => rfl
      | cons _ _ => simp at hr
    subst this
    simp only [List.append_nil] at he
    subst he
    generalize hM : (done.map fun p => (p.1, fillF t o k' (qs ++ [(lot, p.1)]) p.2)) = M at e
    generalize lksD qs = L1 at e ⊢
    generalize wrdD qs = L2 at e ⊢
    unfold Df.sem TV.run f__law_filled
    simp [Df.ios, iosOf, Sh.isM, e_ll, LIM, e, hM]
    rfl
  cases k with
  | zero => exact leaf hx.1 fun e => by obtain ⟨k', h, _⟩ := hx.2 e; omega
  | succ k =>
    rcases hx.1 with h | h
    · refine leaf h fun e => ?_
      obtain ⟨k', _, lot, ps, _, _, _, rfl⟩ := hx.2 e
      obtain ⟨s, r, e1, e2⟩ := leaf_head h
      simp only [mkLook, PyData.tuple.injEq, List.cons.injEq, PyData.str.injEq] at e1
      rw [← e1.1, e_ll] at e2
      cases e2
    · exact look k rfl h

end Tx
namespace Tx
open PySem PySem.Spec PyProof.Rows L2 TV
abbrev fillT : Tg := .t (.cons (.v 6) (.cons (.v 7) .nil))
theorem fill_sem {Γ : Nat → Fn} (hf : FLeafFn (Γ i_filled_leaf)) {k : Nat} (rec : ∀ k', k = k' + 1 → FillFn k' (Γ i_filled_on)) : FillFn k (f_filled_on.sem Γ) := fun t cells tok o qs hqs hlen x hx => by
  have leaf : Leaf x → qs ≠ [] → f_filled_on.sem Γ [t.d, spD o, lksD qs, wrdD qs, x] = .ok (fillF t o k qs x) [] := fun h hne => by
    obtain ⟨q, qr, rfl⟩ := List.exists_cons_of_ne_nil hne
    have e1 := hf t cells tok o q qr hqs (by simp at hlen; omega)
    rw [fillF_leaf h]
    generalize leafOf t o (q :: qr) = Y at e1 ⊢
    generalize lksD (q :: qr) = L1 at e1 ⊢
    generalize wrdD (q :: qr) = L2 at e1 ⊢
    obtain ⟨s, r, rfl, e⟩ := leaf_head h
    have a0 : atD (.str s :: r) 0 = some (.str s) := atD_at (n := 0) rfl
    unfold Df.sem TV.run f_filled_on
    simp [Df.ios, iosOf, Sh.isM, a0, e, callR, argD, outs, e1]
  have look : ∀ k', k = k' + 1 → Lk cells k' x → f_filled_on.sem Γ [t.d, spD o, lksD qs, wrdD qs, x] = .ok (fillF t o k qs x) [] := fun k' e hlk => by
    subst e
    obtain ⟨lot, ps, hlot, h4, hp, rfl⟩ := hlk
    have c3 := tok.c3
    rw [fillF_look]
    obtain ⟨ρ, e, done, rest', a6, a7, he, hr, rfl⟩ := forF_inv (body := forT fillT (exSs Γ b0_filled_on))
      (fun rest ρ => ∃ (done rest' : List (List Int × D)) (a6 a7 : Option D), done ++ rest' = ps ∧ rest = rest'.map pairD ∧ ρ = [some t.d, some (spD o), some (lksD qs), some (wrdD qs), some (mkLook lot ps), some (.list ((done.map fun p => (p.1, fillF t o k' (qs ++ [(lot, p.1)]) p.2)).map pairD)), a6, a7])
      (fun d ds ρ ⟨done, rest', a6, a7, he, hr, e⟩ => by
        subst e
        cases rest' with
        | nil => simp at hr
        | cons p r =>
          simp only [List.map_cons, List.cons.injEq] at hr
          obtain ⟨rfl, rfl⟩ := hr
          obtain ⟨sk, np⟩ := hp p (by rw [← he]; simp)
          have e1 := rec k' rfl t cells tok o (qs ++ [(lot, p.1)]) (hqs.app (by omega) hlot) (by simp; omega) p.2 (rt_child np)
          have dl0 : done.length + (r.length + 1) = ps.length := by rw [← he]; simp
          refine ⟨_, .inl ?_, done ++ [p], r, some (tI p.1), some p.2, by simp [← he], rfl, rfl⟩
          have n1 : (qs.map (·.1)).map tI ++ [tI lot] = ((qs ++ [(lot, p.1)]).map (·.1)).map tI := by simp
          have n2 : (qs.map (·.2)).map tI ++ [tI p.1] = ((qs ++ [(lot, p.1)]).map (·.2)).map tI := by simp
          have l1 : ((qs.map (·.1)).map tI).length + 1 ≤ LIM := by simp [LIM]; omega
          have l2 : ((qs.map (·.2)).map tI).length + 1 ≤ LIM := by simp [LIM]; omega
          have n3 : ((done ++ [p]).map fun p => (p.1, fillF t o k' (qs ++ [(lot, p.1)]) p.2)).map pairD = (done.map fun p => (p.1, fillF t o k' (qs ++ [(lot, p.1)]) p.2)).map pairD ++ [.tuple [tI p.1, fillF t o k' (qs ++ [(lot, p.1)]) p.2]] := by simp [pairD]
          have dl : ((done.map fun p => (p.1, fillF t o k' (qs ++ [(lot, p.1)]) p.2)).map pairD).length < LIM := by simp [LIM]; omega
          rw [n3]
          generalize fillF t o k' (qs ++ [(lot, p.1)]) p.2 = Y at e1
          simp only [lksD, wrdD, tT] at e1
          rw [← n1, ← n2] at e1
          simp only [lksD, wrdD, tT]
          generalize (qs.map (·.1)).map tI = A at e1 l1
          generalize (qs.map (·.2)).map tI = B at e1 l2
          generalize (done.map fun p => (p.1, fillF t o k' (qs ++ [(lot, p.1)]) p.2)).map pairD = N at dl
          simp only [LIM] at l1 l2
          simp [forT, fillT, pairD, bindT, bindTs, b0_filled_on, callR, argD, outs, appD, getPl, setPl, LIM, l1, l2, e1] at dl ⊢
          simp [dl])
      (ps.map pairD) [some t.d, some (spD o), some (lksD qs), some (wrdD qs), some (mkLook lot ps), some (.list []), none, none] ⟨[], ps, none, none, rfl, rfl, rfl⟩
    have : rest' = [] := by
      cases rest' with
      | nil => rfl
      | cons _ _ => simp at hr
    subst this
    simp only [List.append_nil] at he
    subst he
    generalize hM : (done.map fun p => (p.1, fillF t o k' (qs ++ [(lot, p.1)]) p.2)) = M at e
    generalize lksD qs = L1 at e ⊢
    generalize wrdD qs = L2 at e ⊢
    unfold Df.sem TV.run f_filled_on
    simp [Df.ios, iosOf, Sh.isM, e_ll, LIM, e, hM]
    rfl
  cases k with
  | zero => exact leaf hx.1 fun e => by obtain ⟨k', h, _⟩ := hx.2 e; omega
  | succ k =>
    rcases hx.1 with h | h
    · refine leaf h fun e => ?_
      obtain ⟨k', _, lot, ps, _, _, _, rfl⟩ := hx.2 e
      obtain ⟨s, r, e1, e2⟩ := leaf_head h
      simp only [mkLook, PyData.tuple.injEq, List.cons.injEq, PyData.str.injEq] at e1
      rw [← e1.1, e_ll] at e2
      cases e2
    · exact look k rfl h
def FrFn (k : Nat) (F : Fn) : Prop := ∀ (t : Tab) (cells : Nat), TabOk cells t → ∀ (o : Option Int) (x : D), Lk cells k x → F [t.d, spD o, x] = .ok (fillF t o (k + 1) [] x) []
theorem fr_sem {Γ : Nat → Fn} {k : Nat} (hk : k ≤ 40) (h : FillFn (k + 1) (Γ i_filled_on)) : FrFn k (f_filled_reader.sem Γ) := fun t cells tok o x hx => by
  have e := h t cells tok o [] (fun q hq => by cases hq) (by simp; omega) x ⟨hx.nd, fun _ => ⟨k, rfl, hx⟩⟩
  change Γ i_filled_on [t.d, spD o, .tuple [], .tuple [], x] = _ at e
  unfold Df.sem TV.run f_filled_reader
  simp [Df.ios, iosOf, Sh.isM, callR, argD, outs, e, LIM]

end Tx
namespace Tx
open PySem PySem.Spec PyProof.Rows L2 TV
/-! the paths, exactly -/
def pthF : Nat → List (List Int × List Int) → D → List Pth
  | 0, qs, x => [(qs, x)]
  | k + 1, qs, .tuple [_, .tuple lot, .tuple ps] => ps.flatMap fun d => pthF k (qs ++ [(unI lot, (unP d).1)]) (unP d).2
  | _ + 1, qs, x => [(qs, x)]
theorem pthF_look (k : Nat) (qs : List (List Int × List Int)) (lot : List Int) (ps : List (List Int × D)) : pthF (k + 1) qs (mkLook lot ps) = ps.flatMap fun p => pthF k (qs ++ [(lot, p.1)]) p.2 := by
  show ((ps.map pairD).flatMap fun d => pthF k (qs ++ [(unI (lot.map .int), (unP d).1)]) (unP d).2) = _
  rw [unI_map, List.flatMap_map]
  congr 1
  funext p
  rw [unP_pair]
theorem pthF_leaf {k : Nat} {qs : List (List Int × List Int)} {x : D} (h : Leaf x) : pthF k qs x = [(qs, x)] := by
  cases k with
  | zero => rfl
  | succ k => cases h <;> rfl
theorem pthF_all {c : Nat} {Q : Pth → Prop} : ∀ {k : Nat} {qs : List (List Int × List Int)} {x : D}, AllP c Q k qs x → ∀ p ∈ pthF k qs x, Leaf p.2 ∧ Q p
  | 0, qs, x, h, p, hp => by simp [pthF] at hp; subst hp; exact h
  | k + 1, qs, x, .inl h, p, hp => by rw [pthF_leaf h.1] at hp; simp at hp; subst hp; exact h
  | k + 1, qs, x, .inr ⟨lot, ps, h1, h2, h3, h4⟩, p, hp => by
    subst h4
    rw [pthF_look, List.mem_flatMap] at hp
    obtain ⟨q, hq, hp⟩ := hp
    exact pthF_all (h3 q hq).2 p hp
theorem nd_all {c : Nat} : ∀ {k : Nat} {qs : List (List Int × List Int)} {x : D}, Nd c k x → AllP c (fun _ => True) k qs x
  | 0, _, _, h => ⟨h, trivial⟩
  | k + 1, _, _, .inl h => .inl ⟨h, trivial⟩
  | k + 1, _, _, .inr ⟨lot, ps, h1, h2, h3, h4⟩ => .inr ⟨lot, ps, h1, h2, fun p hp => ⟨(h3 p hp).1, nd_all (h3 p hp).2⟩, h4⟩
/-- looks and sights that stand beside one another -/
def PqOk (c : Nat) (qs : List (List Int × List Int)) : Prop := ∀ q ∈ qs, LotOk c q.1 ∧ SiOk q.1.length q.2
theorem AllP.deep {c : Nat} {Q : Pth → Prop} : ∀ {k : Nat} {qs : List (List Int × List Int)} {x : D}, AllP c Q k qs x → PqOk c qs → ∀ {n}, qs.length + k ≤ n → AllP c (fun p => Q p ∧ PqOk c p.1 ∧ p.1.length ≤ n) k qs x
  | 0, qs, x, h, hq, n, hl => ⟨h.1, h.2, hq, by show qs.length ≤ n; omega⟩
  | k + 1, qs, x, .inl h, hq, n, hl => .inl ⟨h.1, h.2, hq, by show qs.length ≤ n; omega⟩
  | k + 1, qs, x, .inr ⟨lot, ps, h1, h2, h3, h4⟩, hq, n, hl => .inr ⟨lot, ps, h1, h2, fun p hp => ⟨(h3 p hp).1, AllP.deep (h3 p hp).2 (fun q hm => by
      rcases List.mem_append.mp hm with hm | hm
      · exact hq q hm
      · simp at hm; subst hm; exact ⟨h1, (h3 p hp).1⟩) (by simp; omega)⟩, h4⟩
theorem AllP.mono {c : Nat} {Q Q' : Pth → Prop} (h : ∀ p, Q p → Q' p) : ∀ {k : Nat} {qs : List (List Int × List Int)} {x : D}, AllP c Q k qs x → AllP c Q' k qs x
  | 0, _, _, a => ⟨a.1, h _ a.2⟩
  | k + 1, _, _, .inl a => .inl ⟨a.1, h _ a.2⟩
  | k + 1, _, _, .inr ⟨lot, ps, h1, h2, h3, h4⟩ => .inr ⟨lot, ps, h1, h2, fun p hp => ⟨(h3 p hp).1, AllP.mono h (h3 p hp).2⟩, h4⟩
theorem AllL.mono {c : Nat} {Q Q' : Pth → Prop} (h : ∀ p, Q p → Q' p) {k : Nat} {qs : List (List Int × List Int)} {x : D} (a : AllL c Q k qs x) : AllL c Q' k qs x := by
  obtain ⟨lot, ps, h1, h2, h3, h4⟩ := a
  exact ⟨lot, ps, h1, h2, fun p hp => ⟨(h3 p hp).1, AllP.mono h (h3 p hp).2⟩, h4⟩
theorem pthF_len {c : Nat} : ∀ {k : Nat} {qs : List (List Int × List Int)} {x : D}, Nd c k x → (pthF k qs x).length ≤ 4 ^ k
  | 0, _, _, _ => by simp [pthF]
  | k + 1, qs, x, .inl h => by
    rw [pthF_leaf h]
    have := Nat.pow_le_pow_right (n := 4) (by decide) (Nat.zero_le (k + 1))
    simpa using this
  | k + 1, qs, x, .inr ⟨lot, ps, h1, h2, h3, h4⟩ => by
    subst h4
    rw [pthF_look, List.length_flatMap]
    have key : ∀ l : List (List Int × D), (∀ p ∈ l, p ∈ ps) → (l.map fun p => (pthF k (qs ++ [(lot, p.1)]) p.2).length).sum ≤ l.length * 4 ^ k := fun l => by
      induction l with
      | nil => intro _; simp
      | cons p l ih =>
        intro hm
        have h5 := pthF_len (qs := qs ++ [(lot, p.1)]) (h3 p (hm p List.mem_cons_self)).2
        have h6 := ih fun q hq => hm q (List.mem_cons_of_mem _ hq)
        simp only [List.map_cons, List.sum_cons, List.length_cons, Nat.add_mul, Nat.one_mul]
        omega
    have h7 := key ps fun _ h => h
    have h8 : ps.length * 4 ^ k ≤ 4 * 4 ^ k := Nat.mul_le_mul_right _ h2
    rw [Nat.pow_succ]
    omega
theorem pthF_fill {t : Tab} {cells : Nat} (tok : TabOk cells t) (vok : ValsOk t) (o : Option Int) : ∀ {k : Nat} {qs : List (List Int × List Int)} {x : D}, Nd cells k x → pthF k qs (fillF t o k qs x) = (pthF k qs x).map fun p => (p.1, leafOf t o p.1)
  | 0, qs, x, _ => rfl
  | k + 1, qs, x, .inl h => by
    rw [fillF_leaf h, pthF_leaf h, pthF_leaf (leafOf_leaf tok vok o qs)]
    rfl
  | k + 1, qs, x, .inr ⟨lot, ps, h1, h2, h3, h4⟩ => by
    subst h4
    rw [fillF_look, pthF_look, pthF_look, List.flatMap_map, List.map_flatMap]
    have key : ∀ l : List (List Int × D), (∀ p ∈ l, p ∈ ps) → (l.flatMap fun p => pthF k (qs ++ [(lot, p.1)]) (fillF t o k (qs ++ [(lot, p.1)]) p.2)) = l.flatMap fun p => (pthF k (qs ++ [(lot, p.1)]) p.2).map fun p => (p.1, leafOf t o p.1) := fun l => by
      induction l with
      | nil => intro _; rfl
      | cons p l ih =>
        intro hm
        rw [List.flatMap_cons, List.flatMap_cons, pthF_fill tok vok o (h3 p (hm p List.mem_cons_self)).2, ih fun q hq => hm q (List.mem_cons_of_mem _ hq)]
    exact key ps fun _ h => h
def PathsEx (k : Nat) (F : Fn) : Prop := ∀ (c : Nat) (qs : List (List Int × List Int)) (x : D), Nd c k x → qs.length + k ≤ 100 → F [lksD qs, wrdD qs, x] = .ok (.list ((pthF k qs x).map pthD)) []
def LPathsEx (k : Nat) (F : Fn) : Prop := ∀ (c : Nat) (qs : List (List Int × List Int)) (x : D), Nd c k x → qs.length + k ≤ 100 → F [x, lksD qs, wrdD qs] = .ok (.list ((pthF k qs x).map pthD)) []
theorem flat_len {α β : Type} {f : α → List β} {n m : Nat} : ∀ {xs : List α}, (∀ x ∈ xs, (f x).length ≤ m) → xs.length ≤ n → (xs.flatMap f).length ≤ n * m
  | [], _, _ => by simp
  | x :: xs, h, hl => by
    cases n with
    | zero => simp at hl
    | succ n =>
      have h1 := flat_len (n := n) (xs := xs) (fun y hy => h y (List.mem_cons_of_mem _ hy)) (by simpa using hl)
      have h2 := h x List.mem_cons_self
      simp only [List.flatMap_cons, List.length_append, Nat.add_mul, Nat.one_mul]
      omega
theorem pathsEx_sem {Γ : Nat → Fn} {k : Nat} (hk : k ≤ 8) (rec : ∀ k', k = k' + 1 → PathsEx k' (Γ i_paths_on)) : PathsEx k (f_paths_on.sem Γ) := fun c qs x hx hlen => by
  have leaf : Leaf x → f_paths_on.sem Γ [lksD qs, wrdD qs, x] = .ok (.list ((pthF k qs x).map pthD)) [] := fun h => by
    rw [pthF_leaf h]
    have e3 : [(qs, x)].map pthD = [.tuple [lksD qs, wrdD qs, x]] := rfl
    rw [e3]
    generalize lksD qs = L1
    generalize wrdD qs = L2
    obtain ⟨s, r, rfl, e⟩ := leaf_head h
    have a0 : atD (.str s :: r) 0 = some (.str s) := atD_at (n := 0) rfl
    unfold Df.sem TV.run f_paths_on
    simp [Df.ios, iosOf, Sh.isM, a0, e, LIM]
  cases k with
  | zero => exact leaf hx
  | succ k =>
    rcases hx with h | ⟨lot, ps, hlot, h4, hp, rfl⟩
    · exact leaf h
    · rw [pthF_look]
      obtain ⟨ρ, e, done, rest', a4, a5, he, hr, rfl⟩ := forF_inv (body := forT pathT (exSs Γ b0_paths_on))
        (fun rest ρ => ∃ (done rest' : List (List Int × D)) (a4 a5 : Option D), done ++ rest' = ps ∧ rest = rest'.map pairD ∧ ρ = [some (lksD qs), some (wrdD qs), some (mkLook lot ps), some (.list ((done.flatMap fun p => pthF k (qs ++ [(lot, p.1)]) p.2).map pthD)), a4, a5])
        (fun d ds ρ ⟨done, rest', a4, a5, he, hr, e⟩ => by
          subst e
          cases rest' with
          | nil => simp at hr
          | cons p r =>
            simp only [List.map_cons, List.cons.injEq] at hr
            obtain ⟨rfl, rfl⟩ := hr
            obtain ⟨sk, np⟩ := hp p (by rw [← he]; simp)
            have e1 := rec k rfl c (qs ++ [(lot, p.1)]) p.2 np (by simp; omega)
            have dl : done.length + (r.length + 1) = ps.length := by rw [← he]; simp
            refine ⟨_, .inl ?_, done ++ [p], r, some (tI p.1), some p.2, by simp [← he], rfl, rfl⟩
            have n1 : (qs.map (·.1)).map tI ++ [tI lot] = ((qs ++ [(lot, p.1)]).map (·.1)).map tI := by simp
            have n2 : (qs.map (·.2)).map tI ++ [tI p.1] = ((qs ++ [(lot, p.1)]).map (·.2)).map tI := by simp
            have l1 : ((qs.map (·.1)).map tI).length + 1 ≤ LIM := by simp [LIM]; omega
            have l2 : ((qs.map (·.2)).map tI).length + 1 ≤ LIM := by simp [LIM]; omega
            have pk : (4 : Nat) ^ k ≤ 4 ^ 8 := Nat.pow_le_pow_right (by decide) (by omega)
            have f1 := flat_len (f := fun p : List Int × D => pthF k (qs ++ [(lot, p.1)]) p.2) (n := 4) (m := 4 ^ 8) (xs := done) (fun q hq => Nat.le_trans (pthF_len (hp q (by rw [← he]; simp [hq])).2) pk) (by omega)
            have f2 := Nat.le_trans (pthF_len (qs := qs ++ [(lot, p.1)]) np) pk
            have l3 : ((done.flatMap fun p => pthF k (qs ++ [(lot, p.1)]) p.2).map pthD).length + ((pthF k (qs ++ [(lot, p.1)]) p.2).map pthD).length ≤ LIM := by
              rw [List.length_map, List.length_map]
              have : (4 : Nat) ^ 8 = 65536 := by decide
              unfold LIM; omega
            have n3 : ((done ++ [p]).flatMap fun p => pthF k (qs ++ [(lot, p.1)]) p.2).map pthD = (done.flatMap fun p => pthF k (qs ++ [(lot, p.1)]) p.2).map pthD ++ (pthF k (qs ++ [(lot, p.1)]) p.2).map pthD := by
              rw [List.flatMap_append, List.map_append]
              simp
            rw [n3]
            generalize (done.flatMap fun p => pthF k (qs ++ [(lot, p.1)]) p.2).map pthD = L' at l3
            generalize (pthF k (qs ++ [(lot, p.1)]) p.2).map pthD = M' at l3 e1
            simp only [lksD, wrdD, tT] at e1
            rw [← n1, ← n2] at e1
            simp only [lksD, wrdD, tT]
            generalize (qs.map (·.1)).map tI = A at e1 l1
            generalize (qs.map (·.2)).map tI = B at e1 l2
            simp only [LIM] at l1 l2 l3
            simp [forT, pathT, pairD, bindT, bindTs, b0_paths_on, callR, argD, outs, extD, getPl, setPl, LIM, l1, l2, e1, l3])
        (ps.map pairD) [some (lksD qs), some (wrdD qs), some (mkLook lot ps), some (.list []), none, none] ⟨[], ps, none, none, rfl, rfl, rfl⟩
      have : rest' = [] := by
        cases rest' with
        | nil => rfl
        | cons _ _ => simp at hr
      subst this
      simp only [List.append_nil] at he
      subst he
      generalize (done.flatMap fun p => pthF k (qs ++ [(lot, p.1)]) p.2).map pthD = LL at e ⊢
      generalize lksD qs = L1 at e ⊢
      generalize wrdD qs = L2 at e ⊢
      unfold Df.sem TV.run f_paths_on
      simp [Df.ios, iosOf, Sh.isM, e_ll, LIM, e, mvD]
def PofEx (k : Nat) (F : Fn) : Prop := ∀ (c : Nat) (x : D), Nd c k x → F [x] = .ok (.tuple ((pthF k [] x).map pthD)) []
theorem pofEx_sem {Γ : Nat → Fn} {k : Nat} (hk : k ≤ 8) (hp : PathsEx k (Γ i_paths_on)) : PofEx k (f_paths_of.sem Γ) := fun c x hx => by
  have e := hp c [] x hx (by simp; omega)
  change Γ i_paths_on [.tuple [], .tuple [], x] = _ at e
  unfold Df.sem TV.run f_paths_of
  simp [-List.map_map, Df.ios, iosOf, Sh.isM, callR, argD, outs, e, LIM]

end Tx
namespace Tx
open PySem PySem.Spec PyProof.Rows L2 TV
theorem lpathsEx_sem {Γ : Nat → Fn} {k : Nat} (hk : k ≤ 8) (rec : ∀ k', k = k' + 1 → LPathsEx k' (Γ i__law_paths)) : LPathsEx k (f__law_paths.sem Γ) := fun c qs x hx hlen => by
  have leaf : Leaf x → f__law_paths.sem Γ [x, lksD qs, wrdD qs] = .ok (.list ((pthF k qs x).map pthD)) [] := fun h => by
    rw [pthF_leaf h]
    have e3 : [(qs, x)].map pthD = [.tuple [lksD qs, wrdD qs, x]] := rfl
    rw [e3]
    generalize lksD qs = L1
    generalize wrdD qs = L2
    obtain ⟨s, r, rfl, e⟩ := leaf_head h
    have a0 : atD (.str s :: r) 0 = some (.str s) := atD_at (n := 0) rfl
    unfold Df.sem TV.run f__law_paths
    simp [Df.ios, iosOf, Sh.isM, a0, e, LIM]
  cases k with
  | zero => exact leaf hx
  | succ k =>
    rcases hx with h | ⟨lot, ps, hlot, h4, hp, rfl⟩
    · exact leaf h
    · rw [pthF_look]
      obtain ⟨ρ, e, done, rest', a4, a5, he, hr, rfl⟩ := forF_inv (body := forT pathT (exSs Γ b0__law_paths))
        (fun rest ρ => ∃ (done rest' : List (List Int × D)) (a4 a5 : Option D), done ++ rest' = ps ∧ rest = rest'.map pairD ∧ ρ = [some (mkLook lot ps), some (lksD qs), some (wrdD qs), some (.list ((done.flatMap fun p => pthF k (qs ++ [(lot, p.1)]) p.2).map pthD)), a4, a5])
        (fun d ds ρ ⟨done, rest', a4, a5, he, hr, e⟩ => by
          subst e
          cases rest' with
          | nil => simp at hr
          | cons p r =>
            simp only [List.map_cons, List.cons.injEq] at hr
            obtain ⟨rfl, rfl⟩ := hr
            obtain ⟨sk, np⟩ := hp p (by rw [← he]; simp)
            have e1 := rec k rfl c (qs ++ [(lot, p.1)]) p.2 np (by simp; omega)
            have dl : done.length + (r.length + 1) = ps.length := by rw [← he]; simp
            refine ⟨_, .inl ?_, done ++ [p], r, some (tI p.1), some p.2, by simp [← he], rfl, rfl⟩
            have n1 : (qs.map (·.1)).map tI ++ [tI lot] = ((qs ++ [(lot, p.1)]).map (·.1)).map tI := by simp
            have n2 : (qs.map (·.2)).map tI ++ [tI p.1] = ((qs ++ [(lot, p.1)]).map (·.2)).map tI := by simp
            have l1 : ((qs.map (·.1)).map tI).length + [tI lot].length ≤ LIM := by simp [LIM]; omega
            have l2 : ((qs.map (·.2)).map tI).length + [tI p.1].length ≤ LIM := by simp [LIM]; omega
            have pk : (4 : Nat) ^ k ≤ 4 ^ 8 := Nat.pow_le_pow_right (by decide) (by omega)
            have f1 := flat_len (f := fun p : List Int × D => pthF k (qs ++ [(lot, p.1)]) p.2) (n := 4) (m := 4 ^ 8) (xs := done) (fun q hq => Nat.le_trans (pthF_len (hp q (by rw [← he]; simp [hq])).2) pk) (by omega)
            have f2 := Nat.le_trans (pthF_len (qs := qs ++ [(lot, p.1)]) np) pk
            have l3 : ((done.flatMap fun p => pthF k (qs ++ [(lot, p.1)]) p.2).map pthD).length + ((pthF k (qs ++ [(lot, p.1)]) p.2).map pthD).length ≤ LIM := by
              rw [List.length_map, List.length_map]
              have : (4 : Nat) ^ 8 = 65536 := by decide
              unfold LIM; omega
            have n3 : ((done ++ [p]).flatMap fun p => pthF k (qs ++ [(lot, p.1)]) p.2).map pthD = (done.flatMap fun p => pthF k (qs ++ [(lot, p.1)]) p.2).map pthD ++ (pthF k (qs ++ [(lot, p.1)]) p.2).map pthD := by
              rw [List.flatMap_append, List.map_append]
              simp
            rw [n3]
            generalize (done.flatMap fun p => pthF k (qs ++ [(lot, p.1)]) p.2).map pthD = L' at l3
            generalize (pthF k (qs ++ [(lot, p.1)]) p.2).map pthD = M' at l3 e1
            simp only [lksD, wrdD, tT] at e1
            rw [← n1, ← n2] at e1
            simp only [lksD, wrdD, tT]
            generalize (qs.map (·.1)).map tI = A at e1 l1
            generalize (qs.map (·.2)).map tI = B at e1 l2
            simp [forT, pathT, pairD, bindT, bindTs, b0__law_paths, callR, argD, outs, LIM, o_addT l1, o_addT l2, e1, o_addS l3])
        (ps.map pairD) [some (mkLook lot ps), some (lksD qs), some (wrdD qs), some (.list []), none, none] ⟨[], ps, none, none, rfl, rfl, rfl⟩
      have : rest' = [] := by
        cases rest' with
        | nil => rfl
        | cons _ _ => simp at hr
      subst this
      simp only [List.append_nil] at he
      subst he
      generalize (done.flatMap fun p => pthF k (qs ++ [(lot, p.1)]) p.2).map pthD = LL at e ⊢
      generalize lksD qs = L1 at e ⊢
      generalize wrdD qs = L2 at e ⊢
      unfold Df.sem TV.run f__law_paths
      simp [Df.ios, iosOf, Sh.isM, e_ll, LIM, e]

end Tx
namespace Tx
open PySem PySem.Spec PyProof.Rows L2 TV
theorem val_mono {t : Tab} (vm : VMono t) {i j : Int} (h0 : 0 ≤ i) (hij : i ≤ j) (h1 : j < t.vals.length) : valAt t i ≤ valAt t j := by
  unfold valAt
  rw [List.getD_eq_getElem?_getD, List.getD_eq_getElem?_getD, List.getElem?_eq_getElem (show i.toNat < t.vals.length by omega), List.getElem?_eq_getElem (show j.toNat < t.vals.length by omega), Option.getD_some, Option.getD_some]
  rcases Nat.lt_or_eq_of_le (show i.toNat ≤ j.toNat by omega) with h | h
  · exact List.pairwise_iff_getElem.mp vm _ _ _ _ h
  · exact Int.le_of_eq (by congr 1)
/-- slower: fewer chains -/
def Slow (o' o : Option Int) : Prop := ∀ a b, nearB o' a b = true → nearB o a b = true
theorem Slow.refl (o : Option Int) : Slow o o := fun _ _ h => h
theorem Ch.slow {o o' : Option Int} (h : Slow o' o) : ∀ {fs : List (List Int)} {b e : Int}, Ch o' b fs e → Ch o b fs e
  | [], _, _, q => q
  | f :: fs, b, e, ⟨c, h1, h2, h3⟩ => ⟨c, h1, h _ _ h2, Ch.slow h h3⟩
theorem IsSpan.slow {o o' : Option Int} (h : Slow o' o) {f : List Int} {fs : List (List Int)} {hi lo hi' lo' : Int} (s : IsSpan o f fs hi lo) (s' : IsSpan o' f fs hi' lo') : hi' ≤ hi ∧ lo ≤ lo' := by
  obtain ⟨⟨m1, e, c1⟩, _, ⟨b, m2, c2⟩, _⟩ := s'
  exact ⟨s.h2 hi' m1 ⟨e, c1.slow h⟩, s.l2 b m2 lo' (c2.slow h)⟩
theorem IsSpan.more {o o' : Option Int} (h : Slow o' o) {t : Tab} {q : List Int × List Int} {qr : List (List Int × List Int)} {hi' lo' : Int} (s' : IsSpan o' (fit t q) (qr.map (fit t)) hi' lo') : ∃ hi lo, IsSpan o (fit t q) (qr.map (fit t)) hi lo := by
  refine span_ex fun e => ?_
  obtain ⟨b, m2, c2⟩ := s'.l1
  have : lo' ∈ LF o t q qr := mem_lastF.mpr ⟨b, m2, c2.slow h⟩
  rw [e] at this
  cases this
/-- a leaf filled for a speed is sure at each lesser one -/
theorem leafOf_sure {t : Tab} {cells : Nat} (tok : TabOk cells t) (vok : ValsOk t) (vm : VMono t) {o o' : Option Int} (h : Slow o' o) (p : Pth) (e : p.2 = leafOf t o p.1) : SureP t o' p := fun v hv q qs hq hi' lo' s' => by
  have le := tok.len
  rw [e, hq] at hv
  obtain ⟨hi, lo, s⟩ := s'.more h
  obtain ⟨g1, g2⟩ := s.slow h s'
  obtain ⟨⟨a1, a2⟩, a3, a4⟩ := s.rng
  obtain ⟨⟨b1, b2⟩, b3, b4⟩ := s'.rng
  by_cases hg : valAt t hi ≤ valAt t lo
  · rw [leafOf_tell s hg] at hv
    simp only [PyData.tuple.injEq, List.cons.injEq, PyData.int.injEq, and_true, true_and] at hv
    subst hv
    exact ⟨val_mono vm b1 g1 (by omega), Int.le_trans hg (val_mono vm a3 g2 (by omega))⟩
  · rw [leafOf_again fun hi2 lo2 s2 => by obtain ⟨rfl, rfl⟩ := s.uniq s2; omega] at hv
    simp [again] at hv

end Tx
namespace Tx
open PySem PySem.Spec PyProof.Rows L2 TV
/-! the least and the greatest states that are lived through: runs -/
def RunIn (o : Option Int) : List (List Int) → List Int → Prop
  | [f], [r] => r ∈ f
  | f :: g :: fs, r :: r' :: rs => r ∈ f ∧ nearB o r r' = true ∧ RunIn o (g :: fs) (r' :: rs)
  | _, _ => False
def leastL (K : List (List Int)) : List Int := K.map fun k => k.headD 0
def greatL (K : List (List Int)) : List Int := K.map fun k => k.getLastD 0
theorem asc_min {xs : List Int} (ha : Asc xs) (h : xs ≠ []) : xs.headD 0 ∈ xs ∧ ∀ y ∈ xs, xs.headD 0 ≤ y := by
  obtain ⟨x, r, rfl⟩ := List.exists_cons_of_ne_nil h
  refine ⟨List.mem_cons_self, fun y hy => ?_⟩
  show x ≤ y
  rcases List.mem_cons.mp hy with rfl | hy
  · exact Int.le_refl _
  · have := (List.pairwise_cons.mp ha).1 y hy; omega
theorem asc_max {xs : List Int} (ha : Asc xs) (h : xs ≠ []) : xs.getLastD 0 ∈ xs ∧ ∀ y ∈ xs, y ≤ xs.getLastD 0 := by
  have e : xs.getLast? = some (xs.getLastD 0) := by
    rw [List.getLastD_eq_getLast?]
    cases e : xs.getLast? with
    | none => exact absurd (List.getLast?_eq_none_iff.mp e) h
    | some y => rfl
  refine ⟨List.mem_of_getLast? e, fun y hy => ?_⟩
  obtain ⟨i, hi⟩ := List.getElem?_of_mem hy
  have li := (List.getElem?_eq_some_iff.mp hi).1
  rw [List.getLast?_eq_getElem?] at e
  exact asc_get ha hi e (by omega)
theorem near_iff {o : Option Int} {a b : Int} : nearB o a b = true ↔ a ≤ b ∧ ∀ s, o = some s → b - a ≤ s := by
  unfold nearB
  rw [Bool.and_eq_true, decide_eq_true_eq]
  cases o with
  | none => simp
  | some s => simp
theorem RunIn.sub {o : Option Int} {f g : List Int} {fs : List (List Int)} (h : ∀ x ∈ f, x ∈ g) : ∀ {run : List Int}, RunIn o (f :: fs) run → RunIn o (g :: fs) run
  | [], r => by cases fs <;> exact r
  | [x], r => by
    cases fs with
    | nil => exact h x r
    | cons _ _ => exact r
  | x :: y :: rs, r => by
    cases fs with
    | nil => exact r
    | cons _ _ => exact ⟨h x r.1, r.2⟩
theorem bk_runs (o : Option Int) : ∀ (fs : List (List Int)) (S : List Int), Asc S → (∀ f ∈ fs, Asc f) → lastF o S fs ≠ [] →
    (∀ k ∈ bkL o (seqF o S fs), Asc k ∧ k ≠ []) ∧ RunIn o (S :: fs) (leastL (bkL o (seqF o S fs))) ∧ RunIn o (S :: fs) (greatL (bkL o (seqF o S fs)))
  | [], S, ha, _, hn => by
    have hn : S ≠ [] := hn
    refine ⟨fun k hk => ?_, (asc_min ha hn).1, (asc_max ha hn).1⟩
    simp [seqF, bkL] at hk
    subst hk; exact ⟨ha, hn⟩
  | f :: fs, S, ha, hf, hn => by
    have af := hf f List.mem_cons_self
    have hn' : lastF o (fwd o S f) fs ≠ [] := hn
    obtain ⟨i1, i2, i3⟩ := bk_runs o fs (fwd o S f) (fwd_asc af) (fun g hg => hf g (List.mem_cons_of_mem _ hg)) hn'
    have bh := bk_head o fs (fwd o S f)
    obtain ⟨x, xs, e⟩ := seqF_ne o (fwd o S f) fs
    have ne := bkL_ne (o := o) (xs := seqF o (fwd o S f) fs) (by rw [e]; simp)
    obtain ⟨k', ks, ek⟩ := List.exists_cons_of_ne_nil ne
    have bke : bkL o (seqF o S (f :: fs)) = bwd o S k' :: k' :: ks := by
      simp only [seqF]
      rw [bkL_cons (by rw [e]; simp), ek]
      rfl
    rw [bke]
    rw [ek] at i1 i2 i3 bh
    simp only [List.headD_cons] at bh
    obtain ⟨ak', nk'⟩ := i1 k' List.mem_cons_self
    have sub : ∀ c ∈ k', c ∈ f ∧ ∃ b ∈ S, nearB o b c = true := fun c hc => mem_fwd.mp ((bh c).mp hc).1
    have back : ∀ c ∈ k', ∃ b ∈ bwd o S k', nearB o b c = true := fun c hc => by
      obtain ⟨_, b, hb, h⟩ := sub c hc
      exact ⟨b, mem_bwd.mpr ⟨hb, c, hc, h⟩, h⟩
    have forth : ∀ b ∈ bwd o S k', ∃ c ∈ k', nearB o b c = true := fun b hb => (mem_bwd.mp hb).2
    have ab := bwd_asc (o := o) (f := k') ha
    have nb : bwd o S k' ≠ [] := fun z => by
      obtain ⟨c, r, ec⟩ := List.exists_cons_of_ne_nil nk'
      obtain ⟨b, hb, _⟩ := back c (by rw [ec]; exact List.mem_cons_self)
      rw [z] at hb; cases hb
    obtain ⟨m1, m2⟩ := asc_min ab nb
    obtain ⟨m3, m4⟩ := asc_min ak' nk'
    obtain ⟨g1, g2⟩ := asc_max ab nb
    obtain ⟨g3, g4⟩ := asc_max ak' nk'
    refine ⟨fun k hk => ?_, ⟨(mem_bwd.mp m1).1, ?_, ?_⟩, ⟨(mem_bwd.mp g1).1, ?_, ?_⟩⟩
    · rcases List.mem_cons.mp hk with rfl | hk
      · exact ⟨ab, nb⟩
      · exact i1 k hk
    · show nearB o ((bwd o S k').headD 0) (k'.headD 0) = true
      obtain ⟨b, hb, h1⟩ := back _ m3
      obtain ⟨c, hc, h2⟩ := forth _ m1
      rw [near_iff] at h1 h2 ⊢
      have := m2 b hb
      have := m4 c hc
      exact ⟨by omega, fun s hs => by have := h2.2 s hs; omega⟩
    · exact RunIn.sub (fun x hx => (mem_fwd.mp hx).1) i2
    · show nearB o ((bwd o S k').getLastD 0) (k'.getLastD 0) = true
      obtain ⟨b, hb, h1⟩ := back _ g3
      obtain ⟨c, hc, h2⟩ := forth _ g1
      rw [near_iff] at h1 h2 ⊢
      have := g2 b hb
      have := g4 c hc
      exact ⟨by omega, fun s hs => by have := h1.2 s hs; omega⟩
    · exact RunIn.sub (fun x hx => (mem_fwd.mp hx).1) i3
abbrev keptL (o : Option Int) (t : Tab) (q : List Int × List Int) (qs : List (List Int × List Int)) : List (List Int) := bkL o (seqF o (fit t q) (qs.map (fit t)))
theorem kept_runs {o : Option Int} {t : Tab} {q : List Int × List Int} {qs : List (List Int × List Int)} (h : LF o t q qs ≠ []) : (∀ k ∈ keptL o t q qs, Asc k ∧ k ≠ []) ∧ RunIn o ((q :: qs).map (fit t)) (leastL (keptL o t q qs)) ∧ RunIn o ((q :: qs).map (fit t)) (greatL (keptL o t q qs)) :=
  bk_runs o (qs.map (fit t)) (fit t q) (fit_asc t q) (fun f hf => by obtain ⟨p, _, rfl⟩ := List.mem_map.mp hf; exact fit_asc t p) h
def LeastFn (F : Fn) : Prop := ∀ (t : Tab) (cells : Nat), TabOk cells t → ∀ (o : Option Int) (q : List Int × List Int) (qs : List (List Int × List Int)), QsOk cells (q :: qs) → qs.length ≤ 800 → LF o t q qs ≠ [] → F [t.d, spD o, lksD (q :: qs), wrdD (q :: qs)] = .ok (tI (leastL (keptL o t q qs))) []
def GreatFn (F : Fn) : Prop := ∀ (t : Tab) (cells : Nat), TabOk cells t → ∀ (o : Option Int) (q : List Int × List Int) (qs : List (List Int × List Int)), QsOk cells (q :: qs) → qs.length ≤ 800 → LF o t q qs ≠ [] → F [t.d, spD o, lksD (q :: qs), wrdD (q :: qs)] = .ok (tI (greatL (keptL o t q qs))) []
theorem kept_len {o : Option Int} {t : Tab} {q : List Int × List Int} {qs : List (List Int × List Int)} : (keptL o t q qs).length ≤ qs.length + 1 := by
  have h : ∀ xs : List (List Int), (bkL o xs).length ≤ xs.length := fun xs => by
    induction xs with
    | nil => simp [bkL]
    | cons x xs ih =>
      cases xs with
      | nil => simp [bkL]
      | cons z r => simp [bkL] at ih ⊢; omega
  have h1 := h (seqF o (fit t q) (qs.map (fit t)))
  have h2 := seqF_len o (qs.map (fit t)) (fit t q)
  rw [List.length_map] at h2
  unfold keptL
  omega
theorem least_sem {Γ : Nat → Fn} (hr : ReadFn (Γ i_is_read)) (hl : LivedFn (Γ i_lived_through)) : LeastFn (f_least_states.sem Γ) := fun t cells tok o q qs hqs hlen hne => by
  have e1 := hr t cells tok o q qs hqs hlen
  rw [decide_eq_true hne] at e1
  have e2 := hl t cells tok o q qs hqs hlen hne
  obtain ⟨k1, _, _⟩ := kept_runs hne
  have kl := kept_len (o := o) (t := t) (q := q) (qs := qs)
  change Γ i_lived_through [t.d, spD o, lksD (q :: qs), wrdD (q :: qs)] = .ok (.list ((keptL o t q qs).map lD)) [] at e2
  generalize keptL o t q qs = K at e2 k1 kl ⊢
  generalize lksD (q :: qs) = L1 at e1 e2 ⊢
  generalize wrdD (q :: qs) = L2 at e1 e2 ⊢
  have m := lcF_fm (ρ := [some t.d, some (spD o), some L1, some L2, none]) (body := lcT [4] (Tg.v 4) (allD (evE Γ e0_least_states))) (g := lD) (f := fun k => some (.int (k.headD 0))) K (fun k hk => by
    obtain ⟨x, r, rfl⟩ := List.exists_cons_of_ne_nil (k1 k hk).2
    have a0 : b2 .idx (lD (x :: r)) (.int 0) = some (.int x) := atD_at (n := 0) rfl
    generalize hZ : lD (x :: r) = Z at a0 ⊢
    simp [e0_least_states, lcT, bindT, allD, wipeE, a0])
  have fm : (K.filterMap fun k => some (PyData.int (k.headD 0))) = (leastL K).map .int := by
    unfold leastL
    rw [List.map_map, show (fun k : List Int => some (PyData.int (k.headD 0))) = some ∘ (fun k => PyData.int (k.headD 0)) from rfl, List.filterMap_eq_map]
    rfl
  rw [fm] at m
  have hw : evW Γ (.seq (.call i_lived_through (.val (.v 0) (.val (.v 1) (.val (.v 2) (.val (.v 3) .nil)))))) [some t.d, some (spD o), some L1, some L2, none] = .ok (K.map lD) [some t.d, some (spD o), some L1, some L2, none] := by
    generalize K.map lD = KK at e2
    simp [callR, argD, outs, e2]
  have hlc := lcD_ok (vs := [4]) (tg := Tg.v 4) (body := allD (evE Γ e0_least_states)) (ρ := [some t.d, some (spD o), some L1, some L2, none]) hw (by simp [LIM]; omega) m
  unfold Df.sem TV.run f_least_states
  simp [-w_seq, Df.ios, iosOf, Sh.isM, callR, argD, outs, e1, hlc, backE]
  rfl
theorem great_sem {Γ : Nat → Fn} (hr : ReadFn (Γ i_is_read)) (hl : LivedFn (Γ i_lived_through)) : GreatFn (f_greatest_states.sem Γ) := fun t cells tok o q qs hqs hlen hne => by
  have e1 := hr t cells tok o q qs hqs hlen
  rw [decide_eq_true hne] at e1
  have e2 := hl t cells tok o q qs hqs hlen hne
  obtain ⟨k1, _, _⟩ := kept_runs hne
  have kl := kept_len (o := o) (t := t) (q := q) (qs := qs)
  change Γ i_lived_through [t.d, spD o, lksD (q :: qs), wrdD (q :: qs)] = .ok (.list ((keptL o t q qs).map lD)) [] at e2
  generalize keptL o t q qs = K at e2 k1 kl ⊢
  generalize lksD (q :: qs) = L1 at e1 e2 ⊢
  generalize wrdD (q :: qs) = L2 at e1 e2 ⊢
  have m := lcF_fm (ρ := [some t.d, some (spD o), some L1, some L2, none]) (body := lcT [4] (Tg.v 4) (allD (evE Γ e0_greatest_states))) (g := lD) (f := fun k => some (.int (k.getLastD 0))) K (fun k hk => by
    have ne := (k1 k hk).2
    have a0 : b2 .idx (lD k) (.int (-1)) = some (.int (k.getLastD 0)) := atD_neg (by
      rw [List.getLast?_map, List.getLastD_eq_getLast?]
      cases e : k.getLast? with
      | none => exact absurd (List.getLast?_eq_none_iff.mp e) ne
      | some y => rfl)
    generalize k.getLastD 0 = y at a0 ⊢
    generalize lD k = Z at a0 ⊢
    simp [e0_greatest_states, lcT, bindT, allD, wipeE, a0])
  have fm : (K.filterMap fun k => some (PyData.int (k.getLastD 0))) = (greatL K).map .int := by
    unfold greatL
    rw [List.map_map, show (fun k : List Int => some (PyData.int (k.getLastD 0))) = some ∘ (fun k => PyData.int (k.getLastD 0)) from rfl, List.filterMap_eq_map]
    rfl
  rw [fm] at m
  have hw : evW Γ (.seq (.call i_lived_through (.val (.v 0) (.val (.v 1) (.val (.v 2) (.val (.v 3) .nil)))))) [some t.d, some (spD o), some L1, some L2, none] = .ok (K.map lD) [some t.d, some (spD o), some L1, some L2, none] := by
    generalize K.map lD = KK at e2
    simp [callR, argD, outs, e2]
  have hlc := lcD_ok (vs := [4]) (tg := Tg.v 4) (body := allD (evE Γ e0_greatest_states)) (ρ := [some t.d, some (spD o), some L1, some L2, none]) hw (by simp [LIM]; omega) m
  unfold Df.sem TV.run f_greatest_states
  simp [-w_seq, Df.ios, iosOf, Sh.isM, callR, argD, outs, e1, hlc, backE]
  rfl

end Tx
namespace Tx
open PySem PySem.Spec PyProof.Rows L2 TV
/-- a run that reads a path and does not have the value -/
def BadRun (t : Tab) (o : Option Int) (qs : List (List Int × List Int)) (v : Int) (run : List Int) : Prop := RunIn o (qs.map (fit t)) run ∧ ¬ (valAt t (run.headD 0) ≤ v ∧ v ≤ valAt t (run.getLastD 0))
def WrFn (F : Fn) : Prop := ∀ (t : Tab) (cells : Nat), TabOk cells t → ∀ (o : Option Int) (q : List Int × List Int) (qs : List (List Int × List Int)), QsOk cells (q :: qs) → qs.length ≤ 800 → ∀ v : Int,
  (F [t.d, spD o, lksD (q :: qs), wrdD (q :: qs), .int v] = .ok .none [] ∧ ∀ hi lo, IsSpan o (fit t q) (qs.map (fit t)) hi lo → valAt t hi ≤ v ∧ v ≤ valAt t lo) ∨
  ∃ run, F [t.d, spD o, lksD (q :: qs), wrdD (q :: qs), .int v] = .ok (tI run) [] ∧ BadRun t o (q :: qs) v run
theorem great_head {o : Option Int} {t : Tab} {q : List Int × List Int} {qs : List (List Int × List Int)} {hi lo : Int} (s : IsSpan o (fit t q) (qs.map (fit t)) hi lo) : (greatL (keptL o t q qs)).headD 0 = hi := by
  obtain ⟨k1, _, _⟩ := kept_runs s.ne
  have bh := bk_head o (qs.map (fit t)) (fit t q)
  have ne := bkL_ne (o := o) (xs := seqF o (fit t q) (qs.map (fit t))) (by obtain ⟨x, xs, e⟩ := seqF_ne o (fit t q) (qs.map (fit t)); rw [e]; simp)
  obtain ⟨k, ks, ek⟩ := List.exists_cons_of_ne_nil ne
  change bkL o (seqF o (fit t q) (qs.map (fit t))) = k :: ks at ek
  unfold keptL at k1 ⊢
  rw [ek] at k1 bh ⊢
  simp only [List.headD_cons] at bh
  obtain ⟨ak, nk⟩ := k1 k List.mem_cons_self
  obtain ⟨m1, m2⟩ := asc_max ak nk
  show k.getLastD 0 = hi
  have h1 := m2 hi ((bh hi).mpr s.h1)
  have h2 := (bh _).mp m1
  have h3 := s.h2 _ h2.1 h2.2
  omega
theorem least_last {o : Option Int} {t : Tab} {q : List Int × List Int} {qs : List (List Int × List Int)} {hi lo : Int} (s : IsSpan o (fit t q) (qs.map (fit t)) hi lo) : (leastL (keptL o t q qs)).getLastD 0 = lo := by
  obtain ⟨k1, _, _⟩ := kept_runs s.ne
  have bl := bk_last o (qs.map (fit t)) (fit t q)
  have e : (leastL (keptL o t q qs)).getLast? = some ((LF o t q qs).headD 0) := by
    unfold leastL keptL
    rw [List.getLast?_map, bl]
    rfl
  rw [List.getLastD_eq_getLast?, e, Option.getD_some]
  obtain ⟨ak, nk⟩ := k1 _ (List.mem_of_getLast? bl)
  obtain ⟨m1, m2⟩ := asc_min ak nk
  have h1 := m2 lo (mem_lastF.mpr s.l1)
  obtain ⟨b, hb, h2⟩ := mem_lastF.mp m1
  have h3 := s.l2 b hb _ h2
  change (lastF o (fit t q) (qs.map (fit t))).headD 0 ≤ lo at h1
  change (lastF o (fit t q) (qs.map (fit t))).headD 0 = lo
  omega
theorem wr_sem {Γ : Nat → Fn} (hr : ReadFn (Γ i_is_read)) (hv : SvalFn (Γ i_sure_values)) (hl : LeastFn (Γ i_least_states)) (hg : GreatFn (Γ i_greatest_states)) : WrFn (f_wrong_run.sem Γ) := fun t cells tok o q qs hqs hlen v => by
  have e1 := hr t cells tok o q qs hqs hlen
  by_cases h : LF o t q qs = []
  · refine .inl ⟨?_, fun hi lo s => absurd h s.ne⟩
    rw [decide_eq_false (fun z => z h)] at e1
    generalize lksD (q :: qs) = L1 at e1 ⊢
    generalize wrdD (q :: qs) = L2 at e1 ⊢
    unfold Df.sem TV.run f_wrong_run
    simp [Df.ios, iosOf, Sh.isM, callR, argD, outs, e1]
  · rw [decide_eq_true h] at e1
    obtain ⟨hi, lo, s⟩ := span_ex h
    have e2 := hv t cells tok o q qs hqs hlen hi lo s
    have e3 := hl t cells tok o q qs hqs hlen h
    have e4 := hg t cells tok o q qs hqs hlen h
    obtain ⟨_, k2, k3⟩ := kept_runs h
    have gh := great_head s
    have ll := least_last s
    by_cases h1 : v < valAt t hi
    · refine .inr ⟨greatL (keptL o t q qs), ?_, k3, by rw [gh]; omega⟩
      generalize greatL (keptL o t q qs) = R at e4 ⊢
      generalize lksD (q :: qs) = L1 at e1 e2 e4 ⊢
      generalize wrdD (q :: qs) = L2 at e1 e2 e4 ⊢
      unfold Df.sem TV.run f_wrong_run
      simp [Df.ios, iosOf, Sh.isM, callR, argD, outs, e1, e2, bindTs, bindT, h1, e4]
    · by_cases h2 : valAt t lo < v
      · refine .inr ⟨leastL (keptL o t q qs), ?_, k2, by rw [ll]; omega⟩
        generalize leastL (keptL o t q qs) = R at e3 ⊢
        generalize lksD (q :: qs) = L1 at e1 e2 e3 ⊢
        generalize wrdD (q :: qs) = L2 at e1 e2 e3 ⊢
        unfold Df.sem TV.run f_wrong_run
        simp [Df.ios, iosOf, Sh.isM, callR, argD, outs, e1, e2, bindTs, bindT, h1, h2, e3]
      · refine .inl ⟨?_, fun hi' lo' s' => by obtain ⟨rfl, rfl⟩ := s.uniq s'; omega⟩
        generalize lksD (q :: qs) = L1 at e1 e2 ⊢
        generalize wrdD (q :: qs) = L2 at e1 e2 ⊢
        unfold Df.sem TV.run f_wrong_run
        simp [Df.ios, iosOf, Sh.isM, callR, argD, outs, e1, e2, bindTs, bindT, h1, h2]
/-- what is told of a reader: nothing where all leaves are sure, otherwise the first leaf that is not, with a run -/
def WpFn (k : Nat) (F : Fn) : Prop := ∀ (t : Tab) (cells : Nat), TabOk cells t → ∀ (o : Option Int) (x : D), Lk cells k x →
  (F [t.d, spD o, x] = .ok .none [] ∧ ∀ p ∈ pthF (k + 1) [] x, SureP t o p) ∨
  ∃ (n : Nat) (run : List Int) (qs : List (List Int × List Int)) (v : Int), F [t.d, spD o, x] = .ok (.tuple [.int (n : Nat), tI run]) [] ∧ (pthF (k + 1) [] x)[n]? = some (qs, .tuple [.str "tell", .int v]) ∧ BadRun t o qs v run ∧ ∀ m p, m < n → (pthF (k + 1) [] x)[m]? = some p → SureP t o p
/-- each path of a look: looks of the table, not none -/
theorem pth_ok {cells k : Nat} (hc : cells ≤ 100) {x : D} (hx : Lk cells k x) (hk : k ≤ 50) : ∀ p ∈ pthF (k + 1) [] x, Leaf p.2 ∧ QsOk cells p.1 ∧ p.1.length ≤ 100 ∧ p.1 ≠ [] := by
  have ax : AllL cells (fun _ => True) k [] x := by
    obtain ⟨lot, ps, h1, h2, h3, h4⟩ := hx
    exact ⟨lot, ps, h1, h2, fun p hp => ⟨(h3 p hp).1, nd_all (h3 p hp).2⟩, h4⟩
  intro p hp
  obtain ⟨a, _, b, c, d⟩ := pthF_all (ax.imp hc (fun q hq => by cases hq) (n := 100) (by simp; omega)) p hp
  exact ⟨a, b, c, d⟩
theorem wp_sem {Γ : Nat → Fn} {k : Nat} (hk : k ≤ 7) (hp : PofEx (k + 1) (Γ i_paths_of)) (hw : WrFn (Γ i_wrong_run)) : WpFn k (f_wrong_path.sem Γ) := fun t cells tok o x hx => by
  have c3 := tok.c3
  have e := hp cells x hx.nd
  have h1 := pth_ok (by omega) hx (by omega)
  generalize pthF (k + 1) [] x = L at e h1 ⊢
  have key := forF_ret (body := forT wrongT (exSs Γ b0_wrong_path))
    (fun rest ρ => ∃ (m : Nat) (rest' : List Pth) (a3 a4 a5 a6 a7 : Option D), rest = (rest'.zipIdx m).map (fun p => .tuple [.int (p.2 : Nat), pthD p.1]) ∧ ρ = [some t.d, some (spD o), some x, a3, a4, a5, a6, a7] ∧ L.drop m = rest' ∧ ∀ j p, j < m → L[j]? = some p → SureP t o p)
    (fun v ρ => ∃ (n : Nat) (run : List Int) (qs : List (List Int × List Int)) (w : Int), v = .tuple [.int (n : Nat), tI run] ∧ L[n]? = some (qs, .tuple [.str "tell", .int w]) ∧ BadRun t o qs w run ∧ ∀ m p, m < n → L[m]? = some p → SureP t o p)
    (fun d ds ρ ⟨m, rest', a3, a4, a5, a6, a7, hr, e, hd, hm⟩ => by
      subst e
      cases rest' with
      | nil => simp at hr
      | cons p r =>
        simp only [List.zipIdx_cons, List.map_cons, List.cons.injEq] at hr
        obtain ⟨rfl, rfl⟩ := hr
        have hLm : L[m]? = some p := by
          have := congrArg (fun l => l[0]?) hd
          simpa using this
        have hdr : L.drop (m + 1) = r := by
          rw [← List.drop_drop, hd]
          rfl
        obtain ⟨lf, qok, ql, qne⟩ := h1 p (List.mem_of_getElem? hLm)
        have go : SureP t o p → ∀ j p', j < m + 1 → L[j]? = some p' → SureP t o p' := fun hs j p' hj hp' => by
          rcases Nat.lt_or_eq_of_le (Nat.le_of_lt_succ hj) with h | rfl
          · exact hm j p' h hp'
          · rw [hLm] at hp'; cases hp'; exact hs
        obtain ⟨qs, leaf⟩ := p
        simp only [] at lf qok ql qne
        cases lf with
        | again =>
          have a0' : atD [PyData.str "again"] 0 = some (.str "again") := rfl
          refine .inl ⟨[some t.d, some (spD o), some x, some (.int (m : Nat)), some .none, some (lksD qs), some (wrdD qs), some (.tuple [.str "again"])], .inl ?_, m + 1, r, _, _, _, _, _, rfl, rfl, hdr, go (fun v hv => by simp at hv)⟩
          simp only [pthD]
          generalize lksD qs = L1
          generalize wrdD qs = L2
          simp [forT, wrongT, bindT, bindTs, b0_wrong_path, a0', e_at]
        | tell v hv =>
          obtain ⟨q, qr, rfl⟩ := List.exists_cons_of_ne_nil qne
          have a0' : atD [PyData.str "tell", .int v] 0 = some (.str "tell") := rfl
          have a1' : atD [PyData.str "tell", .int v] 1 = some (.int v) := rfl
          rcases hw t cells tok o q qr qok (by simp at ql; omega) v with ⟨e3, hs⟩ | ⟨run, e3, hb⟩
          · refine .inl ⟨[some t.d, some (spD o), some x, some (.int (m : Nat)), some .none, some (lksD (q :: qr)), some (wrdD (q :: qr)), some (.tuple [.str "tell", .int v])], .inl ?_, m + 1, r, _, _, _, _, _, rfl, rfl, hdr, go (fun v' hv' q' qs' hq' hi lo s => by
              simp only [PyData.tuple.injEq, List.cons.injEq, PyData.int.injEq, and_true, true_and] at hv'
              subst hv'
              simp only [List.cons.injEq] at hq'
              obtain ⟨rfl, rfl⟩ := hq'
              exact hs hi lo s)⟩
            simp only [pthD]
            generalize lksD (q :: qr) = L1 at e3 ⊢
            generalize wrdD (q :: qr) = L2 at e3 ⊢
            simp [forT, wrongT, bindT, bindTs, b0_wrong_path, a0', a1', e_tt, callR, argD, outs, e3]
          · refine .inr ⟨_, [some t.d, some (spD o), some x, some (.int (m : Nat)), some (tI run), some (lksD (q :: qr)), some (wrdD (q :: qr)), some (.tuple [.str "tell", .int v])], ?_, m, run, q :: qr, v, rfl, hLm, hb, hm⟩
            simp only [pthD]
            generalize lksD (q :: qr) = L1 at e3 ⊢
            generalize wrdD (q :: qr) = L2 at e3 ⊢
            simp [forT, wrongT, bindT, bindTs, b0_wrong_path, a0', a1', e_tt, callR, argD, outs, e3, LIM]
            rfl)
    (enumD (L.map pthD)) [some t.d, some (spD o), some x, none, none, none, none, none] ⟨0, L, none, none, none, none, none, by
      unfold enumD
      rw [List.zipIdx_map, List.map_map]
      rfl, rfl, rfl, fun j p hj => absurd hj (Nat.not_lt_zero _)⟩
  rcases key with ⟨ρ, e2, m, rest', a3, a4, a5, a6, a7, hr, rfl, hd, hm⟩ | ⟨v, ρ, e2, n, run, qs, w, rfl, h3, h4, h5⟩
  · left
    have hnil : rest' = [] := by
      cases rest' with
      | nil => rfl
      | cons _ _ => simp at hr
    subst hnil
    refine ⟨?_, fun p hp => ?_⟩
    · generalize L.map pthD = LL at e e2
      unfold Df.sem TV.run f_wrong_path
      simp [Df.ios, iosOf, Sh.isM, callR, argD, outs, e, e2]
    · obtain ⟨j, hj⟩ := List.getElem?_of_mem hp
      have jl := (List.getElem?_eq_some_iff.mp hj).1
      have : L.length ≤ m := List.drop_eq_nil_iff.mp hd
      exact hm j p (by omega) hj
  · refine .inr ⟨n, run, qs, w, ?_, h3, h4, h5⟩
    generalize L.map pthD = LL at e e2
    unfold Df.sem TV.run f_wrong_path
    simp [Df.ios, iosOf, Sh.isM, callR, argD, outs, e, e2]

end Tx
namespace Tx
open PySem PySem.Spec PyProof.Rows L2 TV
abbrev sureT : Tg := .t (.cons (.v 3) (.cons (.v 4) (.cons (.v 5) .nil)))
def IsSureEx (k : Nat) (F : Fn) : Prop := ∀ (t : Tab) (cells : Nat), TabOk cells t → ∀ (o : Option Int) (x : D), Lk cells k x → ∃ b : Bool, F [t.d, spD o, x] = .ok (.bool b) [] ∧ (b = true ↔ ∀ p ∈ pthF (k + 1) [] x, SureP t o p)
theorem issureEx_sem {Γ : Nat → Fn} {k : Nat} (hk : k ≤ 7) (hp : LPathsEx (k + 1) (Γ i__law_paths)) (hs : SpanFn (Γ i__law_span)) : IsSureEx k (f__law_is_sure.sem Γ) := fun t cells tok o x hx => by
  have c3 := tok.c3
  have le := tok.len
  have e := hp cells [] x hx.nd (by simp; omega)
  have h1 := pth_ok (by omega) hx (by omega)
  change Γ i__law_paths [x, .tuple [], .tuple []] = _ at e
  generalize pthF (k + 1) [] x = L at e h1 ⊢
  have key := forF_ret (body := forT sureT (exSs Γ b0__law_is_sure))
    (fun rest ρ => ∃ (done rest' : List Pth) (a3 a4 a5 a6 : Option D), rest = rest'.map pthD ∧ ρ = [some t.d, some (spD o), some x, a3, a4, a5, a6] ∧ done ++ rest' = L ∧ ∀ p ∈ done, SureP t o p)
    (fun v ρ => v = .bool false ∧ ∃ p ∈ L, ¬ SureP t o p)
    (fun d ds ρ ⟨done, rest', a3, a4, a5, a6, hr, e, hd, hm⟩ => by
      subst e
      cases rest' with
      | nil => simp at hr
      | cons p r =>
        simp only [List.map_cons, List.cons.injEq] at hr
        obtain ⟨rfl, rfl⟩ := hr
        have hpL : p ∈ L := by rw [← hd]; simp
        obtain ⟨lf, qok, ql, qne⟩ := h1 p hpL
        have go : SureP t o p → ∀ p' ∈ done ++ [p], SureP t o p' := fun hs p' hp' => by
          rcases List.mem_append.mp hp' with h | h
          · exact hm p' h
          · simp at h; subst h; exact hs
        have hd' : (done ++ [p]) ++ r = L := by rw [← hd]; simp
        obtain ⟨qs, leaf⟩ := p
        simp only [] at lf qok ql qne
        cases lf with
        | again =>
          have a0' : atD [PyData.str "again"] 0 = some (.str "again") := rfl
          refine .inl ⟨[some t.d, some (spD o), some x, some (lksD qs), some (wrdD qs), some (.tuple [.str "again"]), some .none], .inl ?_, _, r, _, _, _, _, rfl, rfl, hd', go (fun v hv => by simp at hv)⟩
          simp only [pthD]
          generalize lksD qs = L1
          generalize wrdD qs = L2
          simp [forT, sureT, bindT, bindTs, b0__law_is_sure, a0', e_at]
        | tell v hv =>
          obtain ⟨q, qr, rfl⟩ := List.exists_cons_of_ne_nil qne
          have a0' : atD [PyData.str "tell", .int v] 0 = some (.str "tell") := rfl
          have a1' : atD [PyData.str "tell", .int v] 1 = some (.int v) := rfl
          have mk : (∀ hi lo, IsSpan o (fit t q) (qr.map (fit t)) hi lo → valAt t hi ≤ v ∧ v ≤ valAt t lo) → SureP t o (q :: qr, .tuple [.str "tell", .int v]) := fun hs v' hv' q' qs' hq' hi lo s => by
            simp only [PyData.tuple.injEq, List.cons.injEq, PyData.int.injEq, and_true, true_and] at hv'
            subst hv'
            simp only [List.cons.injEq] at hq'
            obtain ⟨rfl, rfl⟩ := hq'
            exact hs hi lo s
          rcases hs t cells tok o q qr qok (by simp at ql; omega) with ⟨hL, e3⟩ | ⟨hi, lo, s, e3⟩
          · refine .inl ⟨[some t.d, some (spD o), some x, some (lksD (q :: qr)), some (wrdD (q :: qr)), some (.tuple [.str "tell", .int v]), some .none], .inl ?_, _, r, _, _, _, _, rfl, rfl, hd', go (mk fun hi lo s => absurd hL s.ne)⟩
            simp only [pthD]
            generalize lksD (q :: qr) = L1 at e3 ⊢
            generalize wrdD (q :: qr) = L2 at e3 ⊢
            simp [forT, sureT, bindT, bindTs, b0__law_is_sure, a0', a1', e_tt, callR, argD, outs, e3]
          · obtain ⟨⟨r1, r2⟩, r3, r4⟩ := s.rng
            have v1 := val_at (t := t) r1 (by omega)
            have v2 := val_at (t := t) r3 (by omega)
            have i0 : atD [PyData.int hi, .int lo] 0 = some (.int hi) := rfl
            have i1 : atD [PyData.int hi, .int lo] 1 = some (.int lo) := rfl
            by_cases hb : valAt t hi ≤ v ∧ v ≤ valAt t lo
            · refine .inl ⟨[some t.d, some (spD o), some x, some (lksD (q :: qr)), some (wrdD (q :: qr)), some (.tuple [.str "tell", .int v]), some (.tuple [.int hi, .int lo])], .inl ?_, _, r, _, _, _, _, rfl, rfl, hd', go (mk fun hi' lo' s' => by obtain ⟨rfl, rfl⟩ := s.uniq s'; exact hb)⟩
              simp only [pthD]
              generalize lksD (q :: qr) = L1 at e3 ⊢
              generalize wrdD (q :: qr) = L2 at e3 ⊢
              simp [forT, sureT, bindT, bindTs, b0__law_is_sure, a0', a1', e_tt, callR, argD, outs, e3, i0, i1, v1, v2, hb.1, hb.2]
            · refine .inr ⟨.bool false, [some t.d, some (spD o), some x, some (lksD (q :: qr)), some (wrdD (q :: qr)), some (.tuple [.str "tell", .int v]), some (.tuple [.int hi, .int lo])], ?_, rfl, _, hpL, fun hs => hb (hs v rfl q qr rfl hi lo s)⟩
              simp only [pthD]
              generalize lksD (q :: qr) = L1 at e3 ⊢
              generalize wrdD (q :: qr) = L2 at e3 ⊢
              by_cases hb1 : valAt t hi ≤ v
              · have hb2 : ¬ v ≤ valAt t lo := fun z => hb ⟨hb1, z⟩
                simp [forT, sureT, bindT, bindTs, b0__law_is_sure, a0', a1', e_tt, callR, argD, outs, e3, i0, i1, v1, v2, hb1, hb2]
              · simp [forT, sureT, bindT, bindTs, b0__law_is_sure, a0', a1', e_tt, callR, argD, outs, e3, i0, i1, v1, v2, hb1])
    (L.map pthD) [some t.d, some (spD o), some x, none, none, none, none] ⟨[], L, none, none, none, none, rfl, rfl, rfl, fun p hp => by cases hp⟩
  rcases key with ⟨ρ, e2, done, rest', a3, a4, a5, a6, hr, rfl, hd, hm⟩ | ⟨v, ρ, e2, rfl, p, hp, hn⟩
  · refine ⟨true, ?_, iff_of_true rfl ?_⟩
    · generalize L.map pthD = LL at e e2
      unfold Df.sem TV.run f__law_is_sure
      simp [Df.ios, iosOf, Sh.isM, callR, argD, outs, e, e2, LIM]
    · have hnil : rest' = [] := by
        cases rest' with
        | nil => rfl
        | cons _ _ => simp at hr
      subst hnil
      rw [List.append_nil] at hd
      rw [← hd]; exact hm
  · refine ⟨false, ?_, ⟨fun z => by simp at z, fun z => absurd (z p hp) hn⟩⟩
    generalize L.map pthD = LL at e e2
    unfold Df.sem TV.run f__law_is_sure
    simp [Df.ios, iosOf, Sh.isM, callR, argD, outs, e, e2, LIM]

end Tx
namespace Tx
open PySem PySem.Spec PyProof.Rows L2 TV
/-- a run is a chain -/
theorem run_ch {o : Option Int} : ∀ {fs : List (List Int)} {f : List Int} {run : List Int}, RunIn o (f :: fs) run → ∃ b, run.headD 0 = b ∧ b ∈ f ∧ Ch o b fs (run.getLastD 0)
  | [], f, [r], h => ⟨r, rfl, h, rfl⟩
  | [], f, [], h => h.elim
  | [], f, _ :: _ :: _, h => h.elim
  | g :: fs, f, [], h => h.elim
  | g :: fs, f, [r], h => h.elim
  | g :: fs, f, r :: r' :: rs, h => by
    obtain ⟨h1, h2, h3⟩ := h
    obtain ⟨b, e, hb, hc⟩ := run_ch h3
    have e : r' = b := e
    subst e
    have el : (r :: r' :: rs).getLastD 0 = (r' :: rs).getLastD 0 := by simp [List.getLastD_cons]
    exact ⟨r, rfl, h1, r', hb, h2, by rw [el]; exact hc⟩
theorem bad_not_sure {t : Tab} {cells : Nat} (tok : TabOk cells t) (vm : VMono t) {o : Option Int} {q : List Int × List Int} {qs : List (List Int × List Int)} {v : Int} {run : List Int} (h : BadRun t o (q :: qs) v run) : ¬ SureP t o (q :: qs, .tuple [.str "tell", .int v]) := fun hs => by
  obtain ⟨h1, h2⟩ := h
  obtain ⟨b, e0, hb, hc⟩ := run_ch (fs := qs.map (fit t)) (f := fit t q) h1
  obtain ⟨hi, lo, s⟩ := span_ex (o := o) (t := t) (q := q) (qs := qs) (fun z => by
    have : run.getLastD 0 ∈ LF o t q qs := mem_lastF.mpr ⟨b, hb, hc⟩
    rw [z] at this; cases this)
  obtain ⟨g1, g2⟩ := hs v rfl q qs rfl hi lo s
  have r := s.rng
  have le := tok.len
  have bh := s.h2 b hb ⟨_, hc⟩
  have ll := s.l2 b hb _ hc
  have br := fit_rng hb
  have er : 0 ≤ run.getLastD 0 ∧ run.getLastD 0 < (t.words.length : Int) := Ch.mem (P := fun x => 0 ≤ x ∧ x < (t.words.length : Int)) hc br fits_rng
  have m1 := val_mono vm br.1 bh (by omega)
  have m2 := val_mono vm r.2.1 ll (by omega)
  exact h2 ⟨by rw [e0]; omega, by omega⟩

end Tx
namespace Tx
open PySem PySem.Spec PyProof.Rows L2 TV
/-- a life of a table -/
def SpOk (o : Option Int) : Prop := ∀ i, o = some i → 0 ≤ i ∧ i ≤ 1000
/-- each state is near the one behind it -/
def NearL (o : Option Int) (life : List Int) : Prop := ∀ (i : Nat) (a b : Int), life[i]? = some a → life[i + 1]? = some b → nearB o a b = true
theorem NearL.snoc {o : Option Int} {life : List Int} {v : Int} (h : NearL o life) (hv : ∀ a, life.getLast? = some a → nearB o a v = true) : NearL o (life ++ [v]) := fun i a b ha hb => by
  have hi : i + 1 < life.length + 1 := by
    have := (List.getElem?_eq_some_iff.mp hb).1
    simpa using this
  rw [List.getElem?_append_left (by omega)] at ha
  rcases Nat.lt_or_ge (i + 1) life.length with hl | hl
  · rw [List.getElem?_append_left hl] at hb
    exact h i a b ha hb
  · have e : i + 1 = life.length := by omega
    rw [List.getElem?_append_right hl, e] at hb
    simp at hb
    subst hb
    refine hv a ?_
    rw [List.getLast?_eq_getElem?, show life.length - 1 = i by omega]
    exact ha
def LifeFn2 (F : Fn) : Prop := ∀ (deep : List Int) (st : Int), DkOk deep st → ∀ (t : Tab) (cells : Nat), TabOk cells t → ∀ (o : Option Int), SpOk o → ∀ (n : Nat), n ≤ 1000 →
  ∃ life deep' st', F [dk deep st, t.d, spD o, .int n] = .ok (tI life) [some (dk deep' st')] ∧ DkOk deep' st' ∧ life.length = n ∧ (∀ s ∈ life, 0 ≤ s ∧ s < t.words.length) ∧ NearL o life
theorem life2_sem {Γ : Nat → Fn} (hd : DrawOk (Γ i__law_draw)) (hp : PickOk (Γ i__law_pick)) : LifeFn2 (f__law_life.sem Γ) := fun deep st ok t cells tok o ho n hn => by
  have t2 := tok.two
  have t200 := tok.many
  obtain ⟨v, d1, s1, e1, v0, v1, ok1⟩ := hd ok t.words.length (by omega)
  obtain ⟨w, hw, d2, s2, e2, ok2⟩ := leaf_pick hp ok1 [0, v] (by simp) (by simp) _ (.inl rfl)
  simp only [List.map_cons, List.map_nil] at e2
  have hw2 : 0 ≤ w ∧ w < t.words.length := by simp at hw; omega
  have a0 : atD [.tuple (t.words.map tI), .tuple (t.vals.map .int)] 0 = some (.tuple (t.words.map tI)) := rfl
  obtain ⟨ρ, e, d3, s3, life, v', a5, a7, rfl, ok3, h1, _, h3, h5, _⟩ := forF_inv (body := forT (Tg.v 5) (exSs Γ b0__law_life))
    (fun rest ρ => ∃ deep st life v a5 a7, ρ = [some (dk deep st), some t.d, some (spD o), some (.int n), some (.int v), a5, some (.list (life.map .int)), a7] ∧ DkOk deep st ∧ life.length + rest.length = n ∧ (0 ≤ v ∧ v < t.words.length) ∧ (∀ s ∈ life, 0 ≤ s ∧ s < (t.words.length : Int)) ∧ NearL o life ∧ ∀ a, life.getLast? = some a → nearB o a v = true)
    (fun d ds ρ ⟨deep, st, life, v, a5, a7, e, ok, h1, h2, h3, h5, h6⟩ => by
      subst e
      obtain ⟨i, hi, d1, s1, e1, ok1⟩ := leaf_pick hp ok [0, 0, 1, 1, 2, 3, 9] (by simp) (by simp) _ (.inl rfl)
      simp only [List.map_cons, List.map_nil] at e1
      have hi2 : 0 ≤ i := by simp at hi; omega
      simp only [List.length_cons] at h1
      have la : life.length < LIM := by unfold LIM; omega
      have fin : ∀ (v' : Int) (b7 : Option D), 0 ≤ v' → v' < t.words.length → nearB o v v' = true → (∃ (deep : List Int) (st : Int) (life2 : List Int) (v2 : Int) (a5 a7 : Option D), [some (dk d1 s1), some t.d, some (spD o), some (PyData.int n), some (.int v'), some d, some (.list ((life ++ [v]).map .int)), b7] = [some (dk deep st), some t.d, some (spD o), some (.int n), some (.int v2), a5, some (.list (life2.map .int)), a7] ∧ DkOk deep st ∧ life2.length + ds.length = n ∧ (0 ≤ v2 ∧ v2 < t.words.length) ∧ (∀ s ∈ life2, 0 ≤ s ∧ s < (t.words.length : Int)) ∧ NearL o life2 ∧ ∀ a, life2.getLast? = some a → nearB o a v2 = true) := fun v' b7 q1 q2 q9 => ⟨d1, s1, life ++ [v], v', some d, b7, rfl, ok1, by simp; omega, ⟨q1, q2⟩, (fun x hx => by
        rcases List.mem_append.mp hx with hx | hx
        · exact h3 x hx
        · simp at hx; subst hx; exact h2), h5.snoc h6, fun a ha => by simp at ha; subst ha; exact q9⟩
      cases o with
      | none =>
        refine ⟨_, .inl ?_, fin (if v + i < (t.words.length : Int) - 1 then v + i else (t.words.length : Int) - 1) (some (.int ((t.words.length : Int) - 1))) (by split <;> omega) (by split <;> omega) (by unfold nearB; simp; split <;> omega)⟩
        simp [b0__law_life, callR, argD, outs, e1, LIM, appD, getPl, setPl, la, Tab.d, a0, spD]
      | some sv =>
        have ⟨q0, q1⟩ := ho sv rfl
        have q2 : 0 ≤ (if (t.words.length : Int) - 1 < v + sv then (t.words.length : Int) - 1 else v + sv) := by split <;> omega
        have q3 : (if (t.words.length : Int) - 1 < v + sv then (t.words.length : Int) - 1 else v + sv) < t.words.length := by split <;> omega
        refine ⟨_, .inl ?_, fin (if v + i < (if (t.words.length : Int) - 1 < v + sv then (t.words.length : Int) - 1 else v + sv) then v + i else (if (t.words.length : Int) - 1 < v + sv then (t.words.length : Int) - 1 else v + sv)) (some (.int (if (t.words.length : Int) - 1 < v + sv then (t.words.length : Int) - 1 else v + sv))) (by split <;> omega) (by split <;> omega) (by unfold nearB; simp; constructor <;> (repeat' split) <;> omega)⟩
        simp [b0__law_life, callR, argD, outs, e1, LIM, appD, getPl, setPl, la, Tab.d, a0, spD])
    (rngD 0 n) [some (dk d2 s2), some t.d, some (spD o), some (.int n), some (.int w), none, some (.list []), none] ⟨d2, s2, [], w, none, none, rfl, ok2, by rw [rngD_len]; simp, hw2, by simp, (fun i a b ha _ => by simp at ha), by simp⟩
  refine ⟨life, d3, s3, ?_, ok3, by simpa using h1, h3, h5⟩
  unfold Df.sem TV.run f__law_life
  simp only [Tab.d] at e1 e2 e
  simp [Df.ios, iosOf, Sh.isM, Tab.d, a0, callR, argD, outs, e1, e2, TV.bindL, rng1K_i (n := (n : Int)) (by unfold LIM; omega) (by unfold LIM; omega), LIM, e, tI]

end Tx
namespace Tx
open PySem PySem.Spec PyProof.Rows L2 TV
def Rd (t : Tab) : List (List Int × List Int) → List Int → Prop
  | [], [] => True
  | q :: qs, r :: rs => r ∈ fit t q ∧ Rd t qs rs
  | _, _ => False
theorem rd_run {t : Tab} {o : Option Int} : ∀ {qs : List (List Int × List Int)} {run : List Int}, RunIn o (qs.map (fit t)) run → Rd t qs run
  | [], [], _ => trivial
  | [], _ :: _, h => h.elim
  | [q], [r], h => ⟨h, trivial⟩
  | [q], [], h => h.elim
  | [q], _ :: _ :: _, h => h.elim
  | q :: q2 :: qs, [], h => h.elim
  | q :: q2 :: qs, [r], h => h.elim
  | q :: q2 :: qs, r :: r2 :: rs, ⟨h1, _, h3⟩ => ⟨h1, rd_run (qs := q2 :: qs) h3⟩
def lastI (r : List Int) : Int := r.getLastD 0
theorem last_some {r : List Int} (h : r ≠ []) : r.getLast? = some (lastI r) := by
  unfold lastI
  rw [List.getLastD_eq_getLast?]
  cases e : r.getLast? with
  | none => exact absurd (List.getLast?_eq_none_iff.mp e) h
  | some y => rfl
def RunOk (t : Tab) (o : Option Int) (n : Nat) (r : List Int) : Prop := r.length = n ∧ (∀ s ∈ r, 0 ≤ s ∧ s < (t.words.length : Int)) ∧ NearL o r
theorem run_last {t : Tab} {o : Option Int} {n : Nat} (hn : 1 ≤ n) {r : List Int} (h : RunOk t o n r) : r.getLast? = some (lastI r) ∧ 0 ≤ lastI r ∧ lastI r < t.words.length := by
  obtain ⟨h1, h2, _⟩ := h
  have hlast := last_some (r := r) (fun e => by subst e; simp at h1; omega)
  exact ⟨hlast, h2 _ (List.mem_of_getLast? hlast)⟩
theorem runIn_ok {t : Tab} {o : Option Int} : ∀ {qs : List (List Int × List Int)} {run : List Int}, RunIn o (qs.map (fit t)) run → RunOk t o qs.length run
  | [], [], h => h.elim
  | [], _ :: _, h => h.elim
  | [q], [r], h => ⟨rfl, fun s hs => by simp at hs; subst hs; exact fit_rng h, fun i a b _ hb => by simp at hb⟩
  | [q], [], h => h.elim
  | [q], _ :: _ :: _, h => h.elim
  | q :: q2 :: qs, [], h => h.elim
  | q :: q2 :: qs, [r], h => h.elim
  | q :: q2 :: qs, r :: r2 :: rs, ⟨h1, h2, h3⟩ => by
    obtain ⟨k1, k2, k3⟩ := runIn_ok (qs := q2 :: qs) h3
    refine ⟨by simpa using k1, fun s hs => ?_, fun i a b ha hb => ?_⟩
    · rcases List.mem_cons.mp hs with rfl | hs
      · exact fit_rng h1
      · exact k2 s hs
    · cases i with
      | zero =>
        simp at ha hb
        subst ha; subst hb
        exact h2
      | succ i => exact k3 i a b (by simpa using ha) (by simpa using hb)
theorem lc_none {α : Type} {g : α → D} {xs : List α} {vs : List Nat} {tg : Tg} {w : TV.Env → R (List D)} {body : TV.Env → R (Option D)} {ρ ρ1 : TV.Env} (hw : w ρ = .ok (xs.map g) ρ1) (hl : xs.length ≤ LIM) (h : ∀ x ∈ xs, lcT vs tg body (g x) (wipeE ρ1 vs) = .ok none (wipeE ρ1 vs)) : lcD vs tg w body ρ = .ok (.list []) (backE ρ1 (wipeE ρ1 vs) vs) := by
  have m := lcF_fm (g := g) (f := fun _ => none) xs h
  have e : xs.filterMap (fun _ => (none : Option D)) = [] := by induction xs with
    | nil => rfl
    | cons x xs ih => simp
  rw [e] at m
  exact lcD_ok hw (by simpa using hl) m
theorem rd_zip {t : Tab} : ∀ {qs : List (List Int × List Int)} {run : List Int}, Rd t qs run → run.length = qs.length ∧ ∀ p ∈ qs.zip run, p.2 ∈ fit t p.1
  | [], [], _ => ⟨rfl, fun p hp => by simp at hp⟩
  | [], _ :: _, h => h.elim
  | _ :: _, [], h => h.elim
  | q :: qs, r :: rs, ⟨h1, h2⟩ => by
    obtain ⟨k1, k2⟩ := rd_zip h2
    refine ⟨by simp [k1], fun p hp => ?_⟩
    rw [List.zip_cons_cons] at hp
    rcases List.mem_cons.mp hp with rfl | hp
    · exact h1
    · exact k2 p hp
theorem run_near {t : Tab} {o : Option Int} {n : Nat} {run : List Int} (h : RunOk t o n run) : ∀ p ∈ run.zip run.tail, nearB o p.1 p.2 = true := fun p hp => by
  obtain ⟨i, hi⟩ := List.getElem?_of_mem hp
  rw [List.getElem?_zip_eq_some, List.getElem?_tail] at hi
  exact h.2.2 i _ _ hi.1 hi.2
theorem tx_int {i : Int} (h : i.natAbs < 10 ^ 13) : TxOk (.int i) := by
  refine ⟨by simp only [tx, decide_eq_true_eq]; exact h, by simp [PyData.depth], by simp [sz, LIM]⟩
theorem any_eq {ss : List Str} {s : Str} (h : s ∈ ss) : (ss.map PyData.str).any (fun z => PyData.eqv z (.str s)) = true := by
  rw [List.any_eq_true]
  exact ⟨.str s, List.mem_map.mpr ⟨s, h, rfl⟩, by simp [PyData.eqv]⟩
theorem nin_no {ss : List Str} {s : Str} (hs : s ∈ ss) (ok : ∀ z ∈ ss, PyData.strOk z = true) : b2 .nin (.str s) (.list (ss.map .str)) = some (.bool false) := by
  have h1 : shaped (.str s) = true := by
    unfold shaped SeqAt.shaped
    rw [pd_lay (d := .str s) (by simp only [pd]; exact ok s hs)]
    simp [PyData.depth]
  have h2 : shaped (.list (ss.map .str)) = true := by
    unfold shaped SeqAt.shaped
    rw [pd_lay (d := .list (ss.map .str)) (by
      simp only [pd]
      exact pds_of fun d hd => by
        obtain ⟨z, hz, rfl⟩ := List.mem_map.mp hd
        simp only [pd]; exact ok z hz)]
    have : PyData.depthAll (ss.map PyData.str) ≤ 0 := depthAll_le fun d hd => by
      obtain ⟨z, _, rfl⟩ := List.mem_map.mp hd
      simp [PyData.depth]
    rw [decide_eq_true (by simp only [PyData.depth]; omega)]
    rfl
  show (inD (.str s) (ss.map .str)).map (fun r => PyData.bool (!r)) = _
  unfold inD
  rw [h1, h2, any_eq hs]
  rfl
def topS (o : Option Int) (many : Nat) : Int := match o with
  | none => many
  | some s => s

end Tx
namespace Tx
open PySem PySem.Spec PyProof.Rows L2 TV
/-! what shows a wrong value -/
def LShowsFn (k : Nat) (F : Fn) : Prop := ∀ (t : Tab) (cells : Nat), TabOk cells t → ∀ o : Option Int, (∀ s, o = some s → 0 ≤ s) → ∀ x : D, Lk cells k x → ∀ (n : Nat) (run : List Int) (q : List Int × List Int) (qs : List (List Int × List Int)) (v : Int),
  (pthF (k + 1) [] x)[n]? = some (q :: qs, .tuple [.str "tell", .int v]) → BadRun t o (q :: qs) v run → F [.tuple [t.d, spD o, x], .tuple [.int (n : Nat), tI run]] = .ok (.bool true) []
theorem repr_fm (n : Nat) : (List.range n).filterMap (fun i : Nat => some (PyData.str (PyData.shown (.int (i : Nat))))) = ((List.range n).map fun i : Nat => PyData.shown (.int (i : Nat))).map .str := by
  rw [show (fun i : Nat => some (PyData.str (PyData.shown (.int (i : Nat))))) = some ∘ (fun i : Nat => PyData.str (PyData.shown (.int (i : Nat)))) from rfl, List.filterMap_eq_map, List.map_map]
  rfl
theorem repr_strs (n : Nat) (hn : n ≤ 70000) : ∀ z ∈ (List.range n).map (fun i : Nat => PyData.shown (.int (i : Nat))), PyData.strOk z = true := fun z hz => by
  obtain ⟨i, hi, rfl⟩ := List.mem_map.mp hz
  rw [List.mem_range] at hi
  exact (tx_sz (.int (i : Nat)) (tx_int (i := (i : Nat)) (by omega)).tx).2.2.2
theorem reprs_lc {Γ : Nat → Fn} {LL : List D} (hl : LL.length ≤ 70000) {a0 a1 a3 a4 a5 a6 a7 a8 a9 a10 a11 a12 a13 a14 a15 : Option D} :
    lcD [11] (Tg.v 11) (evW Γ (W.rng1 (.b1 .len (.v 2)))) (allD (evE Γ e4__law_shows)) [a0, a1, some (.list LL), a3, a4, a5, a6, a7, a8, a9, a10, a11, a12, a13, a14, a15] = .ok (.list (((List.range LL.length).map fun i : Nat => PyData.shown (.int (i : Nat))).map .str)) [a0, a1, some (.list LL), a3, a4, a5, a6, a7, a8, a9, a10, a11, a12, a13, a14, a15] := by
  have m0 := lcF_fm (ρ := [a0, a1, some (.list LL), a3, a4, a5, a6, a7, a8, a9, a10, none, a12, a13, a14, a15]) (body := lcT [11] (Tg.v 11) (allD (evE Γ e4__law_shows))) (g := fun i : Nat => PyData.int (i : Nat)) (f := fun i : Nat => some (PyData.str (PyData.shown (.int (i : Nat))))) (List.range LL.length) (fun i hi => by
    rw [List.mem_range] at hi
    have e := o_repr (tx_int (i := (i : Nat)) (by omega))
    simp [e4__law_shows, lcT, bindT, allD, wipeE, e])
  have hlc := lcD_ok (vs := [11]) (tg := Tg.v 11) (w := evW Γ (W.rng1 (.b1 .len (.v 2)))) (body := allD (evE Γ e4__law_shows)) (ρ := [a0, a1, some (.list LL), a3, a4, a5, a6, a7, a8, a9, a10, a11, a12, a13, a14, a15]) (ρ1 := [a0, a1, some (.list LL), a3, a4, a5, a6, a7, a8, a9, a10, a11, a12, a13, a14, a15]) (ds := rngD 0 (LL.length : Int))
    (by simp [rng1K_i (n := (LL.length : Int)) (by unfold LIM; omega) (by unfold LIM; omega)]) (by rw [rngD_len]; simp [LIM]; omega) (by
      rw [rngD_i, rngI, List.map_map, Int.toNat_natCast]
      exact m0)
  rw [hlc, repr_fm]
  rfl
theorem reprs_lc2 {Γ : Nat → Fn} {t : Tab} (hl : t.words.length ≤ 70000) {a0 a1 a2 a4 a5 a6 a7 a8 a9 a10 a11 a12 a13 a14 a15 : Option D} :
    lcD [11] (Tg.v 11) (evW Γ (W.rng1 (.b1 .len (.b2 .idx (.v 3) (.c (.int 0)))))) (allD (evE Γ e2__law_shows)) [a0, a1, a2, some t.d, a4, a5, a6, a7, a8, a9, a10, a11, a12, a13, a14, a15] = .ok (.list (((List.range t.words.length).map fun i : Nat => PyData.shown (.int (i : Nat))).map .str)) [a0, a1, a2, some t.d, a4, a5, a6, a7, a8, a9, a10, a11, a12, a13, a14, a15] := by
  have a0' : atD [.tuple (t.words.map tI), .tuple (t.vals.map .int)] 0 = some (.tuple (t.words.map tI)) := rfl
  have m0 := lcF_fm (ρ := [a0, a1, a2, some t.d, a4, a5, a6, a7, a8, a9, a10, none, a12, a13, a14, a15]) (body := lcT [11] (Tg.v 11) (allD (evE Γ e2__law_shows))) (g := fun i : Nat => PyData.int (i : Nat)) (f := fun i : Nat => some (PyData.str (PyData.shown (.int (i : Nat))))) (List.range t.words.length) (fun i hi => by
    rw [List.mem_range] at hi
    have e := o_repr (tx_int (i := (i : Nat)) (by omega))
    simp [e2__law_shows, lcT, bindT, allD, wipeE, e])
  have hlc := lcD_ok (vs := [11]) (tg := Tg.v 11) (w := evW Γ (W.rng1 (.b1 .len (.b2 .idx (.v 3) (.c (.int 0)))))) (body := allD (evE Γ e2__law_shows)) (ρ := [a0, a1, a2, some t.d, a4, a5, a6, a7, a8, a9, a10, a11, a12, a13, a14, a15]) (ρ1 := [a0, a1, a2, some t.d, a4, a5, a6, a7, a8, a9, a10, a11, a12, a13, a14, a15]) (ds := rngD 0 (t.words.length : Int))
    (by simp [Tab.d, a0', rng1K_i (n := (t.words.length : Int)) (by unfold LIM; omega) (by unfold LIM; omega)]) (by rw [rngD_len]; simp [LIM]; omega) (by
      rw [rngD_i, rngI, List.map_map, Int.toNat_natCast]
      exact m0)
  rw [hlc, repr_fm]
  rfl
theorem states_lcN {Γ : Nat → Fn} {t : Tab} (ht : t.words.length ≤ 70000) {run : List Int} (hl : run.length ≤ 100) (hr : ∀ s ∈ run, 0 ≤ s ∧ s < (t.words.length : Int)) {a0 a1 a2 a4 a5 a7 a8 a9 a10 a11 a12 a13 a14 a15 : Option D} :
    lcD [12] (Tg.v 12) (evW Γ (W.seq (.v 6))) (ifD (evE Γ c1__law_shows) (evE Γ e3__law_shows)) [a0, a1, a2, some t.d, a4, a5, some (tI run), a7, a8, a9, a10, a11, a12, a13, a14, a15] = .ok (.list []) [a0, a1, a2, some t.d, a4, a5, some (tI run), a7, a8, a9, a10, a11, a12, a13, a14, a15] := by
  rw [lc_none (g := PyData.int) (xs := run) (ρ1 := [a0, a1, a2, some t.d, a4, a5, some (tI run), a7, a8, a9, a10, a11, a12, a13, a14, a15]) (by simp [tI]) (by unfold LIM; omega) (fun s hs => by
    obtain ⟨h1, h2⟩ := hr s hs
    have h3 := reprs_lc2 (Γ := Γ) (t := t) ht (a0 := a0) (a1 := a1) (a2 := a2) (a4 := a4) (a5 := a5) (a6 := some (tI run)) (a7 := a7) (a8 := a8) (a9 := a9) (a10 := a10) (a11 := a11) (a12 := some (.int s)) (a13 := a13) (a14 := a14) (a15 := a15)
    have rp := o_repr (tx_int (i := s) (by omega))
    have hm : PyData.shown (.int s) ∈ (List.range t.words.length).map fun i : Nat => PyData.shown (.int (i : Nat)) := List.mem_map.mpr ⟨s.toNat, List.mem_range.mpr (by omega), by rw [Int.toNat_of_nonneg h1]⟩
    have ni := nin_no hm (repr_strs _ ht)
    generalize ((List.range t.words.length).map fun i : Nat => PyData.shown (.int (i : Nat))).map PyData.str = RR at ni h3
    generalize PyData.shown (.int s) = ss at ni rp
    simp [c1__law_shows, lcT, bindT, ifD, wipeE, rp, h3, ni])]
  rfl
theorem steps_lcN {Γ : Nat → Fn} {t : Tab} {o : Option Int} {n : Nat} {run : List Int} (hl : run.length ≤ 100) (hr : RunOk t o n run) {a0 a1 a2 a3 a4 a5 a8 a9 a10 a11 a12 a13 a14 a15 : Option D} :
    lcD [13, 14] (Tg.t (.cons (.v 13) (.cons (.v 14) .nil))) (evW Γ (W.zip (.v 6) (.b2 .slL (.v 6) (.c (.int 1))))) (ifD (evE Γ c0__law_shows) (evE Γ e1__law_shows)) [a0, a1, a2, a3, a4, a5, some (tI run), some (.int (topS o t.words.length)), a8, a9, a10, a11, a12, a13, a14, a15] = .ok (.list []) [a0, a1, a2, a3, a4, a5, some (tI run), some (.int (topS o t.words.length)), a8, a9, a10, a11, a12, a13, a14, a15] := by
  have zd : zipD (run.map .int) (run.map PyData.int).tail = (run.zip run.tail).map fun p => PyData.tuple [.int p.1, .int p.2] := zip_tail_map run
  have sl : ∀ ds : List D, b2 .slL (.tuple ds) (.int 1) = some (.tuple ds.tail) := fun ds => by
    show some (PyData.tuple (TV.cutD ds (some 1) none)) = _
    rw [cut_tl]
  rw [lc_none (g := fun p : Int × Int => PyData.tuple [.int p.1, .int p.2]) (xs := run.zip run.tail) (ρ1 := [a0, a1, a2, a3, a4, a5, some (tI run), some (.int (topS o t.words.length)), a8, a9, a10, a11, a12, a13, a14, a15]) (by rw [← zd]; simp [tI, sl]) (by rw [List.length_zip]; unfold LIM; omega) (fun p hp => by
    obtain ⟨h1, h2⟩ := near_iff.mp (run_near hr p hp)
    have hm := List.of_mem_zip hp
    have r1 := hr.2.1 _ hm.1
    have r2 := hr.2.1 _ (List.mem_of_mem_tail hm.2)
    have h3 : p.2 ≤ p.1 + topS o t.words.length := by
      cases o with
      | none => simp only [topS]; omega
      | some s => have := h2 s rfl; simp only [topS]; omega
    simp [c0__law_shows, lcT, bindT, bindTs, ifD, wipeE, h1, h3])]
  rfl
abbrev readT : Tg := .t (.cons (.v 15) (.cons (.v 12) .nil))
theorem lread_lc {Γ : Nat → Fn} (hs : ShownFn (Γ i__law_shown)) {t : Tab} {cells : Nat} (tok : TabOk cells t) {qs : List (List Int × List Int)} (hqs : QsOk cells qs) (hl : qs.length ≤ 100) {run : List Int} (hr : Rd t qs run) {a0 a1 a2 a4 a5 a7 a9 a10 a11 a12 a13 a14 a15 : Option D} :
    lcD [12, 15] readT (evW Γ (W.zip (.v 8) (.v 6))) (allD (evE Γ e0__law_shows)) [a0, a1, a2, some t.d, a4, a5, some (tI run), a7, some (lksD qs), a9, a10, a11, a12, a13, a14, a15] = .ok (.list ((qs.map (·.2)).map tI)) [a0, a1, a2, some t.d, a4, a5, some (tI run), a7, some (lksD qs), a9, a10, a11, a12, a13, a14, a15] := by
  obtain ⟨rl, hz⟩ := rd_zip hr
  have m0 := lcF_fm (ρ := [a0, a1, a2, some t.d, a4, a5, some (tI run), a7, some (lksD qs), a9, a10, a11, none, a13, a14, none]) (body := lcT [12, 15] readT (allD (evE Γ e0__law_shows))) (g := fun p : (List Int × List Int) × Int => PyData.tuple [tI p.1.1, .int p.2]) (f := fun p => some (tI p.1.2)) (qs.zip run) (fun p hp => by
    obtain ⟨n, e, hn, hlook⟩ := mem_fit.mp (hz p hp)
    obtain ⟨h1, h2⟩ := hqs p.1 (List.of_mem_zip hp).1
    have e1 := hs tok h1 h2 (ge_words hn)
    rw [hlook, ← e] at e1
    simp [e0__law_shows, lcT, readT, bindT, bindTs, allD, wipeE, callR, argD, outs, e1])
  have fm : (qs.zip run).filterMap (fun p : (List Int × List Int) × Int => some (tI p.1.2)) = (qs.map (·.2)).map tI := by
    rw [show (fun p : (List Int × List Int) × Int => some (tI p.1.2)) = some ∘ ((tI ∘ fun q : List Int × List Int => q.2) ∘ Prod.fst) from rfl, List.filterMap_eq_map, ← List.map_map, List.map_fst_zip (by omega), List.map_map]
  rw [fm] at m0
  have zd : zipD ((qs.map (·.1)).map tI) (run.map .int) = (qs.zip run).map fun p => PyData.tuple [tI p.1.1, .int p.2] := by
    unfold zipD
    rw [List.map_map, List.zip_map, List.map_map]
    rfl
  have hlc := lcD_ok (vs := [12, 15]) (tg := readT) (w := evW Γ (W.zip (.v 8) (.v 6))) (body := allD (evE Γ e0__law_shows)) (ρ := [a0, a1, a2, some t.d, a4, a5, some (tI run), a7, some (lksD qs), a9, a10, a11, a12, a13, a14, a15]) (ρ1 := [a0, a1, a2, some t.d, a4, a5, some (tI run), a7, some (lksD qs), a9, a10, a11, a12, a13, a14, a15]) (ds := (qs.zip run).map fun p => PyData.tuple [tI p.1.1, .int p.2])
    (by rw [← zd]; simp [lksD, tT, tI]) (by simp [LIM]; omega) m0
  rw [hlc]
  rfl
theorem lshows_sem {Γ : Nat → Fn} {k : Nat} (hk : k ≤ 7) (hp : LPathsEx (k + 1) (Γ i__law_paths)) (hsh : ShownFn (Γ i__law_shown)) : LShowsFn k (f__law_shows.sem Γ) := fun t cells tok o ho x hx n run q qs v hn hb => by
  have c3 := tok.c3
  have le := tok.len
  have t1 := tok.many
  have e := hp cells [] x hx.nd (by simp; omega)
  change Γ i__law_paths [x, .tuple [], .tuple []] = _ at e
  obtain ⟨_, qok, ql, _⟩ := pth_ok (by omega) hx (by omega) _ (List.mem_of_getElem? hn)
  have plen := pthF_len (k := k + 1) (qs := []) hx.nd
  have p4 : (4 : Nat) ^ (k + 1) ≤ 4 ^ 8 := Nat.pow_le_pow_right (by decide) (by omega)
  have p8 : (4 : Nat) ^ 8 = 65536 := by decide
  generalize pthF (k + 1) [] x = L at e hn plen
  have nl : n < L.length := (List.getElem?_eq_some_iff.mp hn).1
  have en : atD (L.map pthD) (n : Int) = some (.tuple [lksD (q :: qs), wrdD (q :: qs), .tuple [.str "tell", .int v]]) := atD_at (by rw [List.getElem?_map, hn]; rfl)
  have rp := o_repr (tx_int (i := (n : Nat)) (by omega))
  have ni : b2 .nin (.str (PyData.shown (.int (n : Nat)))) (.list (((List.range (L.map pthD).length).map fun i : Nat => PyData.shown (.int (i : Nat))).map .str)) = some (.bool false) := nin_no (List.mem_map.mpr ⟨n, List.mem_range.mpr (by simpa using nl), rfl⟩) (repr_strs _ (by rw [List.length_map]; omega))
  have hl1 := fun (a0 a1 a3 a4 a5 a6 a7 a8 a9 a10 a11 a12 a13 a14 a15 : Option D) => reprs_lc (Γ := Γ) (LL := L.map pthD) (by rw [List.length_map]; omega) (a0 := a0) (a1 := a1) (a3 := a3) (a4 := a4) (a5 := a5) (a6 := a6) (a7 := a7) (a8 := a8) (a9 := a9) (a10 := a10) (a11 := a11) (a12 := a12) (a13 := a13) (a14 := a14) (a15 := a15)
  generalize (((List.range (L.map pthD).length).map fun i : Nat => PyData.shown (.int (i : Nat))).map PyData.str) = RR at ni hl1
  generalize PyData.shown (.int (n : Nat)) = sn at rp ni
  obtain ⟨h1, h2⟩ := hb
  have rok := runIn_ok h1
  have rl : run.length = qs.length + 1 := rok.1
  have hl2 := fun (a0 a1 a2 a4 a5 a7 a8 a9 a10 a11 a12 a13 a14 a15 : Option D) => states_lcN (Γ := Γ) (t := t) (by omega) (run := run) (by simp at ql; omega) rok.2.1 (a0 := a0) (a1 := a1) (a2 := a2) (a4 := a4) (a5 := a5) (a7 := a7) (a8 := a8) (a9 := a9) (a10 := a10) (a11 := a11) (a12 := a12) (a13 := a13) (a14 := a14) (a15 := a15)
  have hl3 := fun (a0 a1 a2 a3 a4 a5 a8 a9 a10 a11 a12 a13 a14 a15 : Option D) => steps_lcN (Γ := Γ) (by simp at ql; omega) rok (a0 := a0) (a1 := a1) (a2 := a2) (a3 := a3) (a4 := a4) (a5 := a5) (a8 := a8) (a9 := a9) (a10 := a10) (a11 := a11) (a12 := a12) (a13 := a13) (a14 := a14) (a15 := a15)
  have hl4 := fun (a0 a1 a2 a4 a5 a7 a9 a10 a11 a12 a13 a14 a15 : Option D) => lread_lc hsh tok qok ql (rd_run h1) (a0 := a0) (a1 := a1) (a2 := a2) (a4 := a4) (a5 := a5) (a7 := a7) (a9 := a9) (a10 := a10) (a11 := a11) (a12 := a12) (a13 := a13) (a14 := a14) (a15 := a15)
  have wd : (PyData.tuple (((q :: qs).map (·.2)).map tI)) = wrdD (q :: qs) := rfl
  have ew : eqD (wrdD (q :: qs)) (wrdD (q :: qs)) = some true := eqD_yes (by
    simp only [wrdD, tT, pd]
    exact pds_of fun d hd => by obtain ⟨r, _, rfl⟩ := List.mem_map.mp hd; exact tI_pd r) (by
    have : PyData.depthAll (((q :: qs).map (·.2)).map tI) ≤ 1 := depthAll_le fun d hd => by obtain ⟨r, _, rfl⟩ := List.mem_map.mp hd; exact Nat.le_of_eq (tI_dp r)
    simp only [wrdD, tT, PyData.depth]; omega) rfl
  have lk : ((lksD (q :: qs))) = .tuple (((q :: qs).map (·.1)).map tI) := rfl
  have lkl : (((q :: qs).map (·.1)).map tI).length = qs.length + 1 := by simp
  have a0' : atD [.tuple (t.words.map tI), .tuple (t.vals.map .int)] 0 = some (.tuple (t.words.map tI)) := rfl
  have a1' : atD [.tuple (t.words.map tI), .tuple (t.vals.map .int)] 1 = some (.tuple (t.vals.map .int)) := rfl
  have t0' : atD [PyData.int (n : Nat), tI run] 0 = some (.int (n : Nat)) := rfl
  have t1' : atD [PyData.int (n : Nat), tI run] 1 = some (tI run) := rfl
  have b0' : atD [PyData.str "tell", .int v] 0 = some (.str "tell") := rfl
  have b1' : atD [PyData.str "tell", .int v] 1 = some (.int v) := rfl
  have rne : run ≠ [] := fun z => by subst z; simp at rl
  obtain ⟨ls1, l2, l3⟩ := run_last (by simp) rok
  have r0 : atD (run.map PyData.int) 0 = some (.int (run.headD 0)) := by
    cases run with
    | nil => exact absurd rfl rne
    | cons a r => exact atD_at (n := 0) rfl
  have r9 : atD (run.map PyData.int) (-1) = some (.int (lastI run)) := atD_neg (by rw [List.getLast?_map, ls1]; rfl)
  have hh : run.headD 0 ∈ run := by
    cases run with
    | nil => exact absurd rfl rne
    | cons a r => exact List.mem_cons_self
  have hh2 := rok.2.1 _ hh
  have v1 := val_at (t := t) hh2.1 (by omega)
  have v2 := val_at (t := t) l2 (by omega)
  have h2 : ¬ (valAt t (run.headD 0) ≤ v ∧ v ≤ valAt t (lastI run)) := h2
  generalize run.headD 0 = hd at r0 v1 h2
  generalize lastI run = la at r9 v2 h2
  rw [wd.symm] at ew
  rw [wd.symm] at en
  have wl : (((q :: qs).map (·.2)).map tI).length = qs.length + 1 := by simp
  generalize ((q :: qs).map (·.2)).map tI = WW at en hl4 ew wl
  rw [lk] at en hl4
  generalize ((q :: qs).map (·.1)).map tI = KK at en hl4 lkl
  have lL : (L.map pthD).length = L.length := List.length_map _
  generalize L.map pthD = LL at e en hl1
  have it : ∀ xs : List D, b1 .isTup (.tuple xs) = some (.bool true) := fun _ => rfl
  have fin : ∀ (a0 a1 a2 a4 a5 a7 a8 a9 a11 a12 a13 a14 a15 : Option D), evE Γ (.not_ (.ch .le .le (.b2 .idx (.b2 .idx (.v 3) (.c (.int 1))) (.b2 .idx (.v 6) (.c (.int 0)))) (.b2 .idx (.v 10) (.c (.int 1))) (.b2 .idx (.b2 .idx (.v 3) (.c (.int 1))) (.b2 .idx (.v 6) (.b1 .neg (.c (.int 1))))))) [a0, a1, a2, some t.d, a4, a5, some (tI run), a7, a8, a9, some (.tuple [.str "tell", .int v]), a11, a12, a13, a14, a15] = .ok (.bool true) [a0, a1, a2, some t.d, a4, a5, some (tI run), a7, a8, a9, some (.tuple [.str "tell", .int v]), a11, a12, a13, a14, a15] := fun a0 a1 a2 a4 a5 a7 a8 a9 a11 a12 a13 a14 a15 => by
    by_cases c1 : valAt t hd ≤ v
    · have c2 : ¬ v ≤ valAt t la := fun z => h2 ⟨c1, z⟩
      simp [Tab.d, tI, a1', r0, r9, v1, v2, b1', c1, c2]
    · simp [Tab.d, tI, a1', r0, r9, v1, v2, b1', c1]
  have etop : ∀ (a0 a1 a2 a5 a6 a7 a8 a9 a10 a11 a12 a13 a14 a15 : Option D), evE Γ (.ite (.b2 .is_ (.v 4) (.c .none)) (.b1 .len (.b2 .idx (.v 3) (.c (.int 0)))) (.v 4)) [a0, a1, a2, some t.d, some (spD o), a5, a6, a7, a8, a9, a10, a11, a12, a13, a14, a15] = .ok (.int (topS o t.words.length)) [a0, a1, a2, some t.d, some (spD o), a5, a6, a7, a8, a9, a10, a11, a12, a13, a14, a15] := fun a0 a1 a2 a5 a6 a7 a8 a9 a10 a11 a12 a13 a14 a15 => by
    cases o with
    | none => simp [spD, Tab.d, a0', topS]
    | some s => simp [spD, topS]
  have en1 : eqD (.list []) (.list []) = some true := by decide +kernel
  have rlen : (run.map PyData.int).length = qs.length + 1 := by rw [List.length_map, rl]
  generalize topS o t.words.length = TP at *
  generalize spD o = SP at *
  have hB : ∀ (a11 a12 a13 a14 a15 : Option D), exSs Γ (Sdr f__law_shows.body 6) [some (.tuple [t.d, SP, x]), some (.tuple [.int (n : Nat), tI run]), some (.list LL), some t.d, some SP, some x, some (tI run), some (.int TP), some (.tuple KK), some (.tuple WW), some (.tuple [.str "tell", .int v]), a11, a12, a13, a14, a15] = .ret (.bool true) [some (.tuple [t.d, SP, x]), some (.tuple [.int (n : Nat), tI run]), some (.list LL), some t.d, some SP, some x, some (tI run), some (.int TP), some (.tuple KK), some (.tuple WW), some (.tuple [.str "tell", .int v]), a11, a12, a13, a14, a15] := fun a11 a12 a13 a14 a15 => by
    simp only [f__law_shows, Sdr]
    generalize t.d = TD at *
    simp only [tI] at *
    simp [-e_not, hl2, hl3, hl4, en1, LIM, wl, ew, fin]
  have h : exSs Γ f__law_shows.body [some (.tuple [t.d, SP, x]), some (.tuple [.int (n : Nat), tI run]), none, none, none, none, none, none, none, none, none, none, none, none, none, none] = .ret (.bool true) [some (.tuple [t.d, SP, x]), some (.tuple [.int (n : Nat), tI run]), some (.list LL), some t.d, some SP, some x, some (tI run), some (.int TP), some (.tuple KK), some (.tuple WW), some (.tuple [.str "tell", .int v]), none, none, none, none, none] := by
    have hb : f__law_shows.body = .cons _ (.cons _ (.cons _ (.cons _ (.cons _ (.cons _ (Sdr f__law_shows.body 6)))))) := rfl
    rw [hb]
    generalize Sdr f__law_shows.body 6 = TT at hB ⊢
    generalize t.d = TD at *
    simp only [tI] at *
    simp [-e_ite, b0', e_tt, rlen, lkl, callR, argD, outs, e, LIM, it, eq_int, t0', rp, hl1, ni, en, bindT, bindTs, t1', etop]
    exact hB none none none none none
  show TV.run Γ 16 [] true f__law_shows.body _ = _
  rw [run_ret h]
  rfl

end Tx
namespace Tx
open PySem PySem.Spec PyProof.Rows L2 TV
theorem Lk.fits {c : Nat} (hc : c ≤ 3) {k : Nat} {x : D} (h : Lk c k x) : pd x = true ∧ x.depth ≤ 3 * k + 4 ∧ tx x = true ∧ sz x ≤ NB (k + 1) := Nd.fits hc h.nd
theorem Tab.fits {t : Tab} {c : Nat} (ok : TabOk c t) (v : ValsOk t) : t.d.depth ≤ 3 ∧ tx t.d = true ∧ sz t.d ≤ 20000 := by
  have c3 := ok.c3
  have m2 := ok.many
  have le := ok.len
  have q : ∀ d ∈ t.words.map tI, d.depth ≤ 1 ∧ tx d = true ∧ sz d ≤ 51 := fun d hd => by
    obtain ⟨r, hr, rfl⟩ := List.mem_map.mp hd
    obtain ⟨h1, h2⟩ := ok.row r hr
    have := tI_sz r
    exact ⟨Nat.le_of_eq (tI_dp r), tI_tx fun i hi => by have := h2 i hi; omega, by omega⟩
  have q1 := depthAll_le fun d hd => (q d hd).1
  have q2 := txs_of fun d hd => (q d hd).2.1
  have q3 := szs_le fun d hd => (q d hd).2.2
  have v1 := tI_dp t.vals
  have v2 : tx (tI t.vals) = true := tI_tx fun i hi => by have := v.2.2 i hi; omega
  have v3 := tI_sz t.vals
  simp only [List.length_map] at q3
  have e : t.d = .tuple [.tuple (t.words.map tI), tI t.vals] := rfl
  rw [e]
  refine ⟨?_, ?_, ?_⟩
  · simp only [PyData.depth, PyData.depthAll, v1]; omega
  · simp only [tx, txs, q2, v2, Bool.and_self]
  · simp only [sz, szs]; omega
theorem ents_tx {es : List D} {n : Nat} (h : ∀ d ∈ es, EntOk d) (hl : es.length ≤ n) : (PyData.tuple es).depth ≤ 2 ∧ tx (.tuple es) = true ∧ sz (.tuple es) ≤ 53 * n + 3 := by
  have q1 := depthAll_le fun d hd => (h d hd).2.1
  have q2 := txs_of fun d hd => (h d hd).2.2.1
  have q3 := szs_le fun d hd => (h d hd).2.2.2
  have q4 : (51 + 2) * es.length ≤ (51 + 2) * n := Nat.mul_le_mul_left _ hl
  refine ⟨?_, ?_, ?_⟩
  · simp only [PyData.depth]; omega
  · simpa only [tx] using q2
  · simp only [sz]; omega
theorem spD_fits {o : Option Int} (ho : ∀ s, o = some s → 0 ≤ s ∧ s ≤ 1000) : (spD o).depth = 0 ∧ tx (spD o) = true ∧ sz (spD o) ≤ 14 := by
  cases o with
  | none => exact ⟨rfl, rfl, by decide⟩
  | some s =>
    have := ho s rfl
    refine ⟨rfl, ?_, Nat.le_refl _⟩
    simp only [spD, tx, decide_eq_true_eq]; omega
/-- looks and sights are small -/
def QQ (q : List Int × List Int) : Prop := (tx (tI q.1) = true ∧ sz (tI q.1) ≤ 51) ∧ tx (tI q.2) = true ∧ sz (tI q.2) ≤ 51
theorem pth_qq {c : Nat} (hc : c ≤ 3) : ∀ {k : Nat} {qs : List (List Int × List Int)} {x : D}, Nd c k x → (∀ q ∈ qs, QQ q) → ∀ p ∈ pthF k qs x, Leaf p.2 ∧ (∀ q ∈ p.1, QQ q) ∧ p.1.length ≤ qs.length + k := by
  intro k
  induction k with
  | zero =>
    intro qs x hx hq p hp
    rw [pthF_leaf (k := 0) hx, List.mem_singleton] at hp
    subst hp
    exact ⟨hx, hq, by simp⟩
  | succ k ih =>
    intro qs x hx hq p hp
    rcases hx with h | ⟨lot, ps, ⟨l1, l2, l3⟩, h4, h5, rfl⟩
    · rw [pthF_leaf h, List.mem_singleton] at hp
      subst hp
      exact ⟨h, hq, by simp⟩
    · rw [pthF_look] at hp
      obtain ⟨b, hb, hp⟩ := List.mem_flatMap.mp hp
      obtain ⟨⟨s1, s2⟩, nb⟩ := h5 b hb
      have ll : lot.length ≤ 3 := by omega
      have z1 := tI_sz lot
      have z2 := tI_sz b.1
      obtain ⟨r1, r2, r3⟩ := ih nb (fun q hqm => by
        rcases List.mem_append.mp hqm with hqm | hqm
        · exact hq q hqm
        · rw [List.mem_singleton] at hqm
          subst hqm
          exact ⟨⟨tI_tx fun i hi => by have := l3 i hi; omega, by show sz (tI lot) ≤ 51; omega⟩, tI_tx fun i hi => by have := s2 i hi; omega, by show sz (tI b.1) ≤ 51; omega⟩) p hp
      refine ⟨r1, r2, ?_⟩
      rw [List.length_append] at r3
      simp only [List.length_cons, List.length_nil] at r3
      omega
theorem tT_fits {xs : List (List Int)} {n : Nat} (h : ∀ r ∈ xs, tx (tI r) = true ∧ sz (tI r) ≤ 51) (hl : xs.length ≤ n) : (tT xs).depth ≤ 2 ∧ tx (tT xs) = true ∧ sz (tT xs) ≤ 53 * n + 3 := by
  have q1 : PyData.depthAll (xs.map tI) ≤ 1 := depthAll_le fun d hd => by obtain ⟨r, _, rfl⟩ := List.mem_map.mp hd; exact Nat.le_of_eq (tI_dp r)
  have q2 : txs (xs.map tI) = true := txs_of fun d hd => by obtain ⟨r, hr, rfl⟩ := List.mem_map.mp hd; exact (h r hr).1
  have q3 : szs (xs.map tI) ≤ (51 + 2) * (xs.map tI).length := szs_le fun d hd => by obtain ⟨r, hr, rfl⟩ := List.mem_map.mp hd; exact (h r hr).2
  rw [List.length_map] at q3
  have q4 : 53 * xs.length ≤ 53 * n := Nat.mul_le_mul_left _ hl
  refine ⟨?_, ?_, ?_⟩
  · simp only [tT, PyData.depth]; omega
  · simp only [tT, tx, q2]
  · simp only [tT, sz]; omega
theorem pthD_fits {p : Pth} (hl : Leaf p.2) (hq : ∀ q ∈ p.1, QQ q) (h3 : p.1.length ≤ 3) : (pthD p).depth ≤ 3 ∧ tx (pthD p) = true ∧ sz (pthD p) ≤ 370 := by
  obtain ⟨_, l1, l2, l3⟩ := hl.fits
  obtain ⟨a1, a2, a3⟩ := tT_fits (xs := p.1.map (·.1)) (n := 3) (fun r hr => by obtain ⟨q, hqm, rfl⟩ := List.mem_map.mp hr; exact (hq q hqm).1) (by simpa using h3)
  obtain ⟨b1, b2, b3⟩ := tT_fits (xs := p.1.map (·.2)) (n := 3) (fun r hr => by obtain ⟨q, hqm, rfl⟩ := List.mem_map.mp hr; exact (hq q hqm).2) (by simpa using h3)
  have e : pthD p = .tuple [tT (p.1.map (·.1)), tT (p.1.map (·.2)), p.2] := rfl
  rw [e]
  generalize tT (p.1.map (·.1)) = X at *
  generalize tT (p.1.map (·.2)) = Y at *
  refine ⟨?_, ?_, ?_⟩
  · simp only [PyData.depth, PyData.depthAll]; omega
  · simp only [tx, txs, a2, b2, l2, Bool.and_self]
  · simp only [sz, szs]; omega
theorem pths_fits {c : Nat} (hc : c ≤ 3) {x : D} (hx : Lk c 2 x) : (PyData.tuple ((pthF 3 [] x).map pthD)).depth ≤ 4 ∧ tx (.tuple ((pthF 3 [] x).map pthD)) = true ∧ sz (.tuple ((pthF 3 [] x).map pthD)) ≤ 24000 := by
  have key : ∀ d ∈ (pthF 3 [] x).map pthD, d.depth ≤ 3 ∧ tx d = true ∧ sz d ≤ 370 := fun d hd => by
    obtain ⟨p, hp, rfl⟩ := List.mem_map.mp hd
    obtain ⟨h1, h2, h3⟩ := pth_qq hc hx.nd (qs := []) (fun q hq => by cases hq) p hp
    exact pthD_fits h1 h2 (by simpa using h3)
  have q1 := depthAll_le fun d hd => (key d hd).1
  have q2 := txs_of fun d hd => (key d hd).2.1
  have q3 := szs_le fun d hd => (key d hd).2.2
  have q4 := pthF_len (k := 3) (qs := []) hx.nd
  rw [List.length_map] at q3
  refine ⟨?_, ?_, ?_⟩
  · simp only [PyData.depth]; omega
  · simp only [tx, q2]
  · simp only [sz]; omega
/-- a small text -/
structure Fit (d : D) (dp n : Nat) : Prop where
  dp : d.depth ≤ dp
  tx : tx d = true
  sz : sz d ≤ n
theorem Fit.mk2 {a b : D} {p n m : Nat} (h1 : Fit a p n) (h2 : Fit b p m) : Fit (.tuple [a, b]) (p + 1) (n + m + 7) := by
  obtain ⟨a1, a2, a3⟩ := h1
  obtain ⟨b1, b2, b3⟩ := h2
  refine ⟨?_, ?_, ?_⟩
  · simp only [PyData.depth, PyData.depthAll]; omega
  · simp only [Tx.tx, txs, a2, b2, Bool.and_self]
  · simp only [Tx.sz, szs]; omega
theorem Fit.mk1 {a : D} {p n : Nat} (h1 : Fit a p n) : Fit (.tuple [a]) (p + 1) (n + 5) := by
  obtain ⟨a1, a2, a3⟩ := h1
  refine ⟨?_, ?_, ?_⟩
  · simp only [PyData.depth, PyData.depthAll]; omega
  · simp only [Tx.tx, txs, a2, Bool.and_self]
  · simp only [Tx.sz, szs]; omega
theorem Fit.mk3 {a b c : D} {p n m k : Nat} (h1 : Fit a p n) (h2 : Fit b p m) (h3 : Fit c p k) : Fit (.tuple [a, b, c]) (p + 1) (n + m + k + 9) := by
  obtain ⟨a1, a2, a3⟩ := h1
  obtain ⟨b1, b2, b3⟩ := h2
  obtain ⟨c1, c2, c3⟩ := h3
  refine ⟨?_, ?_, ?_⟩
  · simp only [PyData.depth, PyData.depthAll]; omega
  · simp only [Tx.tx, txs, a2, b2, c2, Bool.and_self]
  · simp only [Tx.sz, szs]; omega
theorem Fit.le {d : D} {p q n m : Nat} (h : Fit d p n) (h1 : p ≤ q) (h2 : n ≤ m) : Fit d q m := ⟨Nat.le_trans h.dp h1, h.tx, Nat.le_trans h.sz h2⟩
theorem Fit.txok {d : D} {p n : Nat} (h : Fit d p n) (h1 : p ≤ 64) (h2 : n ≤ 1000000) : TxOk d := ⟨h.tx, Nat.le_trans h.dp h1, Nat.le_trans h.sz h2⟩
theorem fit_tab {t : Tab} {c : Nat} (ok : TabOk c t) (v : ValsOk t) : Fit t.d 14 20000 := by
  obtain ⟨h1, h2, h3⟩ := Tab.fits ok v
  exact ⟨by omega, h2, h3⟩
theorem NB3 : NB 3 = 8727 := rfl
theorem fit_rd {c : Nat} (hc : c ≤ 3) {x : D} (h : Lk c 2 x) : Fit x 14 8727 := by
  obtain ⟨_, h1, h2, h3⟩ := Lk.fits hc h
  exact ⟨by omega, h2, by rw [← NB3]; exact h3⟩
theorem fit_sp {o : Option Int} (ho : ∀ s, o = some s → 0 ≤ s ∧ s ≤ 1000) : Fit (spD o) 14 14 := by
  obtain ⟨h1, h2, h3⟩ := spD_fits ho
  exact ⟨by omega, h2, h3⟩
theorem fit_life {life : List Int} (hl : life.length ≤ 20) (h : ∀ s ∈ life, 0 ≤ s ∧ s < 1000) : Fit (tI life) 14 323 := by
  have := tI_sz life
  have e := tI_dp life
  exact ⟨by omega, tI_tx fun i hi => by have := h i hi; omega, by omega⟩
theorem fit_ents {es : List D} (h : ∀ d ∈ es, EntOk d) (hl : es.length ≤ 20) : Fit (.tuple es) 16 1063 := by
  obtain ⟨h1, h2, h3⟩ := ents_tx h hl
  exact ⟨by omega, h2, by omega⟩
theorem fit_pths {c : Nat} (hc : c ≤ 3) {x : D} (hx : Lk c 2 x) : Fit (.tuple ((pthF 3 [] x).map pthD)) 16 24000 := by
  obtain ⟨h1, h2, h3⟩ := pths_fits hc hx
  exact ⟨by omega, h2, h3⟩
theorem fit_none : Fit .none 16 5 := ⟨by decide, rfl, Nat.le_refl _⟩
theorem fit_bool (b : Bool) : Fit (.bool b) 16 5 := ⟨by cases b <;> decide, rfl, Nat.le_refl _⟩
theorem fit_int {i : Int} (h : i.natAbs < 10 ^ 13) : Fit (.int i) 14 14 := ⟨by simp [PyData.depth], by simp only [tx, decide_eq_true_eq]; exact h, Nat.le_refl _⟩

end Tx
namespace Tx
open PySem PySem.Spec PyProof.Rows L2 TV
theorem spd_pick {Γ : Nat → Fn} (hp : PickOk (Γ i__law_pick)) {deep : List Int} {st : Int} (ok : DkOk deep st) (os : List (Option Int)) (hne : os ≠ []) (hl : os.length ≤ 1000) :
    ∃ o deep' st', Γ i__law_pick [dk deep st, .list (os.map spD)] = .ok (spD o) [some (dk deep' st')] ∧ o ∈ os ∧ DkOk deep' st' := by
  obtain ⟨y, hy, d', s', e, o⟩ := hp ok (os.map spD) (by simpa using hne) (by simp; omega) _ (.inl rfl)
  obtain ⟨sp, hsp, rfl⟩ := List.mem_map.mp hy
  exact ⟨sp, d', s', e, hsp, o⟩
/-! what is asked -/
abbrev ask (w : Str) (own due : D) : D := .tuple [.str w, own, due]
def asksD (t : Tab) (o : Option Int) (x fx : D) (life : List Int) (es : List D) (b : Bool) : List D :=
  [ask "error" (.tuple [t.d, x]) .none, ask "paths" (.tuple [x]) (.tuple ((pthF 3 [] x).map pthD)), ask "filled" (.tuple [t.d, spD o, x]) fx,
   ask "tells" (.tuple [t.d, x, tI life]) (.tuple es), ask "wrong" (.tuple [t.d, spD o, fx]) (.bool true), ask "wrong" (.tuple [t.d, spD o, x]) (.bool b)]
def AsksFn (G F : Fn) : Prop := ∀ (deep : List Int) (st : Int), DkOk deep st → ∀ (t : Tab) (cells : Nat), TabOk cells t → ValsOk t → t.words.length ≤ 60 → 
  ∃ (o : Option Int) (x : D) (life : List Int) (es : List D) (b : Bool) (deep' : List Int) (st' : Int), F [dk deep st, t.d] = .ok (.list (asksD t o x (fillF t o 3 [] x) life es b)) [some (dk deep' st')] ∧ DkOk deep' st' ∧
    (∀ s, o = some s → 0 ≤ s ∧ s ≤ 1000) ∧ (Lk cells 2 x ∧ Uq 4 x ∧ cntN 4 x ≤ 60) ∧ life.length ≤ 20 ∧ (∀ s ∈ life, 0 ≤ s ∧ s < t.words.length) ∧ (G [t.d, x, tI life] = .ok (.tuple es) [] ∧ es.length ≤ 20 ∧ ∀ d ∈ es, EntOk d) ∧ (b = true ↔ ∀ p ∈ pthF 3 [] x, SureP t o p)
structure As0 (Γ : Nat → Fn) (G : Fn) : Prop where
  draw : DrawOk (Γ i__law_draw)
  pick : PickOk (Γ i__law_pick)
  reader : ReaderFn (Γ i__law_reader)
  life : LifeFn2 (Γ i__law_life)
  fill : LFillFn 3 (Γ i__law_filled)
  paths : LPathsEx 3 (Γ i__law_paths)
  tells : ∃ F, TellsFn F G
  same : Γ i__law_tells = G
  sure : IsSureEx 2 (Γ i__law_is_sure)
theorem o_addLi {xs ys : List D} : b2 .addL (.list xs) (.list ys) = if xs.length + ys.length ≤ LIM then some (.list (xs ++ ys)) else none := rfl
theorem o_addi {xs ys : List D} : b2 .add (.list xs) (.list ys) = if xs.length + ys.length ≤ LIM then some (.list (xs ++ ys)) else none := rfl
theorem asks_sem {Γ : Nat → Fn} {G : Fn} (as : As0 Γ G) : AsksFn G (f__law_asks.sem Γ) := fun deep st ok t cells tok vok t60 => by
  have c3 := tok.c3
  obtain ⟨o, d1, s1, e1, ho, ok1⟩ := spd_pick as.pick ok [none, some 0, some 1, some 2] (by simp) (by simp)
  change Γ i__law_pick [dk deep st, .list [.none, .int 0, .int 1, .int 2]] = .ok (spD o) _ at e1
  have ho2 : ∀ s, o = some s → 0 ≤ s ∧ s ≤ 1000 := fun s h => by subst h; simp at ho; omega
  obtain ⟨v, d2, s2, e2, v0, v1, ok2⟩ := as.draw ok1 3 (by decide)
  obtain ⟨x, d3, s3, e3, ⟨lx, ux, cx⟩, ok3⟩ := as.reader ok2 tok vok t60 (1 + v) (by omega)
  obtain ⟨m, hm, d4, s4, e4, ok4⟩ := leaf_pick as.pick ok3 [3, 9, 20] (by simp) (by simp) _ (.inl rfl)
  simp only [List.map_cons, List.map_nil] at e4
  have hm2 : 0 ≤ m ∧ m ≤ 20 := by simp at hm; omega
  obtain ⟨n, rfl⟩ := Int.eq_ofNat_of_zero_le hm2.1
  obtain ⟨life, d5, s5, e5, ok5, l1, l2, _⟩ := as.life d4 s4 ok4 t cells tok o ho2 n (by omega)
  have e6 := as.fill t cells tok o [] (fun q hq => by cases hq) (by simp) x ⟨lx.nd, fun _ => ⟨2, rfl, lx⟩⟩
  change Γ i__law_filled [t.d, spD o, x, .tuple [], .tuple []] = _ at e6
  have e7 := as.paths cells [] x lx.nd (by simp)
  change Γ i__law_paths [x, .tuple [], .tuple []] = _ at e7
  obtain ⟨F, hF⟩ := as.tells
  obtain ⟨es, _, e8, l3, hes⟩ := hF tok (lx.upn 1) (life := life) (by omega) (fun s hs => l2 s hs)
  obtain ⟨b, e9, hb⟩ := as.sure t cells tok o x lx
  refine ⟨o, x, life, es, b, d5, s5, ?_, ok5, ho2, ⟨lx, ux, cx⟩, by omega, l2, ⟨e8, by omega, hes⟩, hb⟩
  rw [← as.same] at e8
  unfold Df.sem TV.run f__law_asks asksD
  generalize fillF t o 3 [] x = FX at *
  generalize (pthF 3 [] x).map pthD = PP at *
  generalize t.d = TD at *
  generalize spD o = SP at *
  generalize tI life = LF at *
  simp [Df.ios, iosOf, Sh.isM, callR, argD, outs, LIM, e1, e2, e3, e4, e5, e6, e7, e8, e9, appD, getPl, setPl, addOD, o_addLi, o_addi]

end Tx
namespace Tx
open PySem PySem.Spec PyProof.Rows L2 TV
/-! what a def tells -/
structure Ts (Γ : Nat → Fn) : Prop where
  err : RErrFn (Γ i_reader_error)
  paths : PofEx 3 (Γ i_paths_of)
  fill : FrFn 2 (Γ i_filled_reader)
  tells : ∀ Γ' : Nat → Fn, TellsFn (Γ i_tells_in) (f__law_tells.sem Γ')
  wp : WpFn 2 (Γ i_wrong_path)

theorem w_pe : eqD (.str "paths") (.str "error") = some false := by decide +kernel
theorem w_pp : eqD (.str "paths") (.str "paths") = some true := by decide +kernel
theorem w_fe : eqD (.str "filled") (.str "error") = some false := by decide +kernel
theorem w_fp : eqD (.str "filled") (.str "paths") = some false := by decide +kernel
theorem w_ff : eqD (.str "filled") (.str "filled") = some true := by decide +kernel
theorem w_te : eqD (.str "tells") (.str "error") = some false := by decide +kernel
theorem w_tp : eqD (.str "tells") (.str "paths") = some false := by decide +kernel
theorem w_tf : eqD (.str "tells") (.str "filled") = some false := by decide +kernel
theorem w_tt : eqD (.str "tells") (.str "tells") = some true := by decide +kernel
theorem w_we : eqD (.str "wrong") (.str "error") = some false := by decide +kernel
theorem w_wp : eqD (.str "wrong") (.str "paths") = some false := by decide +kernel
theorem w_wf : eqD (.str "wrong") (.str "filled") = some false := by decide +kernel
theorem w_wt : eqD (.str "wrong") (.str "tells") = some false := by decide +kernel
theorem w_ee : eqD (.str "error") (.str "error") = some true := by decide +kernel
theorem told_e {Γ : Nat → Fn} {td x r : D} (h : Γ i_reader_error [td, x] = .ok r []) (b : Bool) : f__law_told.sem Γ [.str "error", .tuple [td, x], .bool b] = .ok r [] := by
  have a0' : atD [td, x] 0 = some td := rfl
  have a1' : atD [td, x] 1 = some x := rfl
  unfold Df.sem TV.run f__law_told
  cases b <;> simp [Df.ios, iosOf, Sh.isM, w_ee, permA, callR, argD, outs, a0', a1', h]
theorem told_p {Γ : Nat → Fn} {x r : D} (h : Γ i_paths_of [x] = .ok r []) (b : Bool) : f__law_told.sem Γ [.str "paths", .tuple [x], .bool b] = .ok r [] := by
  have a0' : atD [x] 0 = some x := rfl
  unfold Df.sem TV.run f__law_told
  cases b <;> simp [Df.ios, iosOf, Sh.isM, w_pe, w_pp, permA, callR, argD, outs, a0', h]
theorem told_f {Γ : Nat → Fn} {td sp x r : D} (h : Γ i_filled_reader [td, sp, x] = .ok r []) (b : Bool) : f__law_told.sem Γ [.str "filled", .tuple [td, sp, x], .bool b] = .ok r [] := by
  have a0' : atD [td, sp, x] 0 = some td := rfl
  have a1' : atD [td, sp, x] 1 = some sp := rfl
  have a2' : atD [td, sp, x] 2 = some x := rfl
  unfold Df.sem TV.run f__law_told
  cases b <;> simp [Df.ios, iosOf, Sh.isM, w_fe, w_fp, w_ff, permA, callR, argD, outs, a0', a1', a2', h]
theorem told_t {Γ : Nat → Fn} {td x lf r : D} (h : Γ i_tells_in [td, x, lf] = .ok r []) (b : Bool) : f__law_told.sem Γ [.str "tells", .tuple [td, x, lf], .bool b] = .ok r [] := by
  have a0' : atD [td, x, lf] 0 = some td := rfl
  have a1' : atD [td, x, lf] 1 = some x := rfl
  have a2' : atD [td, x, lf] 2 = some lf := rfl
  unfold Df.sem TV.run f__law_told
  cases b <;> simp [Df.ios, iosOf, Sh.isM, w_te, w_tp, w_tf, w_tt, permA, callR, argD, outs, a0', a1', a2', h]
theorem told_w {Γ : Nat → Fn} {td sp x r : D} (h : Γ i_wrong_path [td, sp, x] = .ok r []) (b : Bool) : f__law_told.sem Γ [.str "wrong", .tuple [td, sp, x], .bool b] = .ok r [] := by
  have a0' : atD [td, sp, x] 0 = some td := rfl
  have a1' : atD [td, sp, x] 1 = some sp := rfl
  have a2' : atD [td, sp, x] 2 = some x := rfl
  unfold Df.sem TV.run f__law_told
  cases b <;> simp [Df.ios, iosOf, Sh.isM, w_we, w_wp, w_wf, w_wt, permA, callR, argD, outs, a0', a1', a2', h]

end Tx
namespace Tx
open PySem PySem.Spec PyProof.Rows L2 TV
def AskOk (T S : Fn) (d told : D) : Prop := ∃ (w : Str) (own due : D) (wb : Bool), d = .tuple [.str w, own, due] ∧ eqD (.str w) (.str "wrong") = some wb ∧ TxOk told ∧ (∀ b : Bool, T [.str w, own, .bool b] = .ok told []) ∧
  (wb = false → told = due) ∧ (wb = true → ∃ db : Bool, due = .bool db ∧ ((told = .none ∧ db = true) ∨ ∃ xs, told = .tuple xs ∧ db = false ∧ S [own, told] = .ok (.bool true) []))
theorem w_ew : eqD (.str "error") (.str "wrong") = some false := by decide +kernel
theorem w_pw : eqD (.str "paths") (.str "wrong") = some false := by decide +kernel
theorem w_fw : eqD (.str "filled") (.str "wrong") = some false := by decide +kernel
theorem w_tw : eqD (.str "tells") (.str "wrong") = some false := by decide +kernel
theorem w_ww : eqD (.str "wrong") (.str "wrong") = some true := by decide +kernel
theorem fit_w {w : Str} (h1 : (reprText w).length ≤ 12) (h2 : PyData.strOk (reprText w) = true) : Fit (.str w) 16 12 := ⟨by simp [PyData.depth], by simp only [tx, h2, decide_eq_true h1, Bool.and_self], Nat.le_refl _⟩
theorem fw_e : Fit (.str "error") 16 12 := fit_w (by decide +kernel) (by decide +kernel)
theorem fw_p : Fit (.str "paths") 16 12 := fit_w (by decide +kernel) (by decide +kernel)
theorem fw_f : Fit (.str "filled") 16 12 := fit_w (by decide +kernel) (by decide +kernel)
theorem fw_t : Fit (.str "tells") 16 12 := fit_w (by decide +kernel) (by decide +kernel)
theorem fw_w : Fit (.str "wrong") 16 12 := fit_w (by decide +kernel) (by decide +kernel)
theorem asks_ok {Γ : Nat → Fn} {S G : Fn} (ts : Ts Γ) (sh : LShowsFn 2 S) {t : Tab} {cells : Nat} (tok : TabOk cells t) (vok : ValsOk t) (vm : VMono t) {o : Option Int} (ho : ∀ s, o = some s → 0 ≤ s ∧ s ≤ 1000) {x : D} (lx : Lk cells 2 x) (ux : Uq 4 x) (cx : cntN 4 x ≤ 60) {life : List Int} (hl : life.length ≤ 20) (hlife : ∀ s ∈ life, 0 ≤ s ∧ s < t.words.length) (hG : ∃ Γ', G = f__law_tells.sem Γ') {es : List D} (hg : G [t.d, x, tI life] = .ok (.tuple es) []) (he : es.length ≤ 20) (hes : ∀ d ∈ es, EntOk d) {b : Bool} (hb : b = true ↔ ∀ p ∈ pthF 3 [] x, SureP t o p) :
    ∀ d ∈ asksD t o x (fillF t o 3 [] x) life es b, (∃ told, AskOk (f__law_told.sem Γ) S d told) ∧ Fit d 30 60000 := fun d hd => by
  have c3 := tok.c3
  have many := tok.many
  obtain ⟨lf, af⟩ := fillF_lk tok vok o (k := 2) (qs := []) lx
  change Lk cells 2 (fillF t o 3 [] x) at lf
  change AllL cells (fun p => p.2 = leafOf t o p.1) 2 [] (fillF t o 3 [] x) at af
  have fx1 : ∀ p ∈ pthF 3 [] (fillF t o 3 [] x), SureP t o p := fun p hp => by
    obtain ⟨_, q, _⟩ := pthF_all (af.imp (c := cells) (by omega) (fun q hq => by cases hq) (n := 100) (by simp)) p hp
    exact leafOf_sure tok vok vm (Slow.refl o) p q
  have ft := fit_tab tok vok
  have frx := fit_rd c3 lx
  have frf := fit_rd c3 lf
  have fsp := fit_sp ho
  have fli := fit_life hl (fun s hs => by have := hlife s hs; omega)
  have fes := fit_ents hes he
  have fpa := fit_pths c3 lx
  have e1 := ts.err t cells tok c3 x lx.nd.up ux cx (by obtain ⟨lot, ps, _, _, _, e⟩ := lx; exact ⟨lot, ps, e⟩)
  have e2 := ts.paths cells x lx.nd
  have e3 := ts.fill t cells tok o x lx
  change Γ i_filled_reader [t.d, spD o, x] = .ok (fillF t o 3 [] x) [] at e3
  obtain ⟨Γ', rfl⟩ := hG
  obtain ⟨es', e4, e5, _, _⟩ := ts.tells Γ' tok (lx.upn 1) (life := life) (by omega) hlife
  rw [hg] at e5
  have ees : es = es' := by injection e5 with h1; injection h1
  subst ees
  have wr : ∀ (y : D) (db : Bool), Lk cells 2 y → (db = true ↔ ∀ p ∈ pthF 3 [] y, SureP t o p) → ∃ told, AskOk (f__law_told.sem Γ) S (ask "wrong" (.tuple [t.d, spD o, y]) (.bool db)) told := fun y db ly hdb => by
    rcases ts.wp t cells tok o y ly with ⟨w1, w2⟩ | ⟨n, run, qs, v, w1, w2, w3, _⟩
    · exact ⟨.none, _, _, _, _, rfl, w_ww, fit_none.txok (by omega) (by omega), told_w w1, (fun h => by cases h), fun _ => ⟨db, rfl, .inl ⟨rfl, hdb.mpr w2⟩⟩⟩
    · change (pthF 3 [] y)[n]? = _ at w2
      have hm := List.mem_of_getElem? w2
      obtain ⟨_, qok, ql, qne⟩ := pth_ok (by omega) ly (by omega) _ hm
      have plen := pthF_len (k := 3) (qs := []) ly.nd
      have nl := (List.getElem?_eq_some_iff.mp w2).1
      cases qs with
      | nil => exact absurd rfl qne
      | cons q qs =>
        have hno := bad_not_sure tok vm w3
        have hdf : db = false := by
          cases db with
          | false => rfl
          | true => exact absurd (hdb.mp rfl _ hm) hno
        have rok := runIn_ok w3.1
        have rl : run.length ≤ 100 := by rw [rok.1]; exact ql
        have z := tI_sz run
        have tk : Fit (.tuple [.int (n : Nat), tI run]) 15 2000 := (Fit.mk2 (fit_int (by omega)) (m := 1603) ⟨by rw [tI_dp]; omega, tI_tx fun i hi => by have := rok.2.1 i hi; omega, by omega⟩).le (by omega) (by omega)
        exact ⟨.tuple [.int (n : Nat), tI run], _, _, _, _, rfl, w_ww, tk.txok (by omega) (by omega), told_w w1, (fun h => by cases h), fun _ => ⟨db, rfl, .inr ⟨_, rfl, hdf, sh t cells tok o (fun s h => (ho s h).1) y ly n run q qs v w2 w3⟩⟩⟩
  unfold asksD at hd
  simp only [List.mem_cons, List.not_mem_nil, or_false] at hd
  rcases hd with rfl | rfl | rfl | rfl | rfl | rfl
  · exact ⟨⟨.none, _, _, _, _, rfl, w_ew, fit_none.txok (by omega) (by omega), told_e e1, fun _ => rfl, (fun h => by cases h)⟩, (Fit.mk3 fw_e ((Fit.mk2 ft frx).le (Nat.le_succ _) (Nat.le_refl _)) fit_none).le (by omega) (by omega)⟩
  · exact ⟨⟨_, _, _, _, _, rfl, w_pw, fpa.txok (by omega) (by omega), told_p e2, fun _ => rfl, (fun h => by cases h)⟩, (Fit.mk3 fw_p ((Fit.mk1 frx).le (Nat.le_succ _) (Nat.le_refl _)) fpa).le (by omega) (by omega)⟩
  · exact ⟨⟨_, _, _, _, _, rfl, w_fw, frf.txok (by omega) (by omega), told_f e3, fun _ => rfl, (fun h => by cases h)⟩, (Fit.mk3 fw_f ((Fit.mk3 ft fsp frx).le (Nat.le_succ _) (Nat.le_refl _)) (frf.le (q := 16) (by omega) (Nat.le_refl _))).le (by omega) (by omega)⟩
  · exact ⟨⟨_, _, _, _, _, rfl, w_tw, fes.txok (by omega) (by omega), told_t e4, fun _ => rfl, (fun h => by cases h)⟩, (Fit.mk3 fw_t ((Fit.mk3 ft frx fli).le (Nat.le_succ _) (Nat.le_refl _)) fes).le (by omega) (by omega)⟩
  · exact ⟨wr _ true lf ⟨fun _ => fx1, fun _ => rfl⟩, (Fit.mk3 fw_w ((Fit.mk3 ft fsp frf).le (Nat.le_succ _) (Nat.le_refl _)) (fit_bool true)).le (by omega) (by omega)⟩
  · exact ⟨wr _ b lx hb, (Fit.mk3 fw_w ((Fit.mk3 ft fsp frx).le (Nat.le_succ _) (Nat.le_refl _)) (fit_bool b)).le (by omega) (by omega)⟩

end Tx
namespace Tx
open PySem PySem.Spec PyProof.Rows L2 TV
/-! the law's main loop -/
def Seen (g : D → D) (A : List D) (ps : List (D × D)) : Prop := ∀ (k : Int) (d : D), dfindD ps k = some d → d = .str (g (A.getD k.toNat .none)).shown
theorem isK_int (i k : Int) : ∀ d : D, isK k (.int i, d) = decide (i = k) := fun _ => rfl
theorem dfind_any : ∀ {ps : List (D × D)} {k : Int}, ps.any (isK k) = false → dfindD ps k = none
  | [], _, _ => rfl
  | p :: ps, k, h => by
    simp only [List.any_cons, Bool.or_eq_false_iff] at h
    rw [dfindD, h.1]
    exact dfind_any h.2
theorem dfind_app : ∀ {ps : List (D × D)} {k j : Int} {d : D}, dfindD (ps ++ [(.int k, d)]) j = (dfindD ps j).or (if k = j then some d else none)
  | [], k, j, d => by
    show (if isK j (PyData.int k, d) then some d else dfindD [] j) = _
    rw [isK_int]
    by_cases h : k = j <;> simp [h, dfindD]
  | p :: ps, k, j, d => by
    rw [List.cons_append, dfindD, dfindD]
    by_cases h : isK j p = true
    · simp [h]
    · simp [h]; exact dfind_app
theorem isK_uniq {p : D × D} {k j : Int} (h1 : isK k p = true) (h2 : isK j p = true) : k = j := by
  unfold isK at h1 h2
  split at h1
  · rename_i i e
    rw [e] at h2
    simp only [decide_eq_true_eq] at h1 h2
    omega
  · cases h1
theorem dfind_map : ∀ {ps : List (D × D)} {k j : Int} {d e : D}, dfindD (ps.map fun p => if isK k p then (p.1, d) else p) j = some e → (j = k ∧ e = d) ∨ dfindD ps j = some e
  | [], _, _, _, _, h => by cases h
  | p :: ps, k, j, d, e, h => by
    rw [List.map_cons, dfindD] at h
    rw [dfindD]
    by_cases hk : isK k p = true
    · rw [if_pos hk] at h
      have e1 : isK j (p.1, d) = isK j p := rfl
      rw [e1] at h
      by_cases hj : isK j p = true
      · rw [if_pos hj] at h
        exact .inl ⟨(isK_uniq hk hj).symm, (Option.some.inj h).symm⟩
      · rw [if_neg hj] at h
        rw [if_neg hj]
        exact dfind_map h
    · rw [if_neg hk] at h
      by_cases hj : isK j p = true
      · rw [if_pos hj] at h ⊢
        exact .inr h
      · rw [if_neg hj] at h ⊢
        exact dfind_map h
theorem Seen.put {g : D → D} {A : List D} {ps : List (D × D)} (h : Seen g A ps) (k : Int) : Seen g A (dputD ps k (.str (g (A.getD k.toNat .none)).shown)) := fun j d hd => by
  unfold dputD at hd
  split at hd
  · rcases dfind_map hd with ⟨rfl, rfl⟩ | hd
    · rfl
    · exact h j d hd
  · rw [dfind_app] at hd
    cases e : dfindD ps j with
    | some x =>
      rw [e] at hd
      have : x = d := by simpa using hd
      subst this
      exact h j x e
    | none =>
      rw [e] at hd
      by_cases hk : k = j
      · subst hk
        simp at hd
        exact hd.symm
      · simp [hk] at hd
theorem dput_len (ps : List (D × D)) (k : Int) (d : D) : (dputD ps k d).length ≤ ps.length + 1 := by
  unfold dputD
  split
  · rw [List.length_map]; omega
  · rw [List.length_append]; simp
abbrev popS : S := .asg (.v 9) (.popAt (.v 7) (.call i__law_draw (.io 1 (.val (.b1 .len (.v 7)) .nil))))
theorem pop_st {Γ : Nat → Fn} {L : List D} {deep deep' : List Int} {st st' v : Int} {d : D} (h1 : Γ i__law_draw [dk deep st, .int (L.length : Nat)] = .ok (.int v) [some (dk deep' st')]) (h2 : L[v.toNat]? = some d) (h3 : 0 ≤ v) (h4 : L.length ≤ 1000) {a0 a2 a3 a4 a5 a6 a8 a9 a10 a11 a12 a13 : Option D} :
    exS Γ popS [a0, some (dk deep st), a2, a3, a4, a5, a6, some (.list L), a8, a9, a10, a11, a12, a13] = .nx [a0, some (dk deep' st'), a2, a3, a4, a5, a6, some (.list (L.eraseIdx v.toNat)), a8, some d, a10, a11, a12, a13] := by
  have hl := (List.getElem?_eq_some_iff.mp h2).1
  have hix : ixN L.length v = some v.toNat := by
    unfold ixN
    simp [h3]; omega
  have e : evE Γ (.popAt (.v 7) (.call i__law_draw (.io 1 (.val (.b1 .len (.v 7)) .nil)))) [a0, some (dk deep st), a2, a3, a4, a5, a6, some (.list L), a8, a9, a10, a11, a12, a13] = .ok d [a0, some (dk deep' st'), a2, a3, a4, a5, a6, some (.list (L.eraseIdx v.toNat)), a8, a9, a10, a11, a12, a13] := by
    show popAtD (.v 7) (evE Γ (.call i__law_draw (.io 1 (.val (.b1 .len (.v 7)) .nil)))) _ = _
    have hl2 : L.length ≤ LIM := by unfold LIM; omega
    have ec : evE Γ (.call i__law_draw (.io 1 (.val (.b1 .len (.v 7)) .nil))) [a0, some (dk deep st), a2, a3, a4, a5, a6, some (.list L), a8, a9, a10, a11, a12, a13] = .ok (.int v) [a0, some (dk deep' st'), a2, a3, a4, a5, a6, some (.list L), a8, a9, a10, a11, a12, a13] := by
      simp [callR, argD, outs, h1]
    unfold popAtD
    simp [getPl, setPl, ec, hix, hl2, h2]
  unfold popS
  rw [s_asg, e]
  simp

end Tx
namespace Tx
open PySem PySem.Spec PyProof.Rows L2 TV
abbrev setS : S := .asg (.t (.cons (.v 11) (.cons (.v 12) (.cons (.v 13) .nil)))) (.b2 .idx (.v 5) (.v 9))
abbrev tellS : S := .asg (.v 10) (.call i__law_told (.val (.v 11) (.val (.v 12) (.val (.b2 .eq (.call i__law_draw (.io 1 (.val (.c (.int 2)) .nil))) (.c (.int 0))) .nil))))
abbrev retF : Ss := .cons (.ret (.c (.bool false))) .nil
abbrev getS : S := .ifs (.b2 .ne (.dget 8 (.v 9) (.b1 .repr (.v 10))) (.b1 .repr (.v 10))) retF .nil
abbrev putS : S := .dset 8 (.v 9) (.b1 .repr (.v 10))
abbrev wrS : S := .ifs (.or_ (.and_ (.b2 .eq (.v 11) (.c (.str "wrong"))) (.b2 .ne (.b2 .is_ (.v 10) (.c .none)) (.v 13))) (.and_ (.b2 .eq (.v 11) (.c (.str "wrong"))) (.and_ (.not_ (.v 13)) (.not_ (.call i__law_shows (.val (.v 12) (.val (.v 10) .nil))))))) retF .nil
abbrev neS : S := .ifs (.and_ (.b2 .ne (.v 11) (.c (.str "wrong"))) (.b2 .ne (.b1 .repr (.v 10)) (.b1 .repr (.v 13)))) retF .nil
abbrev lawB : Ss := .cons popS (.cons setS (.cons tellS (.cons getS (.cons putS (.cons wrS (.cons neS .nil))))))
section
variable {Γ : Nat → Fn} {a0 a1 a2 a3 a4 a5 a6 a7 a8 a9 a10 a11 a12 a13 : Option D}
theorem get_st {g : D → D} {A : List D} {ps : List (D × D)} (hs : Seen g A ps) {i : Int} {told : D} (ht : told = g (A.getD i.toNat .none)) (ok : TxOk told) :
    exS Γ getS [a0, a1, a2, a3, a4, a5, a6, a7, some (.dict ps), some (.int i), some told, a11, a12, a13] = .nx [a0, a1, a2, a3, a4, a5, a6, a7, some (.dict ps), some (.int i), some told, a11, a12, a13] := by
  have rp := o_repr ok
  have es := eq_shown ok
  have hd : (dfindD ps i).getD (.str told.shown) = .str told.shown := by
    cases e : dfindD ps i with
    | none => rfl
    | some d => rw [hs i d e, ← ht]; rfl
  generalize told.shown = sh at *
  have e : evE Γ (.dget 8 (.v 9) (.b1 .repr (.v 10))) [a0, a1, a2, a3, a4, a5, a6, a7, some (.dict ps), some (.int i), some told, a11, a12, a13] = .ok (.str sh) [a0, a1, a2, a3, a4, a5, a6, a7, some (.dict ps), some (.int i), some told, a11, a12, a13] := by
    rw [e_dget]
    unfold dgetD
    simp [gdict, gv, dictD, rp, hd]
  simp [-e_dget, e, rp, es]
theorem put_st {ps : List (D × D)} (hl : ps.length ≤ 1000) {i : Int} {told : D} (ok : TxOk told) :
    exS Γ putS [a0, a1, a2, a3, a4, a5, a6, a7, some (.dict ps), some (.int i), some told, a11, a12, a13] = .nx [a0, a1, a2, a3, a4, a5, a6, a7, some (.dict (dputD ps i (.str told.shown))), some (.int i), some told, a11, a12, a13] := by
  have rp := o_repr ok
  generalize told.shown = sh at *
  have hl2 : ps.length < LIM := by unfold LIM; omega
  rw [s_dset]
  unfold dsetD
  simp [gdict, gv, dictD, rp, hl2]
theorem ask_st {d told : D} (h : AskOk (Γ i__law_told) (Γ i__law_shows) d told) {A : List D} {i : Int} (hi : atD A i = some d) (hd : DrawOk (Γ i__law_draw)) {deep : List Int} {st : Int} (ok : DkOk deep st) {g : D → D} (hg : told = g (A.getD i.toNat .none)) {ps : List (D × D)} (hs : Seen g A ps) (hl : ps.length ≤ 1000) :
    ∃ (w own due : D) (deep' : List Int) (st' : Int), exSs Γ (.cons setS (.cons tellS (.cons getS (.cons putS (.cons wrS (.cons neS .nil)))))) [a0, some (dk deep st), a2, a3, a4, some (.list A), a6, a7, some (.dict ps), some (.int i), a10, a11, a12, a13] =
      .nx [a0, some (dk deep' st'), a2, a3, a4, some (.list A), a6, a7, some (.dict (dputD ps i (.str told.shown))), some (.int i), some told, some w, some own, some due] ∧ DkOk deep' st' := by
  obtain ⟨w, own, due, wb, rfl, hw, htx, htold, hf, ht⟩ := h
  obtain ⟨v, d1, s1, e1, _, _, ok1⟩ := hd ok 2 (by decide)
  refine ⟨.str w, own, due, d1, s1, ?_, ok1⟩
  have st1 : exS Γ setS [a0, some (dk deep st), a2, a3, a4, some (.list A), a6, a7, some (.dict ps), some (.int i), a10, a11, a12, a13] = .nx [a0, some (dk deep st), a2, a3, a4, some (.list A), a6, a7, some (.dict ps), some (.int i), a10, some (.str w), some own, some due] := by
    simp [hi, bindT, bindTs]
  have hb := htold (decide (v = 0))
  have st2 : exS Γ tellS [a0, some (dk deep st), a2, a3, a4, some (.list A), a6, a7, some (.dict ps), some (.int i), a10, some (.str w), some own, some due] = .nx [a0, some (dk d1 s1), a2, a3, a4, some (.list A), a6, a7, some (.dict ps), some (.int i), some told, some (.str w), some own, some due] := by
    simp [callR, argD, outs, e1, eq_int, hb]
  have rp := o_repr htx
  have es := eq_shown htx
  have n0 : b2 .is_ .none .none = some (.bool true) := rfl
  have n1 : ∀ xs, b2 .is_ (.tuple xs) .none = some (.bool false) := fun _ => rfl
  have eb : ∀ b : Bool, eqD (.bool b) (.bool b) = some true := fun b => by cases b <;> decide +kernel
  rw [ss_cons, st1, Fl.thn_nx, ss_cons, st2, Fl.thn_nx, ss_cons, get_st hs hg htx, Fl.thn_nx, ss_cons, put_st hl htx, Fl.thn_nx, ss_cons]
  generalize dputD ps i (.str told.shown) = PS
  cases wb with
  | false =>
    have := hf rfl
    subst this
    generalize told.shown = sh at *
    have st3 : exS Γ wrS [a0, some (dk d1 s1), a2, a3, a4, some (.list A), a6, a7, some (.dict PS), some (.int i), some told, some (.str w), some own, some told] = .nx [a0, some (dk d1 s1), a2, a3, a4, some (.list A), a6, a7, some (.dict PS), some (.int i), some told, some (.str w), some own, some told] := by
      simp [hw]
    have st4 : exS Γ neS [a0, some (dk d1 s1), a2, a3, a4, some (.list A), a6, a7, some (.dict PS), some (.int i), some told, some (.str w), some own, some told] = .nx [a0, some (dk d1 s1), a2, a3, a4, some (.list A), a6, a7, some (.dict PS), some (.int i), some told, some (.str w), some own, some told] := by
      simp [hw, rp, es]
    rw [st3, Fl.thn_nx, ss_cons, st4]
    rfl
  | true =>
    obtain ⟨db, rfl, h⟩ := ht rfl
    have st4 : exS Γ neS [a0, some (dk d1 s1), a2, a3, a4, some (.list A), a6, a7, some (.dict PS), some (.int i), some told, some (.str w), some own, some (.bool db)] = .nx [a0, some (dk d1 s1), a2, a3, a4, some (.list A), a6, a7, some (.dict PS), some (.int i), some told, some (.str w), some own, some (.bool db)] := by
      simp [hw]
    rcases h with ⟨rfl, rfl⟩ | ⟨xs, rfl, rfl, hsh⟩
    · have st3 : exS Γ wrS [a0, some (dk d1 s1), a2, a3, a4, some (.list A), a6, a7, some (.dict PS), some (.int i), some .none, some (.str w), some own, some (.bool true)] = .nx [a0, some (dk d1 s1), a2, a3, a4, some (.list A), a6, a7, some (.dict PS), some (.int i), some .none, some (.str w), some own, some (.bool true)] := by
        simp [hw, n0, eb]
      rw [st3, Fl.thn_nx, ss_cons, st4]
      rfl
    · have st3 : exS Γ wrS [a0, some (dk d1 s1), a2, a3, a4, some (.list A), a6, a7, some (.dict PS), some (.int i), some (.tuple xs), some (.str w), some own, some (.bool false)] = .nx [a0, some (dk d1 s1), a2, a3, a4, some (.list A), a6, a7, some (.dict PS), some (.int i), some (.tuple xs), some (.str w), some own, some (.bool false)] := by
        simp [hw, n1, eb, callR, argD, outs, hsh]
      rw [st3, Fl.thn_nx, ss_cons, st4]
      rfl
end

end Tx
namespace Tx
open PySem PySem.Spec PyProof.Rows L2 TV
def Table2Fn (F : Fn) : Prop := ∀ (deep : List Int) (st : Int), DkOk deep st → ∀ (most : Int), 2 ≤ most → most ≤ 100 → ∃ t cells deep' st', F [dk deep st, .int most] = .ok (Tab.d t) [some (dk deep' st')] ∧ TabOk cells t ∧ ValsOk t ∧ t.words.length ≤ most.toNat ∧ DkOk deep' st' ∧ VMono t
def DeckFn (F : Fn) : Prop := ∀ ns : List Int, ns.length ≤ 63 → ∃ deep st, F [script ns] = .ok (dk deep st) [] ∧ DkOk deep st
theorem ints_rng {n : Int} : ∀ d ∈ rngD 0 n, ∃ i : Int, d = .int i := fun d hd => by
  rw [rngD_i] at hd
  obtain ⟨i, _, rfl⟩ := List.mem_map.mp hd
  exact ⟨i, rfl⟩
theorem lift {P : Fn → Prop} {i a b : Nat} (h : a = b) (x : P (Gam l a i)) : P (Gam l b i) := h ▸ x
abbrev loopC : E := .b2 .ne (.v 7) (.lst .nil)
theorem erase_map : ∀ (L : List Int) (n : Nat), (L.map PyData.int).eraseIdx n = (L.eraseIdx n).map .int
  | [], _ => rfl
  | x :: L, 0 => rfl
  | x :: L, n + 1 => by
    show PyData.int x :: (L.map PyData.int).eraseIdx n = _
    rw [erase_map L n]
    rfl
theorem eq_nilM (L : List Int) : eqD (.list (L.map .int)) (.list []) = some (decide (L = [])) := by
  have h := eq_nilD (ds := L.map .int) (fun d hd => by
    obtain ⟨i, _, rfl⟩ := List.mem_map.mp hd
    exact ⟨by simp only [pd], by simp [PyData.depth]⟩)
  rw [h]
  cases L <;> simp
theorem main_loop {Γ : Nat → Fn} (hd : DrawOk (Γ i__law_draw)) {A : List D} {g : D → D} (hA : ∀ d ∈ A, AskOk (Γ i__law_told) (Γ i__law_shows) d (g d)) {a0 a2 a3 a4 a6 : Option D} : ∀ (n : Nat) (L : List Int) (ps : List (D × D)) (deep : List Int) (st : Int) (fuel : Nat) (a9 a10 a11 a12 a13 : Option D), L.length = n → n ≤ 100 → (∀ i ∈ L, 0 ≤ i ∧ i < (A.length : Int)) → Seen g A ps → ps.length + n ≤ 1000 → n < fuel → DkOk deep st →
    ∃ (ps' : List (D × D)) (deep' : List Int) (st' : Int) (b9 b10 b11 b12 b13 : Option D), whlF (evE Γ loopC) (exSs Γ lawB) fuel [a0, some (dk deep st), a2, a3, a4, some (.list A), a6, some (.list (L.map .int)), some (.dict ps), a9, a10, a11, a12, a13] =
      .nx [a0, some (dk deep' st'), a2, a3, a4, some (.list A), a6, some (.list []), some (.dict ps'), b9, b10, b11, b12, b13] ∧ DkOk deep' st' := fun n => by
  induction n with
  | zero =>
    intro L ps deep st fuel a9 a10 a11 a12 a13 hn _ _ _ _ hf ok
    obtain ⟨fuel, rfl⟩ : ∃ f, fuel = f + 1 := ⟨fuel - 1, by omega⟩
    have : L = [] := List.length_eq_zero_iff.mp hn
    subst this
    have eN := eq_nilM []
    rw [decide_eq_true rfl, List.map_nil] at eN
    exact ⟨ps, deep, st, a9, a10, a11, a12, a13, by simp [whlF, eN, LIM], ok⟩
  | succ n ih =>
    intro L ps deep st fuel a9 a10 a11 a12 a13 hn h100 hL hs hp hf ok
    obtain ⟨fuel, rfl⟩ : ∃ f, fuel = f + 1 := ⟨fuel - 1, by omega⟩
    have eN := eq_nilM L
    rw [decide_eq_false (by intro z; subst z; simp at hn)] at eN
    obtain ⟨v, d1, s1, e1, v0, v1, ok1⟩ := hd ok (L.length : Nat) (by omega)
    have hv : v.toNat < L.length := by omega
    obtain ⟨hi0, hi1⟩ := hL _ (List.getElem_mem hv)
    have hg : (L.map PyData.int)[v.toNat]? = some (.int L[v.toNat]) := by rw [List.getElem?_map, List.getElem?_eq_getElem hv]; rfl
    have hes : (L.map PyData.int).eraseIdx v.toNat = (L.eraseIdx v.toNat).map .int := by rw [erase_map]
    have el : (L.eraseIdx v.toNat).length = n := by rw [List.length_eraseIdx, if_pos hv]; omega
    have hsub : ∀ i ∈ L.eraseIdx v.toNat, 0 ≤ i ∧ i < (A.length : Int) := fun i hi => hL i (List.mem_of_mem_eraseIdx hi)
    generalize L[v.toNat] = i at *
    obtain ⟨k, rfl⟩ := Int.eq_ofNat_of_zero_le hi0
    have hk : k < A.length := by omega
    have hAk : A[k]? = some A[k] := List.getElem?_eq_getElem hk
    have hat := atD_at hAk
    have hgd : A.getD (k : Int).toNat .none = A[k] := by
      rw [Int.toNat_natCast, List.getD_eq_getElem?_getD, hAk]; rfl
    have hask := hA A[k] (List.getElem_mem hk)
    have st1 := pop_st (Γ := Γ) (L := L.map .int) (deep := deep) (st := st) (by rw [List.length_map]; exact e1) hg v0 (by rw [List.length_map]; omega) (a0 := a0) (a2 := a2) (a3 := a3) (a4 := a4) (a5 := some (.list A)) (a6 := a6) (a8 := some (.dict ps)) (a9 := a9) (a10 := a10) (a11 := a11) (a12 := a12) (a13 := a13)
    rw [hes] at st1
    obtain ⟨w, own, due, d2, s2, st2, ok2⟩ := ask_st (Γ := Γ) hask hat hd ok1 (g := g) (by rw [hgd]) hs (by omega) (a0 := a0) (a2 := a2) (a3 := a3) (a4 := a4) (a6 := a6) (a7 := some (.list ((L.eraseIdx v.toNat).map .int))) (a10 := a10) (a11 := a11) (a12 := a12) (a13 := a13)
    have hs2 := hs.put (k : Int)
    rw [hgd] at hs2
    have hpl := dput_len ps (k : Int) (.str (g A[k]).shown)
    obtain ⟨ps', d3, s3, b9, b10, b11, b12, b13, e3, ok3⟩ := ih (L.eraseIdx v.toNat) _ d2 s2 fuel (some (.int k)) (some (g A[k])) (some w) (some own) (some due) el (by omega) hsub hs2 (by omega) (by omega) ok2
    refine ⟨ps', d3, s3, b9, b10, b11, b12, b13, ?_, ok3⟩
    generalize L.map PyData.int = LM at *
    have cond : evE Γ loopC [a0, some (dk deep st), a2, a3, a4, some (.list A), a6, some (.list LM), some (.dict ps), a9, a10, a11, a12, a13] = .ok (.bool true) [a0, some (dk deep st), a2, a3, a4, some (.list A), a6, some (.list LM), some (.dict ps), a9, a10, a11, a12, a13] := by
      simp [eN, LIM]
    rw [whlF, cond]
    simp only [R.fl_ok]
    rw [ss_cons, st1, Fl.thn_nx, st2]
    simp only []
    exact e3

end Tx
namespace Tx
open PySem PySem.Spec PyProof.Rows L2 TV
def rngT (t : Tab) : Tab := ⟨t.words, rngI t.words.length⟩
theorem rngI_len (n : Nat) : (rngI n).length = n := by unfold rngI; simp
theorem rngI_mem {n : Nat} {v : Int} (h : v ∈ rngI n) : 0 ≤ v ∧ v < n := by
  unfold rngI at h
  obtain ⟨i, hi, rfl⟩ := List.mem_map.mp h
  rw [List.mem_range] at hi
  omega
theorem rngT_ok {t : Tab} {cells : Nat} (tok : TabOk cells t) : TabOk cells (rngT t) := { tok with len := (rngI_len _).symm }
theorem rngT_vals {t : Tab} {cells : Nat} (tok : TabOk cells t) : ValsOk (rngT t) := by
  have h2 := tok.two
  have h3 := tok.many
  have hl : (rngI t.words.length).length = t.words.length := rngI_len _
  refine ⟨fun z => ?_, ?_, fun v hv => ?_⟩
  · have : rngI t.words.length = [] := z
    rw [this] at hl
    simp at hl; omega
  · show (rngI t.words.length).length ≤ 1000
    omega
  · have := rngI_mem (show v ∈ rngI t.words.length from hv)
    omega
theorem rngT_mono (t : Tab) : VMono (rngT t) := by
  show (rngI t.words.length).Pairwise (· ≤ ·)
  unfold rngI
  rw [List.pairwise_map]
  exact List.Pairwise.imp (fun {a b} h => by omega) List.pairwise_lt_range
structure Fs (Γ : Nat → Fn) : Prop where
  deck : DeckFn (Γ i__law_deck)
  draw : DrawOk (Γ i__law_draw)
  table : Table2Fn (Γ i__law_table)
  asks : ∃ G, (∃ Γ', G = f__law_tells.sem Γ') ∧ AsksFn G (Γ i__law_asks)
  told : ∃ Γ', Ts Γ' ∧ Γ i__law_told = f__law_told.sem Γ'
  shows : LShowsFn 2 (Γ i__law_shows)
/-- some asks of a table -/
theorem asks_of {Γ : Nat → Fn} (fs : Fs Γ) {deep : List Int} {st : Int} (ok : DkOk deep st) {t : Tab} {cells : Nat} (tok : TabOk cells t) (vok : ValsOk t) (vm : VMono t) (t60 : t.words.length ≤ 60) :
    ∃ (A : List D) (deep' : List Int) (st' : Int), Γ i__law_asks [dk deep st, t.d] = .ok (.list A) [some (dk deep' st')] ∧ DkOk deep' st' ∧ A.length = 6 ∧ ∀ d ∈ A, (∃ told, AskOk (Γ i__law_told) (Γ i__law_shows) d told) ∧ Fit d 30 60000 := by
  obtain ⟨G, hG, asks⟩ := fs.asks
  obtain ⟨Γ', ts, et⟩ := fs.told
  obtain ⟨o, x, life, es, b, d1, s1, e, ok1, ho, ⟨lx, ux, cx⟩, hl, hlife, ⟨hg, he, hes⟩, hb⟩ := asks deep st ok t cells tok vok t60
  refine ⟨_, d1, s1, e, ok1, rfl, ?_⟩
  rw [et]
  exact asks_ok ts fs.shows tok vok vm ho lx ux cx hl hlife hG hg he hes hb
theorem o_lRngN {n : Nat} (h : n ≤ 1000) : b1 .lRng (.int (n : Nat)) = some (.list ((rngI n).map .int)) := by
  have h1 : (n : Int) ≤ LIM := by unfold LIM; omega
  have h2 : -(LIM : Int) ≤ (n : Int) := by unfold LIM; omega
  show (if (decide ((n : Int) ≤ LIM) && decide (-(LIM : Int) ≤ (n : Int))) = true then some (PyData.list (rngD 0 (n : Int))) else none) = _
  rw [decide_eq_true h1, decide_eq_true h2, rngD_i]
  rfl
abbrev otherE : E := .ite (.b2 .eq (.call i__law_draw (.io 1 (.val (.c (.int 2)) .nil))) (.c (.int 0))) (.tup (.cons (.b2 .idx (.v 3) (.c (.int 0))) (.cons (.b1 .tup (.b1 .lRng (.b1 .len (.b2 .idx (.v 3) (.c (.int 0)))))) .nil))) (.call i__law_table (.io 1 (.val (.c (.int 6)) .nil)))
theorem other_st {Γ : Nat → Fn} (fs : Fs Γ) {deep : List Int} {st : Int} (ok : DkOk deep st) {t : Tab} {cells : Nat} (tok : TabOk cells t) (t60 : t.words.length ≤ 60) {a0 a2 a4 a5 a6 a7 a8 a9 a10 a11 a12 a13 : Option D} :
    ∃ (t2 : Tab) (c2 : Nat) (deep' : List Int) (st' : Int), exS Γ (.asg (.v 4) otherE) [a0, some (dk deep st), a2, some t.d, a4, a5, a6, a7, a8, a9, a10, a11, a12, a13] = .nx [a0, some (dk deep' st'), a2, some t.d, some t2.d, a5, a6, a7, a8, a9, a10, a11, a12, a13] ∧ DkOk deep' st' ∧ TabOk c2 t2 ∧ ValsOk t2 ∧ VMono t2 ∧ t2.words.length ≤ 60 := by
  obtain ⟨v, d1, s1, e1, _, _, ok1⟩ := fs.draw ok 2 (by decide)
  by_cases hv : v = 0
  · refine ⟨rngT t, cells, d1, s1, ?_, ok1, rngT_ok tok, rngT_vals tok, rngT_mono t, t60⟩
    have a0' : atD [.tuple (t.words.map tI), .tuple (t.vals.map .int)] 0 = some (.tuple (t.words.map tI)) := rfl
    have lr := o_lRngN (n := t.words.length) (by omega)
    have e3 : (rngT t).d = .tuple [.tuple (t.words.map tI), .tuple ((rngI t.words.length).map .int)] := rfl
    have ll : ((rngI t.words.length).map PyData.int).length ≤ 1000000 := by rw [List.length_map, rngI_len]; omega
    rw [e3]
    generalize (rngI t.words.length).map PyData.int = RR at *
    simp [callR, argD, outs, e1, hv, eq_int, Tab.d, a0', lr, LIM]
  · obtain ⟨t2, c2, d2, s2, e2, tok2, vok2, l2, ok2, vm2⟩ := fs.table _ _ ok1 6 (by decide) (by decide)
    refine ⟨t2, c2, d2, s2, ?_, ok2, tok2, vok2, vm2, by simp at l2; omega⟩
    simp [callR, argD, outs, e1, hv, eq_int, e2]
theorem turn_sem {Γ : Nat → Fn} (fs : Fs Γ) {deep : List Int} {st : Int} (ok : DkOk deep st) {a0 a2 a3 a4 a5 a6 a7 a8 a9 a10 a11 a12 a13 : Option D} :
    ∃ (b3 b4 b5 b6 b7 b8 b9 b10 b11 b12 b13 : Option D) (deep' : List Int) (st' : Int), exSs Γ b0_law [a0, some (dk deep st), a2, a3, a4, a5, a6, a7, a8, a9, a10, a11, a12, a13] = .nx [a0, some (dk deep' st'), a2, b3, b4, b5, b6, b7, b8, b9, b10, b11, b12, b13] ∧ DkOk deep' st' := by
  obtain ⟨t, c, d1, s1, e1, tok, vok, l1, ok1, vm⟩ := fs.table _ _ ok 6 (by decide) (by decide)
  have t60 : t.words.length ≤ 60 := by simp at l1; omega
  obtain ⟨t2, c2, d2, s2, e2, ok2, tok2, vok2, vm2, t602⟩ := other_st fs ok1 tok t60 (a0 := a0) (a2 := a2) (a4 := a4) (a5 := a5) (a6 := a6) (a7 := a7) (a8 := a8) (a9 := a9) (a10 := a10) (a11 := a11) (a12 := a12) (a13 := a13)
  obtain ⟨A1, d3, s3, e3, ok3, n1, h1⟩ := asks_of fs ok2 tok vok vm t60
  obtain ⟨A2, d4, s4, e4, ok4, n2, h2⟩ := asks_of fs ok3 tok2 vok2 vm2 t602
  have hA : ∀ d ∈ A1 ++ A2, (∃ told, AskOk (Γ i__law_told) (Γ i__law_shows) d told) ∧ Fit d 30 60000 := fun d hd => by
    rcases List.mem_append.mp hd with h | h
    · exact h1 d h
    · exact h2 d h
  have nA : (A1 ++ A2).length = 12 := by rw [List.length_append]; omega
  have ex : ∃ g : D → D, ∀ d ∈ A1 ++ A2, AskOk (Γ i__law_told) (Γ i__law_shows) d (g d) := by
    classical
    exact ⟨fun d => if h : ∃ told, AskOk (Γ i__law_told) (Γ i__law_shows) d told then Classical.choose h else .none, fun d hd => by
      have h := (hA d hd).1
      show AskOk _ _ d (if h : ∃ told, AskOk (Γ i__law_told) (Γ i__law_shows) d told then Classical.choose h else .none)
      rw [dif_pos h]
      exact Classical.choose_spec h⟩
  obtain ⟨g, hg⟩ := ex
  have tx5 : TxOk (.list (A1 ++ A2)) := by
    have q1 := depthAll_le fun d hd => (hA d hd).2.dp
    have q2 := txs_of fun d hd => (hA d hd).2.tx
    have q3 := szs_le fun d hd => (hA d hd).2.sz
    rw [nA] at q3
    exact ⟨by simp only [tx, q2], by simp only [PyData.depth]; omega, by simp only [sz, LIM]; omega⟩
  have rp := o_repr tx5
  have es := eq_shown tx5
  have add : b2 .add (.list A1) (.list A2) = some (.list (A1 ++ A2)) := by rw [o_addi, if_pos (by unfold LIM; omega)]
  generalize A1 ++ A2 = A at *
  have lr := o_lRngN (n := 12) (by decide)
  have ml : b2 .mulL (.list ((rngI (12 : Nat)).map .int)) (.int 2) = some (.list ((rngI (12 : Nat) ++ rngI (12 : Nat)).map .int)) := by
    rw [o_mulL (by decide) (by decide) (by decide)]
    rfl
  obtain ⟨ps', d5, s5, b9, b10, b11, b12, b13, e5, ok5⟩ := main_loop fs.draw hg (a0 := a0) (a2 := a2) (a3 := some t.d) (a4 := some t2.d) (a6 := some (.str (PyData.list A).shown)) 24 (rngI (12 : Nat) ++ rngI (12 : Nat)) [] d4 s4 1000000 a9 a10 a11 a12 a13 (by decide) (by decide) (fun i hi => by
    rw [nA]
    rcases List.mem_append.mp hi with h | h <;> exact rngI_mem h) (fun k d h => by cases h) (by decide) (by decide) ok4
  generalize (rngI (12 : Nat) ++ rngI (12 : Nat)).map PyData.int = LL at *
  generalize (rngI (12 : Nat)).map PyData.int = L1 at *
  generalize (PyData.list A).shown = sh at *
  refine ⟨some t.d, some t2.d, some (.list A), some (.str sh), some (.list []), some (.dict ps'), b9, b10, b11, b12, b13, d5, s5, ?_, ok5⟩
  have hb0 : b0_law = .cons (.asg (.v 3) (.call i__law_table (.io 1 (.val (.c (.int 6)) .nil)))) (.cons (.asg (.v 4) otherE) (.cons (.asg (.v 5) (.b2 .add (.call i__law_asks (.io 1 (.val (.v 3) .nil))) (.call i__law_asks (.io 1 (.val (.v 4) .nil))))) (.cons (.par [6, 7, 8] (.cons (.b1 .repr (.v 5)) (.cons (.b2 .mulL (.b1 .lRng (.b1 .len (.v 5))) (.c (.int 2))) (.cons .dnew .nil)))) (.cons (.whl 1000000 loopC lawB) (.cons (.ifs (.b2 .ne (.b1 .repr (.v 5)) (.v 6)) retF .nil) .nil))))) := rfl
  rw [hb0]
  have st1 : exS Γ (.asg (.v 3) (.call i__law_table (.io 1 (.val (.c (.int 6)) .nil)))) [a0, some (dk deep st), a2, a3, a4, a5, a6, a7, a8, a9, a10, a11, a12, a13] = .nx [a0, some (dk d1 s1), a2, some t.d, a4, a5, a6, a7, a8, a9, a10, a11, a12, a13] := by
    simp [callR, argD, outs, e1]
  have st3 : exS Γ (.asg (.v 5) (.b2 .add (.call i__law_asks (.io 1 (.val (.v 3) .nil))) (.call i__law_asks (.io 1 (.val (.v 4) .nil))))) [a0, some (dk d2 s2), a2, some t.d, some t2.d, a5, a6, a7, a8, a9, a10, a11, a12, a13] = .nx [a0, some (dk d4 s4), a2, some t.d, some t2.d, some (.list A), a6, a7, a8, a9, a10, a11, a12, a13] := by
    generalize t.d = T1 at *
    generalize t2.d = T2 at *
    simp [callR, argD, outs, e3, e4, add]
  have nA2 : (A.length : Int) = 12 := by omega
  have st4 : exS Γ (.par [6, 7, 8] (.cons (.b1 .repr (.v 5)) (.cons (.b2 .mulL (.b1 .lRng (.b1 .len (.v 5))) (.c (.int 2))) (.cons .dnew .nil)))) [a0, some (dk d4 s4), a2, some t.d, some t2.d, some (.list A), a6, a7, a8, a9, a10, a11, a12, a13] = .nx [a0, some (dk d4 s4), a2, some t.d, some t2.d, some (.list A), some (.str sh), some (.list LL), some (.dict []), a9, a10, a11, a12, a13] := by
    have lr2 : b1 .lRng (.int 12) = some (.list L1) := lr
    simp [rp, nA2, lr2, ml, TV.bindL]
  rw [ss_cons, st1, Fl.thn_nx, ss_cons, e2, Fl.thn_nx, ss_cons, st3, Fl.thn_nx, ss_cons, st4, Fl.thn_nx, ss_cons, s_whl, e5, Fl.thn_nx]
  simp [rp, es]
theorem outer {Γ : Nat → Fn} (fs : Fs Γ) {a0 : Option D} : ∀ (ds : List D) (deep : List Int) (st : Int) (a2 a3 a4 a5 a6 a7 a8 a9 a10 a11 a12 a13 : Option D), DkOk deep st →
    ∃ (ρ : TV.Env), forF (forT (Tg.v 2) (exSs Γ b0_law)) ds [a0, some (dk deep st), a2, a3, a4, a5, a6, a7, a8, a9, a10, a11, a12, a13] = .nx (a0 :: ρ)
  | [], deep, st, a2, a3, a4, a5, a6, a7, a8, a9, a10, a11, a12, a13, _ => ⟨_, rfl⟩
  | d :: ds, deep, st, a2, a3, a4, a5, a6, a7, a8, a9, a10, a11, a12, a13, ok => by
    obtain ⟨b3, b4, b5, b6, b7, b8, b9, b10, b11, b12, b13, d1, s1, e1, ok1⟩ := turn_sem fs ok (a0 := a0) (a2 := some d) (a3 := a3) (a4 := a4) (a5 := a5) (a6 := a6) (a7 := a7) (a8 := a8) (a9 := a9) (a10 := a10) (a11 := a11) (a12 := a12) (a13 := a13)
    obtain ⟨ρ, e2⟩ := outer fs ds d1 s1 (some d) b3 b4 b5 b6 b7 b8 b9 b10 b11 b12 b13 ok1
    refine ⟨ρ, ?_⟩
    have st : forT (Tg.v 2) (exSs Γ b0_law) d [a0, some (dk deep st), a2, a3, a4, a5, a6, a7, a8, a9, a10, a11, a12, a13] = .nx [a0, some (dk d1 s1), some d, b3, b4, b5, b6, b7, b8, b9, b10, b11, b12, b13] := by
      rw [forT_v]
      exact e1
    simp only [forF, st]
    exact e2
theorem law_sem {Γ : Nat → Fn} (fs : Fs Γ) (ns : List Int) (hl : ns.length ≤ 63) : f_law.sem Γ [script ns] = .ok (.bool true) [] := by
  obtain ⟨d0, s0, e0, ok0⟩ := fs.deck ns hl
  obtain ⟨ρ, e3⟩ := outer fs (a0 := some (script ns)) (rngD 0 2) d0 s0 none none none none none none none none none none none none ok0
  unfold Df.sem TV.run f_law
  simp [Df.ios, iosOf, Sh.isM, callR, argD, outs, e0, rng1K_i (n := (2 : Int)) (by decide) (by decide), e3]

end Tx
namespace Tx
open PySem PySem.Spec PyProof.Rows L2 TV
theorem pick_k (k : Nat) : PickOk (Gam l (k + 2) i__law_pick) := @pick_sem (Gam l (k + 1)) (@drawOk k)
theorem lot_k (k : Nat) : LotFn (Gam l (k + 2) i__law_lot) := fun {_ _} ok {_} c1 c2 => lot_sem (drawOk k) ok c1 c2
theorem shown_k (k : Nat) : ShownFn (Gam l (k + 1) i__law_shown) := fun {_ _} ok {_} hl hn {_ _} hs => shown_sem _ ok hl hn hs
theorem seen_k (k : Nat) : ShownFn (Gam l (k + 1) i_seen) := fun {_ _} ok {_} hl hn {_ _} hs => seen_sem _ ok hl hn hs
theorem leaf_k (k : Nat) : LeafFn (Gam l (k + 3) i__law_leaf) := fun {_ _} ok {_} ht => leaf_sem (drawOk (k + 1)) (pick_k k) ok ht
theorem node_k (k : Nat) (m : Nat) : NodeFn m (Gam l (k + 4 + m) i__law_node) := by
  induction m with
  | zero => exact @node_sem (Gam l (k + 3)) (@drawOk (k + 2)) (@pick_k (k + 1)) (@lot_k (k + 1)) (@shown_k (k + 2)) (@leaf_k k) 0 (fun m' h => by omega)
  | succ m ih => exact @node_sem (Gam l (k + 4 + m)) (@lift DrawOk _ _ _ (by omega) (@drawOk (k + 3 + m))) (@lift PickOk _ _ _ (by omega) (@pick_k (k + 2 + m))) (@lift LotFn _ _ _ (by omega) (@lot_k (k + 2 + m))) (@lift ShownFn _ _ _ (by omega) (@shown_k (k + 3 + m))) (@lift LeafFn _ _ _ (by omega) (@leaf_k (k + 1 + m))) (m + 1) (fun m' h => by
      have : m' = m := by omega
      subst this
      exact @ih)
theorem countEx_k (c k : Nat) : ∀ m, CountEx c m (Gam l (k + 1 + m) i__law_count)
  | 0 => countEx_sem (fun k' h => by omega)
  | m + 1 => countEx_sem (fun k' h => by
      have : k' = m := by omega
      subst this
      exact countEx_k c k k')
theorem table_k (k : Nat) : Table2Fn (Gam l (k + 3) i__law_table) := fun _ _ ok _ m1 m2 => table_sem (drawOk (k + 1)) (pick_k k) ok m1 m2
theorem deck_k (k : Nat) : DeckFn (Gam l (k + 1) i__law_deck) := fun ns hl => deck_sem _ ns hl
theorem reader_k (k : Nat) : ReaderFn (Gam l (k + 8) i__law_reader) := @reader_sem (Gam l (k + 7)) (@node_k (k + 1) 2) (@node_k (k + 2) 1) (fun c => by have := countEx_k c (k + 2) 4; exact this)
theorem come_k (k : Nat) : ComeFn (Gam l (k + 2) i_come_to) := come_sem (@seen_k k) (led_sem (Gam l k))
theorem read_k (k : Nat) : ReadFn (Gam l (k + 3) i_is_read) := read_sem (come_k k)
theorem lived_k (k : Nat) : LivedFn (Gam l (k + 3) i_lived_through) := lived_sem (come_k k) (lead_sem (Gam l (k + 1)))
theorem sure_k (k : Nat) : SureFn (Gam l (k + 4) i_sure_states) := sure_sem (lived_k k)
theorem sval_k (k : Nat) : SvalFn (Gam l (k + 5) i_sure_values) := sval_sem (sure_k k)
theorem norun_k (k : Nat) : NoRunFn (Gam l (k + 6) i_wrong_run) := norun_sem (read_k (k + 2)) (sval_k k)
theorem paths_k (k : Nat) (m : Nat) (hm : m ≤ 8) : PathsFn m (Gam l (k + 1 + m) i_paths_on) := by
  induction m with
  | zero => exact paths_sem hm (fun k' h => by omega)
  | succ m ih => exact paths_sem hm (fun k' h => by
      have : k' = m := by omega
      subst this
      exact ih (by omega))
theorem wrong_k (k : Nat) : WrongFn 3 (Gam l (k + 7) i_wrong_path) := wrong_sem (by decide) (pof_sem (Γ := Gam l (k + 5)) (by decide) (paths_k k 4 (by decide))) (norun_k k)
theorem span_k (k : Nat) : SpanFn (Gam l (k + 2) i__law_span) := span_sem (@shown_k k)
theorem fleaf_k (k : Nat) : FLeafFn (Gam l (k + 6) i_filled_leaf) := fleaf_sem (Γ := Gam l (k + 5)) (read_k (k + 2)) (sval_k k)
theorem fill_k (k : Nat) (m : Nat) : FillFn m (Gam l (k + 7 + m) i_filled_on) := by
  induction m with
  | zero => exact fill_sem (Γ := Gam l (k + 6)) (fleaf_k k) (fun k' h => by omega)
  | succ m ih => exact fill_sem (Γ := Gam l (k + 7 + m)) (@lift FLeafFn _ _ _ (by omega) (fleaf_k (k + 1 + m))) (fun k' h => by
      have : k' = m := by omega
      subst this
      exact ih)
theorem lfill_k (k : Nat) (m : Nat) : LFillFn m (Gam l (k + 3 + m) i__law_filled) := by
  induction m with
  | zero => exact lfill_sem (Γ := Gam l (k + 2)) (span_k k) (fun k' h => by omega)
  | succ m ih => exact lfill_sem (Γ := Gam l (k + 3 + m)) (@lift SpanFn _ _ _ (by omega) (span_k (k + 1 + m))) (fun k' h => by
      have : k' = m := by omega
      subst this
      exact ih)
theorem pathsEx_k (k : Nat) (m : Nat) (hm : m ≤ 8) : PathsEx m (Gam l (k + 1 + m) i_paths_on) := by
  induction m with
  | zero => exact pathsEx_sem hm (fun k' h => by omega)
  | succ m ih => exact pathsEx_sem hm (fun k' h => by
      have : k' = m := by omega
      subst this
      exact ih (by omega))
theorem fr_k (j : Nat) (k : Nat) (hk : k ≤ 7) : FrFn k (Gam l (j + 17) i_filled_reader) := fr_sem (Γ := Gam l (j + 16)) (by omega) (@lift (FillFn (k + 1)) _ _ _ (by omega) (fill_k (j + 8 - k) (k + 1)))
theorem wr_k (k : Nat) : WrFn (Gam l (k + 6) i_wrong_run) := wr_sem (Γ := Gam l (k + 5)) (read_k (k + 2)) (sval_k k) (least_sem (Γ := Gam l (k + 4)) (read_k (k + 1)) (lived_k (k + 1))) (great_sem (Γ := Gam l (k + 4)) (read_k (k + 1)) (lived_k (k + 1)))
theorem wp_k (j : Nat) (k : Nat) (hk : k ≤ 7) : WpFn k (Gam l (j + 17) i_wrong_path) := wp_sem hk (pofEx_sem (Γ := Gam l (j + 15)) (by omega) (@lift (PathsEx (k + 1)) _ _ _ (by omega) (pathsEx_k (j + 13 - k) (k + 1) (by omega)))) (wr_k (j + 10))
theorem lpathsEx_k (k : Nat) (m : Nat) (hm : m ≤ 8) : LPathsEx m (Gam l (k + 1 + m) i__law_paths) := by
  induction m with
  | zero => exact lpathsEx_sem hm (fun k' h => by omega)
  | succ m ih => exact lpathsEx_sem hm (fun k' h => by
      have : k' = m := by omega
      subst this
      exact ih (by omega))
theorem lp_k (j : Nat) (m : Nat) (hm : m ≤ 8) : LPathsEx m (Gam l (j + 9) i__law_paths) := @lift (LPathsEx m) _ _ _ (by omega) (lpathsEx_k (j + 8 - m) m hm)
theorem sure_k2 (j : Nat) (k : Nat) (hk : k ≤ 7) : IsSureEx k (Gam l (j + 10) i__law_is_sure) := issureEx_sem (Γ := Gam l (j + 9)) hk (lp_k j (k + 1) (by omega)) (span_k (j + 7))
theorem int_k (k : Nat) : IntFn (Gam l (k + 1) i_is_integer) := int_sem _
theorem sign_k (k : Nat) : SignFn (Gam l (k + 2) i_is_sign) := sign_sem (Γ := Gam l (k + 1)) (int_k k)
theorem signrow_k (k : Nat) : SignRowFn (Gam l (k + 3) i_is_sign_row) := signrow_sem (Γ := Gam l (k + 2)) (sign_k k)
theorem sight_k (k : Nat) : SightFn (Gam l (k + 4) i_is_sight) := sight_sem (Γ := Gam l (k + 3)) (signrow_k k)
theorem value_k (k : Nat) : ValueFn (Gam l (k + 2) i_is_value) := value_sem (Γ := Gam l (k + 1)) (int_k k)
theorem celllot_k (k : Nat) : CellLotFn (Gam l (k + 2) i_is_cell_lot) := celllot_sem (Γ := Gam l (k + 1)) (int_k k)
theorem beg_k (k : Nat) : BegFn (Gam l (k + 1) i_is_begun) := beg_sem _
theorem bran_k (k : Nat) : BranFn (Gam l (k + 2) i_has_branches) := bran_sem (Γ := Gam l (k + 1)) (beg_k k)
theorem pairf_k (k : Nat) : PairFn (Gam l (k + 1) i_is_pair) := pairf_sem _
theorem lfault_k (k : Nat) : LFaultFn (Gam l (k + 5) i_look_fault) := lfault_sem (Γ := Gam l (k + 4)) { cells := cells_sem (Gam l (k + 3)), clot := celllot_k (k + 2), sight := sight_k k }
theorem nfault_k (k : Nat) : NFaultFn (Gam l (k + 6) i_node_fault) := nfault_sem (Γ := Gam l (k + 5)) { beg := beg_k (k + 4), bran := bran_k (k + 3), pair := pairf_k (k + 4), lf := lfault_k k, val := value_k (k + 3) }
theorem nodes_k (k : Nat) : NodesFn (Gam l (k + 3) i_nodes_in) := nodesin_sem (Γ := Gam l (k + 2)) (bran_k k) (pairf_k (k + 1))
theorem rerr_k (k : Nat) : RErrFn (Gam l (k + 7) i_reader_error) := rerr_sem (Γ := Gam l (k + 6)) (nodes_k (k + 3)) (nfault_k k)
theorem tells_k (k : Nat) (Γ' : Nat → Fn) : TellsFn (Gam l (k + 2) i_tells_in) (f__law_tells.sem Γ') := tells_sem (Γ := Gam l (k + 1)) (@seen_k k) (behind_sem (Gam l k))
theorem ts_k (k : Nat) : Ts (Gam l (k + 17)) where
  err := rerr_k (k + 10)
  paths := pofEx_sem (Γ := Gam l (k + 16)) (by decide) (pathsEx_k (k + 12) 3 (by decide))
  fill := fr_k k 2 (by decide)
  tells := tells_k (k + 15)
  wp := wp_k k 2 (by decide)
theorem life_k (k : Nat) : LifeFn2 (Gam l (k + 3) i__law_life) := life2_sem (Γ := Gam l (k + 2)) (@drawOk (k + 1)) (@pick_k k)
theorem as_k (k : Nat) : As0 (Gam l (k + 17)) (f__law_tells.sem (Gam l (k + 16))) where
  draw := @drawOk (k + 16)
  pick := @pick_k (k + 15)
  reader := @reader_k (k + 9)
  life := life_k (k + 14)
  fill := lfill_k (k + 11) 3
  paths := lpathsEx_k (k + 13) 3 (by decide)
  tells := ⟨_, tells_k 0 _⟩
  same := rfl
  sure := sure_k2 (k + 7) 2 (by decide)
theorem fs_k (k : Nat) : Fs (Gam l (k + 18)) where
  deck := deck_k (k + 17)
  draw := @drawOk (k + 17)
  table := table_k (k + 15)
  asks := ⟨_, ⟨_, rfl⟩, asks_sem (as_k k)⟩
  told := ⟨_, ts_k k, rfl⟩
  shows := lshows_sem (Γ := Gam l (k + 17)) (by decide) (lpathsEx_k (k + 13) 3 (by decide)) (@shown_k (k + 16))
theorem law_k (k : Nat) (ns : List Int) (hl : ns.length ≤ 63) : Gam l (k + 19) i_law [script ns] = .ok (.bool true) [] := law_sem (fs_k k) ns hl

end Tx
namespace Hd
open PySem PySem.Spec PyProof.Rows L2 Tx
def clsBody : Stmt → List Stmt
  | .ClassDef _ _ _ b _ _ _ _ _ _ _ => b
  | _ => []
def sub (i j : Nat) : Stmt := (clsBody (top i)).getD j (.Pass ⟨0, 0, 0, 0⟩)
def d0 : He.DefD := ⟨("is_integer", none), "is_integer", "is_integer", defArgs (top 5), defBody (top 5), defScope (top 5), [], []⟩
def d1 : He.DefD := ⟨("is_sign", none), "is_sign", "is_sign", defArgs (top 10), defBody (top 10), defScope (top 10), [], []⟩
def d2 : He.DefD := ⟨("is_sign_row", none), "is_sign_row", "is_sign_row", defArgs (top 11), defBody (top 11), defScope (top 11), [], []⟩
def d3 : He.DefD := ⟨("is_value", none), "is_value", "is_value", defArgs (top 12), defBody (top 12), defScope (top 12), [], []⟩
def d4 : He.DefD := ⟨("is_cell_lot", none), "is_cell_lot", "is_cell_lot", defArgs (top 13), defBody (top 13), defScope (top 13), [], []⟩
def d5 : He.DefD := ⟨("cells_of", none), "cells_of", "cells_of", defArgs (top 14), defBody (top 14), defScope (top 14), [], []⟩
def d6 : He.DefD := ⟨("seen", none), "seen", "seen", defArgs (top 15), defBody (top 15), defScope (top 15), [], []⟩
def d7 : He.DefD := ⟨("led_to", none), "led_to", "led_to", defArgs (top 17), defBody (top 17), defScope (top 17), [], []⟩
def d8 : He.DefD := ⟨("leading_to", none), "leading_to", "leading_to", defArgs (top 18), defBody (top 18), defScope (top 18), [], []⟩
def d9 : He.DefD := ⟨("come_to", none), "come_to", "come_to", defArgs (top 19), defBody (top 19), defScope (top 19), [], []⟩
def d10 : He.DefD := ⟨("lived_through", none), "lived_through", "lived_through", defArgs (top 20), defBody (top 20), defScope (top 20), [], []⟩
def d11 : He.DefD := ⟨("is_read", none), "is_read", "is_read", defArgs (top 21), defBody (top 21), defScope (top 21), [], []⟩
def d12 : He.DefD := ⟨("least_states", none), "least_states", "least_states", defArgs (top 22), defBody (top 22), defScope (top 22), [], []⟩
def d13 : He.DefD := ⟨("greatest_states", none), "greatest_states", "greatest_states", defArgs (top 23), defBody (top 23), defScope (top 23), [], []⟩
def d14 : He.DefD := ⟨("sure_states", none), "sure_states", "sure_states", defArgs (top 24), defBody (top 24), defScope (top 24), [], []⟩
def d15 : He.DefD := ⟨("sure_values", none), "sure_values", "sure_values", defArgs (top 25), defBody (top 25), defScope (top 25), [], []⟩
def d16 : He.DefD := ⟨("is_pair", none), "is_pair", "is_pair", defArgs (top 27), defBody (top 27), defScope (top 27), [], []⟩
def d17 : He.DefD := ⟨("is_begun", none), "is_begun", "is_begun", defArgs (top 28), defBody (top 28), defScope (top 28), [], []⟩
def d18 : He.DefD := ⟨("has_branches", none), "has_branches", "has_branches", defArgs (top 29), defBody (top 29), defScope (top 29), [], []⟩
def d19 : He.DefD := ⟨("nodes_in", none), "nodes_in", "nodes_in", defArgs (top 30), defBody (top 30), defScope (top 30), [], []⟩
def d20 : He.DefD := ⟨("is_sight", none), "is_sight", "is_sight", defArgs (top 31), defBody (top 31), defScope (top 31), [], []⟩
def d21 : He.DefD := ⟨("look_fault", none), "look_fault", "look_fault", defArgs (top 32), defBody (top 32), defScope (top 32), [], []⟩
def d22 : He.DefD := ⟨("node_fault", none), "node_fault", "node_fault", defArgs (top 33), defBody (top 33), defScope (top 33), [], []⟩
def d23 : He.DefD := ⟨("reader_error", none), "reader_error", "reader_error", defArgs (top 34), defBody (top 34), defScope (top 34), [], []⟩
def d24 : He.DefD := ⟨("paths_on", none), "paths_on", "paths_on", defArgs (top 35), defBody (top 35), defScope (top 35), [], []⟩
def d25 : He.DefD := ⟨("paths_of", none), "paths_of", "paths_of", defArgs (top 36), defBody (top 36), defScope (top 36), [], []⟩
def d26 : He.DefD := ⟨("wrong_run", none), "wrong_run", "wrong_run", defArgs (top 37), defBody (top 37), defScope (top 37), [], []⟩
def d27 : He.DefD := ⟨("wrong_path", none), "wrong_path", "wrong_path", defArgs (top 38), defBody (top 38), defScope (top 38), [], []⟩
def d28 : He.DefD := ⟨("filled_leaf", none), "filled_leaf", "filled_leaf", defArgs (top 39), defBody (top 39), defScope (top 39), [], []⟩
def d29 : He.DefD := ⟨("filled_on", none), "filled_on", "filled_on", defArgs (top 40), defBody (top 40), defScope (top 40), [], []⟩
def d30 : He.DefD := ⟨("filled_reader", none), "filled_reader", "filled_reader", defArgs (top 41), defBody (top 41), defScope (top 41), [], []⟩
def d31 : He.DefD := ⟨("node_behind", none), "node_behind", "node_behind", defArgs (top 43), defBody (top 43), defScope (top 43), [], []⟩
def d32 : He.DefD := ⟨("tells_in", none), "tells_in", "tells_in", defArgs (top 44), defBody (top 44), defScope (top 44), [], []⟩
def d33 : He.DefD := ⟨("_law_deck", none), "_law_deck", "_law_deck", defArgs (top 46), defBody (top 46), defScope (top 46), [], []⟩
def d34 : He.DefD := ⟨("_law_draw", none), "_law_draw", "_law_draw", defArgs (top 47), defBody (top 47), defScope (top 47), [], []⟩
def d35 : He.DefD := ⟨("_law_pick", none), "_law_pick", "_law_pick", defArgs (top 48), defBody (top 48), defScope (top 48), [], []⟩
def d36 : He.DefD := ⟨("_law_table", none), "_law_table", "_law_table", defArgs (top 49), defBody (top 49), defScope (top 49), [], []⟩
def d37 : He.DefD := ⟨("_law_lot", none), "_law_lot", "_law_lot", defArgs (top 50), defBody (top 50), defScope (top 50), [], []⟩
def d38 : He.DefD := ⟨("_law_shown", none), "_law_shown", "_law_shown", defArgs (top 51), defBody (top 51), defScope (top 51), [], []⟩
def d39 : He.DefD := ⟨("_law_leaf", none), "_law_leaf", "_law_leaf", defArgs (top 52), defBody (top 52), defScope (top 52), [], []⟩
def d40 : He.DefD := ⟨("_law_node", none), "_law_node", "_law_node", defArgs (top 53), defBody (top 53), defScope (top 53), [], []⟩
def d41 : He.DefD := ⟨("_law_count", none), "_law_count", "_law_count", defArgs (top 54), defBody (top 54), defScope (top 54), [], []⟩
def d42 : He.DefD := ⟨("_law_reader", none), "_law_reader", "_law_reader", defArgs (top 55), defBody (top 55), defScope (top 55), [], []⟩
def d43 : He.DefD := ⟨("_law_paths", none), "_law_paths", "_law_paths", defArgs (top 56), defBody (top 56), defScope (top 56), [], []⟩
def d44 : He.DefD := ⟨("_law_tells", none), "_law_tells", "_law_tells", defArgs (top 57), defBody (top 57), defScope (top 57), [], []⟩
def d45 : He.DefD := ⟨("_law_life", none), "_law_life", "_law_life", defArgs (top 58), defBody (top 58), defScope (top 58), [], []⟩
def d46 : He.DefD := ⟨("_law_span", none), "_law_span", "_law_span", defArgs (top 59), defBody (top 59), defScope (top 59), [], []⟩
def d47 : He.DefD := ⟨("_law_filled", none), "_law_filled", "_law_filled", defArgs (top 60), defBody (top 60), defScope (top 60), [], []⟩
def d48 : He.DefD := ⟨("_law_is_sure", none), "_law_is_sure", "_law_is_sure", defArgs (top 61), defBody (top 61), defScope (top 61), [], []⟩
def d49 : He.DefD := ⟨("_law_asks", none), "_law_asks", "_law_asks", defArgs (top 62), defBody (top 62), defScope (top 62), [], []⟩
def d50 : He.DefD := ⟨("_law_told", none), "_law_told", "_law_told", defArgs (top 63), defBody (top 63), defScope (top 63), [], []⟩
def d51 : He.DefD := ⟨("_law_shows", none), "_law_shows", "_law_shows", defArgs (top 64), defBody (top 64), defScope (top 64), [], []⟩
def d52 : He.DefD := ⟨("law", none), "law", "law", defArgs (top 65), defBody (top 65), defScope (top 65), [], []⟩
def fn : List He.DefD := [d0, d1, d2, d3, d4, d5, d6, d7, d8, d9, d10, d11, d12, d13, d14, d15, d16, d17, d18, d19, d20, d21, d22, d23, d24, d25, d26, d27, d28, d29, d30, d31, d32, d33, d34, d35, d36, d37, d38, d39, d40, d41, d42, d43, d44, d45, d46, d47, d48, d49, d50, d51, d52]
def fa : List He.Fa := [.glo "is_integer", .glo "is_sign", .glo "is_sign_row", .glo "is_value", .glo "is_cell_lot", .glo "cells_of", .glo "seen", .glo "led_to", .glo "leading_to", .glo "come_to", .glo "lived_through", .glo "is_read", .glo "least_states", .glo "greatest_states", .glo "sure_states", .glo "sure_values", .glo "is_pair", .glo "is_begun", .glo "has_branches", .glo "nodes_in", .glo "is_sight", .glo "look_fault", .glo "node_fault", .glo "reader_error", .glo "paths_on", .glo "paths_of", .glo "wrong_run", .glo "wrong_path", .glo "filled_leaf", .glo "filled_on", .glo "filled_reader", .glo "node_behind", .glo "tells_in", .glo "_law_deck", .glo "_law_draw", .glo "_law_pick", .glo "_law_table", .glo "_law_lot", .glo "_law_shown", .glo "_law_leaf", .glo "_law_node", .glo "_law_count", .glo "_law_reader", .glo "_law_paths", .glo "_law_tells", .glo "_law_life", .glo "_law_span", .glo "_law_filled", .glo "_law_is_sure", .glo "_law_asks", .glo "_law_told", .glo "_law_shows", .glo "law", .free "ValueError", .free "abs", .free "all", .free "bool", .free "enumerate", .free "int", .free "isinstance", .free "len", .free "list", .free "max", .free "min", .free "range", .free "repr", .free "set", .free "sorted", .free "str", .free "sum", .free "super", .free "tuple", .free "zip", .int "MAX_LOOKS" 8, .int "MAX_NODES" 60, .int "MAX_SIGN" 199, .int "MAX_VALUE" 1000000000000]
abbrev R : PySem.W.OpenRow := PySem.W.OpenLaw.row PySem.Challenge.rw_tornreads_k75_readers_by_names_and_again
abbrev hk : PySem.W.Hook := He.hookD 5 fa fn
def ob (s : PySem.W.SharedT) : He.AlD := He.obsDG 5 fa fn (HandSHeadRun.getT s)
theorem ob_eq (s : PySem.W.SharedT) : ob s = hk.obs s.abs := He.obsDG_eq (HandSHeadRun.getT_eq s)
def loose : List Str := (["is_begun", "is_sign_row", "_law_told", "_law_tells", "sure_values", "_law_asks", "is_pair", "tells_in", "filled_reader", "_law_count", "MAX_VALUE", "is_integer", "is_sign", "wrong_path", "_law_shown", "led_to", "look_fault", "paths_of", "_law_table", "_law_lot", "_law_paths", "is_value", "_law_shows", "paths_on", "_law_deck", "_law_span", "nodes_in", "seen", "reader_error", "_law_pick"] : List Str) ++ (["has_branches", "filled_on", "greatest_states", "come_to", "MAX_SIGN", "is_read", "MAX_LOOKS", "_law_leaf", "_law_life", "_law_node", "leading_to", "sure_states", "node_behind", "least_states", "TornError", "MAX_NODES", "_law_reader", "node_fault", "wrong_run", "cells_of", "lived_through", "is_sight", "is_cell_lot", "filled_leaf", "_law_draw", "_law_is_sure", "NoRun", "_law_filled"] : List Str)
theorem run (w : World) : HandSHeadRun.RunEq R (PySem.W.view R.prog [65]) hk ob 20000 loose w := by
  intro os
  kernel_rfl
end Hd

namespace Hd
open PySem PySem.Spec PyProof.Rows L2 TV Tx
section
variable {K : PySem.W.Frag} {h : Heap} {mg : Str → Option Value}
theorem ok0 (X : K.In h) (G : h.Ns mainGlobals mg) (c : He.SaysD fa fn K) : ∃ f fd, DfOk K mg l B f_is_integer f fd := by
  obtain ⟨fd, F⟩ := c.def_ 0 (d := d0) rfl
  exact ⟨_, fd, ⟨_, _, _, _, _, _, _, F, ck_is_integer⟩, He.glo_ok X G (c.fact 0 (f := .glo "is_integer") rfl), F.bindsN fun _ _ _ _ _ _ us hl => match us, hl with | [_], _ => rfl, kb_nil⟩
theorem ok1 (X : K.In h) (G : h.Ns mainGlobals mg) (c : He.SaysD fa fn K) : ∃ f fd, DfOk K mg l B f_is_sign f fd := by
  obtain ⟨fd, F⟩ := c.def_ 1 (d := d1) rfl
  exact ⟨_, fd, ⟨_, _, _, _, _, _, _, F, ck_is_sign⟩, He.glo_ok X G (c.fact 1 (f := .glo "is_sign") rfl), F.bindsN fun _ _ _ _ _ _ us hl => match us, hl with | [_], _ => rfl, kb_nil⟩
theorem ok2 (X : K.In h) (G : h.Ns mainGlobals mg) (c : He.SaysD fa fn K) : ∃ f fd, DfOk K mg l B f_is_sign_row f fd := by
  obtain ⟨fd, F⟩ := c.def_ 2 (d := d2) rfl
  exact ⟨_, fd, ⟨_, _, _, _, _, _, _, F, ck_is_sign_row⟩, He.glo_ok X G (c.fact 2 (f := .glo "is_sign_row") rfl), F.bindsN fun _ _ _ _ _ _ us hl => match us, hl with | [_], _ => rfl, kb_nil⟩
theorem ok3 (X : K.In h) (G : h.Ns mainGlobals mg) (c : He.SaysD fa fn K) : ∃ f fd, DfOk K mg l B f_is_value f fd := by
  obtain ⟨fd, F⟩ := c.def_ 3 (d := d3) rfl
  exact ⟨_, fd, ⟨_, _, _, _, _, _, _, F, ck_is_value⟩, He.glo_ok X G (c.fact 3 (f := .glo "is_value") rfl), F.bindsN fun _ _ _ _ _ _ us hl => match us, hl with | [_], _ => rfl, kb_nil⟩
theorem ok4 (X : K.In h) (G : h.Ns mainGlobals mg) (c : He.SaysD fa fn K) : ∃ f fd, DfOk K mg l B f_is_cell_lot f fd := by
  obtain ⟨fd, F⟩ := c.def_ 4 (d := d4) rfl
  exact ⟨_, fd, ⟨_, _, _, _, _, _, _, F, ck_is_cell_lot⟩, He.glo_ok X G (c.fact 4 (f := .glo "is_cell_lot") rfl), F.bindsN fun _ _ _ _ _ _ us hl => match us, hl with | [_, _], _ => rfl, kb_nil⟩
theorem ok5 (X : K.In h) (G : h.Ns mainGlobals mg) (c : He.SaysD fa fn K) : ∃ f fd, DfOk K mg l B f_cells_of f fd := by
  obtain ⟨fd, F⟩ := c.def_ 5 (d := d5) rfl
  exact ⟨_, fd, ⟨_, _, _, _, _, _, _, F, ck_cells_of⟩, He.glo_ok X G (c.fact 5 (f := .glo "cells_of") rfl), F.bindsN fun _ _ _ _ _ _ us hl => match us, hl with | [_], _ => rfl, kb_nil⟩
theorem ok6 (X : K.In h) (G : h.Ns mainGlobals mg) (c : He.SaysD fa fn K) : ∃ f fd, DfOk K mg l B f_seen f fd := by
  obtain ⟨fd, F⟩ := c.def_ 6 (d := d6) rfl
  exact ⟨_, fd, ⟨_, _, _, _, _, _, _, F, ck_seen⟩, He.glo_ok X G (c.fact 6 (f := .glo "seen") rfl), F.bindsN fun _ _ _ _ _ _ us hl => match us, hl with | [_, _, _], _ => rfl, kb_nil⟩
theorem ok7 (X : K.In h) (G : h.Ns mainGlobals mg) (c : He.SaysD fa fn K) : ∃ f fd, DfOk K mg l B f_led_to f fd := by
  obtain ⟨fd, F⟩ := c.def_ 7 (d := d7) rfl
  exact ⟨_, fd, ⟨_, _, _, _, _, _, _, F, ck_led_to⟩, He.glo_ok X G (c.fact 7 (f := .glo "led_to") rfl), F.bindsN fun _ _ _ _ _ _ us hl => match us, hl with | [_, _, _], _ => rfl, kb_nil⟩
theorem ok8 (X : K.In h) (G : h.Ns mainGlobals mg) (c : He.SaysD fa fn K) : ∃ f fd, DfOk K mg l B f_leading_to f fd := by
  obtain ⟨fd, F⟩ := c.def_ 8 (d := d8) rfl
  exact ⟨_, fd, ⟨_, _, _, _, _, _, _, F, ck_leading_to⟩, He.glo_ok X G (c.fact 8 (f := .glo "leading_to") rfl), F.bindsN fun _ _ _ _ _ _ us hl => match us, hl with | [_, _, _], _ => rfl, kb_nil⟩
theorem ok9 (X : K.In h) (G : h.Ns mainGlobals mg) (c : He.SaysD fa fn K) : ∃ f fd, DfOk K mg l B f_come_to f fd := by
  obtain ⟨fd, F⟩ := c.def_ 9 (d := d9) rfl
  exact ⟨_, fd, ⟨_, _, _, _, _, _, _, F, ck_come_to⟩, He.glo_ok X G (c.fact 9 (f := .glo "come_to") rfl), F.bindsN fun _ _ _ _ _ _ us hl => match us, hl with | [_, _, _, _], _ => rfl, kb_nil⟩
theorem ok10 (X : K.In h) (G : h.Ns mainGlobals mg) (c : He.SaysD fa fn K) : ∃ f fd, DfOk K mg l B f_lived_through f fd := by
  obtain ⟨fd, F⟩ := c.def_ 10 (d := d10) rfl
  exact ⟨_, fd, ⟨_, _, _, _, _, _, _, F, ck_lived_through⟩, He.glo_ok X G (c.fact 10 (f := .glo "lived_through") rfl), F.bindsN fun _ _ _ _ _ _ us hl => match us, hl with | [_, _, _, _], _ => rfl, kb_nil⟩
theorem ok11 (X : K.In h) (G : h.Ns mainGlobals mg) (c : He.SaysD fa fn K) : ∃ f fd, DfOk K mg l B f_is_read f fd := by
  obtain ⟨fd, F⟩ := c.def_ 11 (d := d11) rfl
  exact ⟨_, fd, ⟨_, _, _, _, _, _, _, F, ck_is_read⟩, He.glo_ok X G (c.fact 11 (f := .glo "is_read") rfl), F.bindsN fun _ _ _ _ _ _ us hl => match us, hl with | [_, _, _, _], _ => rfl, kb_nil⟩
theorem ok12 (X : K.In h) (G : h.Ns mainGlobals mg) (c : He.SaysD fa fn K) : ∃ f fd, DfOk K mg l B f_least_states f fd := by
  obtain ⟨fd, F⟩ := c.def_ 12 (d := d12) rfl
  exact ⟨_, fd, ⟨_, _, _, _, _, _, _, F, ck_least_states⟩, He.glo_ok X G (c.fact 12 (f := .glo "least_states") rfl), F.bindsN fun _ _ _ _ _ _ us hl => match us, hl with | [_, _, _, _], _ => rfl, kb_nil⟩
theorem ok13 (X : K.In h) (G : h.Ns mainGlobals mg) (c : He.SaysD fa fn K) : ∃ f fd, DfOk K mg l B f_greatest_states f fd := by
  obtain ⟨fd, F⟩ := c.def_ 13 (d := d13) rfl
  exact ⟨_, fd, ⟨_, _, _, _, _, _, _, F, ck_greatest_states⟩, He.glo_ok X G (c.fact 13 (f := .glo "greatest_states") rfl), F.bindsN fun _ _ _ _ _ _ us hl => match us, hl with | [_, _, _, _], _ => rfl, kb_nil⟩
theorem ok14 (X : K.In h) (G : h.Ns mainGlobals mg) (c : He.SaysD fa fn K) : ∃ f fd, DfOk K mg l B f_sure_states f fd := by
  obtain ⟨fd, F⟩ := c.def_ 14 (d := d14) rfl
  exact ⟨_, fd, ⟨_, _, _, _, _, _, _, F, ck_sure_states⟩, He.glo_ok X G (c.fact 14 (f := .glo "sure_states") rfl), F.bindsN fun _ _ _ _ _ _ us hl => match us, hl with | [_, _, _, _], _ => rfl, kb_nil⟩
theorem ok15 (X : K.In h) (G : h.Ns mainGlobals mg) (c : He.SaysD fa fn K) : ∃ f fd, DfOk K mg l B f_sure_values f fd := by
  obtain ⟨fd, F⟩ := c.def_ 15 (d := d15) rfl
  exact ⟨_, fd, ⟨_, _, _, _, _, _, _, F, ck_sure_values⟩, He.glo_ok X G (c.fact 15 (f := .glo "sure_values") rfl), F.bindsN fun _ _ _ _ _ _ us hl => match us, hl with | [_, _, _, _], _ => rfl, kb_nil⟩
theorem ok16 (X : K.In h) (G : h.Ns mainGlobals mg) (c : He.SaysD fa fn K) : ∃ f fd, DfOk K mg l B f_is_pair f fd := by
  obtain ⟨fd, F⟩ := c.def_ 16 (d := d16) rfl
  exact ⟨_, fd, ⟨_, _, _, _, _, _, _, F, ck_is_pair⟩, He.glo_ok X G (c.fact 16 (f := .glo "is_pair") rfl), F.bindsN fun _ _ _ _ _ _ us hl => match us, hl with | [_], _ => rfl, kb_nil⟩
theorem ok17 (X : K.In h) (G : h.Ns mainGlobals mg) (c : He.SaysD fa fn K) : ∃ f fd, DfOk K mg l B f_is_begun f fd := by
  obtain ⟨fd, F⟩ := c.def_ 17 (d := d17) rfl
  exact ⟨_, fd, ⟨_, _, _, _, _, _, _, F, ck_is_begun⟩, He.glo_ok X G (c.fact 17 (f := .glo "is_begun") rfl), F.bindsN fun _ _ _ _ _ _ us hl => match us, hl with | [_, _, _], _ => rfl, kb_nil⟩
theorem ok18 (X : K.In h) (G : h.Ns mainGlobals mg) (c : He.SaysD fa fn K) : ∃ f fd, DfOk K mg l B f_has_branches f fd := by
  obtain ⟨fd, F⟩ := c.def_ 18 (d := d18) rfl
  exact ⟨_, fd, ⟨_, _, _, _, _, _, _, F, ck_has_branches⟩, He.glo_ok X G (c.fact 18 (f := .glo "has_branches") rfl), F.bindsN fun _ _ _ _ _ _ us hl => match us, hl with | [_], _ => rfl, kb_nil⟩
theorem ok19 (X : K.In h) (G : h.Ns mainGlobals mg) (c : He.SaysD fa fn K) : ∃ f fd, DfOk K mg l B f_nodes_in f fd := by
  obtain ⟨fd, F⟩ := c.def_ 19 (d := d19) rfl
  exact ⟨_, fd, ⟨_, _, _, _, _, _, _, F, ck_nodes_in⟩, He.glo_ok X G (c.fact 19 (f := .glo "nodes_in") rfl), F.bindsN fun _ _ _ _ _ _ us hl => match us, hl with | [_], _ => rfl, kb_nil⟩
theorem ok20 (X : K.In h) (G : h.Ns mainGlobals mg) (c : He.SaysD fa fn K) : ∃ f fd, DfOk K mg l B f_is_sight f fd := by
  obtain ⟨fd, F⟩ := c.def_ 20 (d := d20) rfl
  exact ⟨_, fd, ⟨_, _, _, _, _, _, _, F, ck_is_sight⟩, He.glo_ok X G (c.fact 20 (f := .glo "is_sight") rfl), F.bindsN fun _ _ _ _ _ _ us hl => match us, hl with | [_, _], _ => rfl, kb_nil⟩
theorem ok21 (X : K.In h) (G : h.Ns mainGlobals mg) (c : He.SaysD fa fn K) : ∃ f fd, DfOk K mg l B f_look_fault f fd := by
  obtain ⟨fd, F⟩ := c.def_ 21 (d := d21) rfl
  exact ⟨_, fd, ⟨_, _, _, _, _, _, _, F, ck_look_fault⟩, He.glo_ok X G (c.fact 21 (f := .glo "look_fault") rfl), F.bindsN fun _ _ _ _ _ _ us hl => match us, hl with | [_, _, _], _ => rfl, kb_nil⟩
theorem ok22 (X : K.In h) (G : h.Ns mainGlobals mg) (c : He.SaysD fa fn K) : ∃ f fd, DfOk K mg l B f_node_fault f fd := by
  obtain ⟨fd, F⟩ := c.def_ 22 (d := d22) rfl
  exact ⟨_, fd, ⟨_, _, _, _, _, _, _, F, ck_node_fault⟩, He.glo_ok X G (c.fact 22 (f := .glo "node_fault") rfl), F.bindsN fun _ _ _ _ _ _ us hl => match us, hl with | [_, _, _, _], _ => rfl, kb_nil⟩
theorem ok23 (X : K.In h) (G : h.Ns mainGlobals mg) (c : He.SaysD fa fn K) : ∃ f fd, DfOk K mg l B f_reader_error f fd := by
  obtain ⟨fd, F⟩ := c.def_ 23 (d := d23) rfl
  exact ⟨_, fd, ⟨_, _, _, _, _, _, _, F, ck_reader_error⟩, He.glo_ok X G (c.fact 23 (f := .glo "reader_error") rfl), F.bindsN fun _ _ _ _ _ _ us hl => match us, hl with | [_, _], _ => rfl, kb_cons (kbd_of F fun _ _ _ _ _ _ us ws h1 h2 => match us, ws, h1, h2 with | [], [_, _], _, _ => rfl) (kb_nil)⟩
theorem ok24 (X : K.In h) (G : h.Ns mainGlobals mg) (c : He.SaysD fa fn K) : ∃ f fd, DfOk K mg l B f_paths_on f fd := by
  obtain ⟨fd, F⟩ := c.def_ 24 (d := d24) rfl
  exact ⟨_, fd, ⟨_, _, _, _, _, _, _, F, ck_paths_on⟩, He.glo_ok X G (c.fact 24 (f := .glo "paths_on") rfl), F.bindsN fun _ _ _ _ _ _ us hl => match us, hl with | [_, _, _], _ => rfl, kb_nil⟩
theorem ok25 (X : K.In h) (G : h.Ns mainGlobals mg) (c : He.SaysD fa fn K) : ∃ f fd, DfOk K mg l B f_paths_of f fd := by
  obtain ⟨fd, F⟩ := c.def_ 25 (d := d25) rfl
  exact ⟨_, fd, ⟨_, _, _, _, _, _, _, F, ck_paths_of⟩, He.glo_ok X G (c.fact 25 (f := .glo "paths_of") rfl), F.bindsN fun _ _ _ _ _ _ us hl => match us, hl with | [_], _ => rfl, kb_cons (kbd_of F fun _ _ _ _ _ _ us ws h1 h2 => match us, ws, h1, h2 with | [], [_], _, _ => rfl) (kb_nil)⟩
theorem ok26 (X : K.In h) (G : h.Ns mainGlobals mg) (c : He.SaysD fa fn K) : ∃ f fd, DfOk K mg l B f_wrong_run f fd := by
  obtain ⟨fd, F⟩ := c.def_ 26 (d := d26) rfl
  exact ⟨_, fd, ⟨_, _, _, _, _, _, _, F, ck_wrong_run⟩, He.glo_ok X G (c.fact 26 (f := .glo "wrong_run") rfl), F.bindsN fun _ _ _ _ _ _ us hl => match us, hl with | [_, _, _, _, _], _ => rfl, kb_nil⟩
theorem ok27 (X : K.In h) (G : h.Ns mainGlobals mg) (c : He.SaysD fa fn K) : ∃ f fd, DfOk K mg l B f_wrong_path f fd := by
  obtain ⟨fd, F⟩ := c.def_ 27 (d := d27) rfl
  exact ⟨_, fd, ⟨_, _, _, _, _, _, _, F, ck_wrong_path⟩, He.glo_ok X G (c.fact 27 (f := .glo "wrong_path") rfl), F.bindsN fun _ _ _ _ _ _ us hl => match us, hl with | [_, _, _], _ => rfl, kb_cons (kbd_of F fun _ _ _ _ _ _ us ws h1 h2 => match us, ws, h1, h2 with | [], [_, _, _], _, _ => rfl) (kb_nil)⟩
theorem ok28 (X : K.In h) (G : h.Ns mainGlobals mg) (c : He.SaysD fa fn K) : ∃ f fd, DfOk K mg l B f_filled_leaf f fd := by
  obtain ⟨fd, F⟩ := c.def_ 28 (d := d28) rfl
  exact ⟨_, fd, ⟨_, _, _, _, _, _, _, F, ck_filled_leaf⟩, He.glo_ok X G (c.fact 28 (f := .glo "filled_leaf") rfl), F.bindsN fun _ _ _ _ _ _ us hl => match us, hl with | [_, _, _, _], _ => rfl, kb_nil⟩
theorem ok29 (X : K.In h) (G : h.Ns mainGlobals mg) (c : He.SaysD fa fn K) : ∃ f fd, DfOk K mg l B f_filled_on f fd := by
  obtain ⟨fd, F⟩ := c.def_ 29 (d := d29) rfl
  exact ⟨_, fd, ⟨_, _, _, _, _, _, _, F, ck_filled_on⟩, He.glo_ok X G (c.fact 29 (f := .glo "filled_on") rfl), F.bindsN fun _ _ _ _ _ _ us hl => match us, hl with | [_, _, _, _, _], _ => rfl, kb_nil⟩
theorem ok30 (X : K.In h) (G : h.Ns mainGlobals mg) (c : He.SaysD fa fn K) : ∃ f fd, DfOk K mg l B f_filled_reader f fd := by
  obtain ⟨fd, F⟩ := c.def_ 30 (d := d30) rfl
  exact ⟨_, fd, ⟨_, _, _, _, _, _, _, F, ck_filled_reader⟩, He.glo_ok X G (c.fact 30 (f := .glo "filled_reader") rfl), F.bindsN fun _ _ _ _ _ _ us hl => match us, hl with | [_, _, _], _ => rfl, kb_cons (kbd_of F fun _ _ _ _ _ _ us ws h1 h2 => match us, ws, h1, h2 with | [], [_, _, _], _, _ => rfl) (kb_nil)⟩
theorem ok31 (X : K.In h) (G : h.Ns mainGlobals mg) (c : He.SaysD fa fn K) : ∃ f fd, DfOk K mg l B f_node_behind f fd := by
  obtain ⟨fd, F⟩ := c.def_ 31 (d := d31) rfl
  exact ⟨_, fd, ⟨_, _, _, _, _, _, _, F, ck_node_behind⟩, He.glo_ok X G (c.fact 31 (f := .glo "node_behind") rfl), F.bindsN fun _ _ _ _ _ _ us hl => match us, hl with | [_, _], _ => rfl, kb_nil⟩
theorem ok32 (X : K.In h) (G : h.Ns mainGlobals mg) (c : He.SaysD fa fn K) : ∃ f fd, DfOk K mg l B f_tells_in f fd := by
  obtain ⟨fd, F⟩ := c.def_ 32 (d := d32) rfl
  exact ⟨_, fd, ⟨_, _, _, _, _, _, _, F, ck_tells_in⟩, He.glo_ok X G (c.fact 32 (f := .glo "tells_in") rfl), F.bindsN fun _ _ _ _ _ _ us hl => match us, hl with | [_, _, _], _ => rfl, kb_cons (kbd_of F fun _ _ _ _ _ _ us ws h1 h2 => match us, ws, h1, h2 with | [], [_, _, _], _, _ => rfl) (kb_nil)⟩
theorem ok33 (X : K.In h) (G : h.Ns mainGlobals mg) (c : He.SaysD fa fn K) : ∃ f fd, DfOk K mg l B f__law_deck f fd := by
  obtain ⟨fd, F⟩ := c.def_ 33 (d := d33) rfl
  exact ⟨_, fd, ⟨_, _, _, _, _, _, _, F, ck__law_deck⟩, He.glo_ok X G (c.fact 33 (f := .glo "_law_deck") rfl), F.bindsN fun _ _ _ _ _ _ us hl => match us, hl with | [_], _ => rfl, kb_nil⟩
theorem ok34 (X : K.In h) (G : h.Ns mainGlobals mg) (c : He.SaysD fa fn K) : ∃ f fd, DfOk K mg l B f__law_draw f fd := by
  obtain ⟨fd, F⟩ := c.def_ 34 (d := d34) rfl
  exact ⟨_, fd, ⟨_, _, _, _, _, _, _, F, ck__law_draw⟩, He.glo_ok X G (c.fact 34 (f := .glo "_law_draw") rfl), F.bindsN fun _ _ _ _ _ _ us hl => match us, hl with | [_, _], _ => rfl, kb_nil⟩
theorem ok35 (X : K.In h) (G : h.Ns mainGlobals mg) (c : He.SaysD fa fn K) : ∃ f fd, DfOk K mg l B f__law_pick f fd := by
  obtain ⟨fd, F⟩ := c.def_ 35 (d := d35) rfl
  exact ⟨_, fd, ⟨_, _, _, _, _, _, _, F, ck__law_pick⟩, He.glo_ok X G (c.fact 35 (f := .glo "_law_pick") rfl), F.bindsN fun _ _ _ _ _ _ us hl => match us, hl with | [_, _], _ => rfl, kb_nil⟩
theorem ok36 (X : K.In h) (G : h.Ns mainGlobals mg) (c : He.SaysD fa fn K) : ∃ f fd, DfOk K mg l B f__law_table f fd := by
  obtain ⟨fd, F⟩ := c.def_ 36 (d := d36) rfl
  exact ⟨_, fd, ⟨_, _, _, _, _, _, _, F, ck__law_table⟩, He.glo_ok X G (c.fact 36 (f := .glo "_law_table") rfl), F.bindsN fun _ _ _ _ _ _ us hl => match us, hl with | [_, _], _ => rfl, kb_nil⟩
theorem ok37 (X : K.In h) (G : h.Ns mainGlobals mg) (c : He.SaysD fa fn K) : ∃ f fd, DfOk K mg l B f__law_lot f fd := by
  obtain ⟨fd, F⟩ := c.def_ 37 (d := d37) rfl
  exact ⟨_, fd, ⟨_, _, _, _, _, _, _, F, ck__law_lot⟩, He.glo_ok X G (c.fact 37 (f := .glo "_law_lot") rfl), F.bindsN fun _ _ _ _ _ _ us hl => match us, hl with | [_, _], _ => rfl, kb_nil⟩
theorem ok38 (X : K.In h) (G : h.Ns mainGlobals mg) (c : He.SaysD fa fn K) : ∃ f fd, DfOk K mg l B f__law_shown f fd := by
  obtain ⟨fd, F⟩ := c.def_ 38 (d := d38) rfl
  exact ⟨_, fd, ⟨_, _, _, _, _, _, _, F, ck__law_shown⟩, He.glo_ok X G (c.fact 38 (f := .glo "_law_shown") rfl), F.bindsN fun _ _ _ _ _ _ us hl => match us, hl with | [_, _, _], _ => rfl, kb_nil⟩
theorem ok39 (X : K.In h) (G : h.Ns mainGlobals mg) (c : He.SaysD fa fn K) : ∃ f fd, DfOk K mg l B f__law_leaf f fd := by
  obtain ⟨fd, F⟩ := c.def_ 39 (d := d39) rfl
  exact ⟨_, fd, ⟨_, _, _, _, _, _, _, F, ck__law_leaf⟩, He.glo_ok X G (c.fact 39 (f := .glo "_law_leaf") rfl), F.bindsN fun _ _ _ _ _ _ us hl => match us, hl with | [_, _], _ => rfl, kb_nil⟩
theorem ok40 (X : K.In h) (G : h.Ns mainGlobals mg) (c : He.SaysD fa fn K) : ∃ f fd, DfOk K mg l B f__law_node f fd := by
  obtain ⟨fd, F⟩ := c.def_ 40 (d := d40) rfl
  exact ⟨_, fd, ⟨_, _, _, _, _, _, _, F, ck__law_node⟩, He.glo_ok X G (c.fact 40 (f := .glo "_law_node") rfl), F.bindsN fun _ _ _ _ _ _ us hl => match us, hl with | [_, _, _], _ => rfl, kb_nil⟩
theorem ok41 (X : K.In h) (G : h.Ns mainGlobals mg) (c : He.SaysD fa fn K) : ∃ f fd, DfOk K mg l B f__law_count f fd := by
  obtain ⟨fd, F⟩ := c.def_ 41 (d := d41) rfl
  exact ⟨_, fd, ⟨_, _, _, _, _, _, _, F, ck__law_count⟩, He.glo_ok X G (c.fact 41 (f := .glo "_law_count") rfl), F.bindsN fun _ _ _ _ _ _ us hl => match us, hl with | [_], _ => rfl, kb_nil⟩
theorem ok42 (X : K.In h) (G : h.Ns mainGlobals mg) (c : He.SaysD fa fn K) : ∃ f fd, DfOk K mg l B f__law_reader f fd := by
  obtain ⟨fd, F⟩ := c.def_ 42 (d := d42) rfl
  exact ⟨_, fd, ⟨_, _, _, _, _, _, _, F, ck__law_reader⟩, He.glo_ok X G (c.fact 42 (f := .glo "_law_reader") rfl), F.bindsN fun _ _ _ _ _ _ us hl => match us, hl with | [_, _, _], _ => rfl, kb_nil⟩
theorem ok43 (X : K.In h) (G : h.Ns mainGlobals mg) (c : He.SaysD fa fn K) : ∃ f fd, DfOk K mg l B f__law_paths f fd := by
  obtain ⟨fd, F⟩ := c.def_ 43 (d := d43) rfl
  exact ⟨_, fd, ⟨_, _, _, _, _, _, _, F, ck__law_paths⟩, He.glo_ok X G (c.fact 43 (f := .glo "_law_paths") rfl), F.bindsN fun _ _ _ _ _ _ us hl => match us, hl with | [_, _, _], _ => rfl, kb_nil⟩
theorem ok44 (X : K.In h) (G : h.Ns mainGlobals mg) (c : He.SaysD fa fn K) : ∃ f fd, DfOk K mg l B f__law_tells f fd := by
  obtain ⟨fd, F⟩ := c.def_ 44 (d := d44) rfl
  exact ⟨_, fd, ⟨_, _, _, _, _, _, _, F, ck__law_tells⟩, He.glo_ok X G (c.fact 44 (f := .glo "_law_tells") rfl), F.bindsN fun _ _ _ _ _ _ us hl => match us, hl with | [_, _, _], _ => rfl, kb_nil⟩
theorem ok45 (X : K.In h) (G : h.Ns mainGlobals mg) (c : He.SaysD fa fn K) : ∃ f fd, DfOk K mg l B f__law_life f fd := by
  obtain ⟨fd, F⟩ := c.def_ 45 (d := d45) rfl
  exact ⟨_, fd, ⟨_, _, _, _, _, _, _, F, ck__law_life⟩, He.glo_ok X G (c.fact 45 (f := .glo "_law_life") rfl), F.bindsN fun _ _ _ _ _ _ us hl => match us, hl with | [_, _, _, _], _ => rfl, kb_nil⟩
theorem ok46 (X : K.In h) (G : h.Ns mainGlobals mg) (c : He.SaysD fa fn K) : ∃ f fd, DfOk K mg l B f__law_span f fd := by
  obtain ⟨fd, F⟩ := c.def_ 46 (d := d46) rfl
  exact ⟨_, fd, ⟨_, _, _, _, _, _, _, F, ck__law_span⟩, He.glo_ok X G (c.fact 46 (f := .glo "_law_span") rfl), F.bindsN fun _ _ _ _ _ _ us hl => match us, hl with | [_, _, _, _], _ => rfl, kb_nil⟩
theorem ok47 (X : K.In h) (G : h.Ns mainGlobals mg) (c : He.SaysD fa fn K) : ∃ f fd, DfOk K mg l B f__law_filled f fd := by
  obtain ⟨fd, F⟩ := c.def_ 47 (d := d47) rfl
  exact ⟨_, fd, ⟨_, _, _, _, _, _, _, F, ck__law_filled⟩, He.glo_ok X G (c.fact 47 (f := .glo "_law_filled") rfl), F.bindsN fun _ _ _ _ _ _ us hl => match us, hl with | [_, _, _, _, _], _ => rfl, kb_nil⟩
theorem ok48 (X : K.In h) (G : h.Ns mainGlobals mg) (c : He.SaysD fa fn K) : ∃ f fd, DfOk K mg l B f__law_is_sure f fd := by
  obtain ⟨fd, F⟩ := c.def_ 48 (d := d48) rfl
  exact ⟨_, fd, ⟨_, _, _, _, _, _, _, F, ck__law_is_sure⟩, He.glo_ok X G (c.fact 48 (f := .glo "_law_is_sure") rfl), F.bindsN fun _ _ _ _ _ _ us hl => match us, hl with | [_, _, _], _ => rfl, kb_nil⟩
theorem ok49 (X : K.In h) (G : h.Ns mainGlobals mg) (c : He.SaysD fa fn K) : ∃ f fd, DfOk K mg l B f__law_asks f fd := by
  obtain ⟨fd, F⟩ := c.def_ 49 (d := d49) rfl
  exact ⟨_, fd, ⟨_, _, _, _, _, _, _, F, ck__law_asks⟩, He.glo_ok X G (c.fact 49 (f := .glo "_law_asks") rfl), F.bindsN fun _ _ _ _ _ _ us hl => match us, hl with | [_, _], _ => rfl, kb_nil⟩
theorem ok50 (X : K.In h) (G : h.Ns mainGlobals mg) (c : He.SaysD fa fn K) : ∃ f fd, DfOk K mg l B f__law_told f fd := by
  obtain ⟨fd, F⟩ := c.def_ 50 (d := d50) rfl
  exact ⟨_, fd, ⟨_, _, _, _, _, _, _, F, ck__law_told⟩, He.glo_ok X G (c.fact 50 (f := .glo "_law_told") rfl), F.bindsN fun _ _ _ _ _ _ us hl => match us, hl with | [_, _, _], _ => rfl, kb_nil⟩
theorem ok51 (X : K.In h) (G : h.Ns mainGlobals mg) (c : He.SaysD fa fn K) : ∃ f fd, DfOk K mg l B f__law_shows f fd := by
  obtain ⟨fd, F⟩ := c.def_ 51 (d := d51) rfl
  exact ⟨_, fd, ⟨_, _, _, _, _, _, _, F, ck__law_shows⟩, He.glo_ok X G (c.fact 51 (f := .glo "_law_shows") rfl), F.bindsN fun _ _ _ _ _ _ us hl => match us, hl with | [_, _], _ => rfl, kb_nil⟩
theorem ok52 (X : K.In h) (G : h.Ns mainGlobals mg) (c : He.SaysD fa fn K) : ∃ f fd, DfOk K mg l B f_law f fd := by
  obtain ⟨fd, F⟩ := c.def_ 52 (d := d52) rfl
  exact ⟨_, fd, ⟨_, _, _, _, _, _, _, F, ck_law⟩, He.glo_ok X G (c.fact 52 (f := .glo "law") rfl), F.bindsN fun _ _ _ _ _ _ us hl => match us, hl with | [_], _ => rfl, kb_nil⟩
theorem oks (X : K.In h) (G : h.Ns mainGlobals mg) (c : He.SaysD fa fn K) : ∀ d ∈ l, ∃ f fd, DfOk K mg l B d f fd := all_cons (ok0 X G c) (all_cons (ok1 X G c) (all_cons (ok2 X G c) (all_cons (ok3 X G c) (all_cons (ok4 X G c) (all_cons (ok5 X G c) (all_cons (ok6 X G c) (all_cons (ok7 X G c) (all_cons (ok8 X G c) (all_cons (ok9 X G c) (all_cons (ok10 X G c) (all_cons (ok11 X G c) (all_cons (ok12 X G c) (all_cons (ok13 X G c) (all_cons (ok14 X G c) (all_cons (ok15 X G c) (all_cons (ok16 X G c) (all_cons (ok17 X G c) (all_cons (ok18 X G c) (all_cons (ok19 X G c) (all_cons (ok20 X G c) (all_cons (ok21 X G c) (all_cons (ok22 X G c) (all_cons (ok23 X G c) (all_cons (ok24 X G c) (all_cons (ok25 X G c) (all_cons (ok26 X G c) (all_cons (ok27 X G c) (all_cons (ok28 X G c) (all_cons (ok29 X G c) (all_cons (ok30 X G c) (all_cons (ok31 X G c) (all_cons (ok32 X G c) (all_cons (ok33 X G c) (all_cons (ok34 X G c) (all_cons (ok35 X G c) (all_cons (ok36 X G c) (all_cons (ok37 X G c) (all_cons (ok38 X G c) (all_cons (ok39 X G c) (all_cons (ok40 X G c) (all_cons (ok41 X G c) (all_cons (ok42 X G c) (all_cons (ok43 X G c) (all_cons (ok44 X G c) (all_cons (ok45 X G c) (all_cons (ok46 X G c) (all_cons (ok47 X G c) (all_cons (ok48 X G c) (all_cons (ok49 X G c) (all_cons (ok50 X G c) (all_cons (ok51 X G c) (all_cons (ok52 X G c) (all_nil)))))))))))))))))))))))))))))))))))))))))))))))))))))
theorem frees (X : K.In h) (G : h.Ns mainGlobals mg) (c : He.SaysD fa fn K) : ∀ b ∈ B, Fr mg b := all_cons (He.free_ok X G (c.fact 54 (f := .free "abs") rfl)) (all_cons (He.free_ok X G (c.fact 55 (f := .free "all") rfl)) (all_cons (He.free_ok X G (c.fact 56 (f := .free "bool") rfl)) (all_cons (He.free_ok X G (c.fact 57 (f := .free "enumerate") rfl)) (all_cons (He.free_ok X G (c.fact 58 (f := .free "int") rfl)) (all_cons (He.free_ok X G (c.fact 59 (f := .free "isinstance") rfl)) (all_cons (He.free_ok X G (c.fact 60 (f := .free "len") rfl)) (all_cons (He.free_ok X G (c.fact 61 (f := .free "list") rfl)) (all_cons (He.free_ok X G (c.fact 62 (f := .free "max") rfl)) (all_cons (He.free_ok X G (c.fact 63 (f := .free "min") rfl)) (all_cons (He.free_ok X G (c.fact 64 (f := .free "range") rfl)) (all_cons (He.free_ok X G (c.fact 65 (f := .free "repr") rfl)) (all_cons (He.free_ok X G (c.fact 66 (f := .free "set") rfl)) (all_cons (He.free_ok X G (c.fact 67 (f := .free "sorted") rfl)) (all_cons (He.free_ok X G (c.fact 68 (f := .free "str") rfl)) (all_cons (He.free_ok X G (c.fact 69 (f := .free "sum") rfl)) (all_cons (He.free_ok X G (c.fact 71 (f := .free "tuple") rfl)) (all_cons (He.free_ok X G (c.fact 72 (f := .free "zip") rfl)) (all_cons (He.int_ok X G (c.fact 73 (f := .int "MAX_LOOKS" 8) rfl)) (all_cons (He.int_ok X G (c.fact 74 (f := .int "MAX_NODES" 60) rfl)) (all_cons (He.int_ok X G (c.fact 75 (f := .int "MAX_SIGN" 199) rfl)) (all_cons (He.int_ok X G (c.fact 76 (f := .int "MAX_VALUE" 1000000000000) rfl)) (all_nil))))))))))))))))))))))
theorem facts {P : Program} {w : World} {EX : D → Value → Option Addr → Hp → Hp → Prop} {f : Addr} (X : K.In h) (G : h.Ns mainGlobals mg) (hfa : mg ("law" : Str) = some (.ref f)) (c : He.SaysD fa fn K) :
    ∃ fd : FuncData, (∀ (s : Shared) (v : Value), BindsTo s fd ⟨[v], []⟩ [("script", v)]) ∧ ∀ base : Heap, K.In base → base.Ns mainGlobals mg → FnG P w K mg base (L2.CX P w) 19 f fd ["script"] (spOf K EX ⟨"law", [.z], .s, Gam l 19 52⟩) := by
  obtain ⟨fd0, F0⟩ := c.def_ 52 (d := d52) rfl
  have e0 := hfa.symm.trans (He.glo_ok X G (c.fact 52 (f := .glo "law") rfl))
  cases e0
  have b := FunD.bindsA (ps := ["script"]) F0 fun _ _ _ _ _ _ us hl => match us, hl with | [_], _ => rfl
  exact ⟨fd0, fun s v => b s [v] rfl, fun base _ _ => law_fn2 (i := 52) (d := f_law) (oks X G c) (frees X G c) rfl ⟨⟨_, _, _, _, _, _, _, F0, ck_law⟩, He.glo_ok X G (c.fact 52 (f := .glo "law") rfl), F0.bindsN fun _ _ _ _ _ _ us hl => match us, hl with | [_], _ => rfl, kb_nil⟩ 18⟩
end
end Hd
open PySem PySem.W PySem.Calls PyProof.Rows
theorem PySem.Challenge.cw_tornreads_k75_readers_by_names_and_again_holds : PySem.Challenge.rw_tornreads_k75_readers_by_names_and_again.Holds := by
  w_on; o_law
  refine HandSHeadRun.head_any (r := OpenLaw.row PySem.Challenge.rw_tornreads_k75_readers_by_names_and_again) (q := view (OpenLaw.row PySem.Challenge.rw_tornreads_k75_readers_by_names_and_again).prog [65]) (H := Hd.hk) (ob := Hd.ob) (M := 20000) (loose := Hd.loose) (d := HandSHeadRun.topDef (OpenLaw.row PySem.Challenge.rw_tornreads_k75_readers_by_names_and_again).prog 65) (kwd := []) Hd.ob_eq
    (by kernel_rfl) (fun s => by kernel_rfl) Hd.run (by kernel_rfl) (by kernel_rfl) (by kernel_rfl) (by rfl) (by first | assumption | decide +kernel) (by decide +kernel) ⟨rfl, rfl, rfl, rfl, rfl, by decide +kernel⟩ ?hw ?hc
  case hw => w_witness2
  case hc =>
    refine TV.walk_law (l := PySem.Challenge.rw_tornreads_k75_readers_by_names_and_again) (n := 63) (k := 19) (x := "script") rfl (by decide) (by kernel_rfl) ⟨rfl, by decide, by decide⟩ ?F
    intro w mg fa h Y G hmg0
    obtain ⟨K, KX, c⟩ := Y
    have hmg : mg ("law" : PySem.Str) = some (.ref fa) := by
      have e : (HandSHeadRun.topDef (OpenLaw.row PySem.Challenge.rw_tornreads_k75_readers_by_names_and_again).prog 65).name = ("law" : PySem.Str) := by kernel_rfl
      rw [← e]
      exact hmg0
    obtain ⟨fd, hb, hF⟩ := Hd.facts (P := (PySem.Challenge.rw_tornreads_k75_readers_by_names_and_again).prog) (w := w) (EX := fun _ _ _ _ _ => False) KX G hmg c
    exact ⟨K, fd, fun _ => _, KX, hb, fun ns hl => ⟨fun T a hS => TV.sp_law hS (Tx.law_k 0 ns hl), hF⟩⟩
