import PyProof.Rows.All
import Wide.All
import OpenK.AllK
import Wide.FinOn
import PyProof.EqAt
import PyProof.EqKinds
import PyProof.TupleCall
import HandS.Base
import HandS.Call
import HandS.List
import HandS.Comp
import HandS.Dict
import HandS.Iter
import HandS.Text
import HandS.More
import HandS.Exc
import HandS.Ends
import HandS.Words
import HandS.WordsList
import HandS.WordsExc
import HandS.Defaults
import HandS.TupAny
import HandS.Conv
import HandS.Style
import HandS.Zip
import HandS.TupMul
import HandS.TupSets
import HandS.SortInts
import HandS.Star
import HandS.CallSlots
import KE.KeyNested
import HandS.TupLe
import HandS.IsInst
import HandS.Deep
import KE.GoesZip
import KE.GoesMore
import KE.KDictZip
import KE.KStateDown
import Lean
import HandS.Head0
import HandS.Head1
import HandS.Head2
import HandS.HeadEnd
import HandS.HeadHook1
import HandS.HeadHook2
import PySem.Challenge.RW_tornreads_k68_whole_paths_of_readers
set_option Elab.async false
set_option linter.all false
set_option maxRecDepth 100000

set_option maxHeartbeats 0
/-! V1: data in the heap: shared data, owned data, the relation of an environment of data with the slots and the heap. -/
namespace TV
open PySem L2
abbrev D := PyData
abbrev Env := List (Option D)
/-- the shape of a slot's value: s shared data; l an owned list of such; r an owned dict with these keys, true: an owned list of shared data; z the script -/
inductive Sh where
  | s | l (e : Sh) | r (ks : List (Str × Bool)) | z
  deriving DecidableEq, Inhabited
def kD : Key → D
  | .inl i => .int i
  | .inr x => .str x
def kT (ks : List Key) : D := .tuple (ks.map kD)
mutual
/-- shared data -/
inductive Dv (K : PySem.W.Frag) (B : Hp) : V → D → Prop where
  | non : Dv K B .non .none
  | bl (b : Bool) : Dv K B (.bl b) (.bool b)
  | int (i : Int) : Dv K B (.int i) (.int i)
  | str (x : Str) : Dv K B (.str x) (.str x)
  | lst {a : Addr} {xs : List V} {ds : List D} : B a = some (.lst xs) → DvAll K B xs ds → Dv K B (.ref a) (.list ds)
  | tup {a : Addr} {xs : List V} {ds : List D} : SqT K B a xs → DvAll K B xs ds → Dv K B (.ref a) (.tuple ds)
  | dk {a : Addr} {kvs : List (Key × V)} {ds : List D} : B a = some (.dK kvs) → DvAll K B (kvs.map (·.2)) ds → Dv K B (.ref a) (.dict ((kvs.map fun q => kD q.1).zip ds))
  | dt {a : Addr} {kvs : List (List Key × V)} {ds : List D} : B a = some (.dT kvs) → DvAll K B (kvs.map (·.2)) ds → Dv K B (.ref a) (.dict ((kvs.map fun q => kT q.1).zip ds))
inductive DvAll (K : PySem.W.Frag) (B : Hp) : List V → List D → Prop where
  | nil : DvAll K B [] []
  | cons {v : V} {vs : List V} {d : D} {ds : List D} : Dv K B v d → DvAll K B vs ds → DvAll K B (v :: vs) (d :: ds)
end
theorem Le.tup {K : PySem.W.Frag} {B B' : Hp} {a : Addr} {xs : List V} (e : Same B B') (h : SqT K B a xs) : SqT K B' a xs := by
  rcases h with (h | ⟨o, h⟩) | h
  · exact .inl (.inl (e _ _ h))
  · exact .inl (.inr ⟨o, e _ _ h⟩)
  · exact .inr h
mutual
theorem Dv.mono {K : PySem.W.Frag} {B B' : Hp} (e : Same B B') : ∀ {v : V} {d : D}, Dv K B v d → Dv K B' v d
  | _, _, .non => .non
  | _, _, .bl b => .bl b
  | _, _, .int i => .int i
  | _, _, .str x => .str x
  | _, _, .lst h t => .lst (e _ _ h) (DvAll.mono e t)
  | _, _, .tup h t => .tup (Le.tup e h) (DvAll.mono e t)
  | _, _, .dk h t => .dk (e _ _ h) (DvAll.mono e t)
  | _, _, .dt h t => .dt (e _ _ h) (DvAll.mono e t)
theorem DvAll.mono {K : PySem.W.Frag} {B B' : Hp} (e : Same B B') : ∀ {vs : List V} {ds : List D}, DvAll K B vs ds → DvAll K B' vs ds
  | _, _, .nil => .nil
  | _, _, .cons h t => .cons (Dv.mono e h) (DvAll.mono e t)
end
section
variable {K : PySem.W.Frag} {B B' G G' H H' : Hp}
theorem DvAll.length : ∀ {vs : List V} {ds : List D}, DvAll K B vs ds → vs.length = ds.length
  | _, _, .nil => rfl
  | _, _, .cons _ t => congrArg (· + 1) (DvAll.length t)
theorem DvAll.get : ∀ {vs : List V} {ds : List D} {i : Nat} {d : D}, DvAll K B vs ds → ds[i]? = some d → ∃ v, vs[i]? = some v ∧ Dv K B v d
  | _, _, _, _, .nil, e => by simp at e
  | _, _, 0, _, .cons h _, e => by simp at e; subst e; exact ⟨_, rfl, h⟩
  | _, _, i + 1, d, .cons _ t, e => by
    obtain ⟨v, h1, h2⟩ := DvAll.get (i := i) (d := d) t (by simpa using e)
    exact ⟨v, by simpa using h1, h2⟩
theorem DvAll.get' : ∀ {vs : List V} {ds : List D} {i : Nat} {v : V}, DvAll K B vs ds → vs[i]? = some v → ∃ d, ds[i]? = some d ∧ Dv K B v d
  | _, _, _, _, .nil, e => by simp at e
  | _, _, 0, _, .cons h _, e => by simp at e; subst e; exact ⟨_, rfl, h⟩
  | _, _, i + 1, v, .cons _ t, e => by
    obtain ⟨d, h1, h2⟩ := DvAll.get' (i := i) (v := v) t (by simpa using e)
    exact ⟨d, by simpa using h1, h2⟩
theorem DvAll.append : ∀ {vs us : List V} {ds es : List D}, DvAll K B vs ds → DvAll K B us es → DvAll K B (vs ++ us) (ds ++ es)
  | _, _, _, _, .nil, s => s
  | _, _, _, _, .cons r t, s => .cons r (DvAll.append t s)
theorem DvAll.take : ∀ {vs : List V} {ds : List D} (n : Nat), DvAll K B vs ds → DvAll K B (vs.take n) (ds.take n)
  | _, _, 0, _ => .nil
  | _, _, _ + 1, .nil => .nil
  | _, _, n + 1, .cons r t => .cons r (DvAll.take n t)
theorem DvAll.drop : ∀ {vs : List V} {ds : List D} (n : Nat), DvAll K B vs ds → DvAll K B (vs.drop n) (ds.drop n)
  | _, _, 0, r => r
  | _, _, _ + 1, .nil => .nil
  | _, _, n + 1, .cons _ t => DvAll.drop n t
theorem DvAll.reverse {vs : List V} {ds : List D} (h : DvAll K B vs ds) : DvAll K B vs.reverse ds.reverse := by
  induction vs generalizing ds with
  | nil => cases h; exact .nil
  | cons v vs ih =>
    cases h with
    | cons h t =>
      simp only [List.reverse_cons]
      exact DvAll.append (ih t) (.cons h .nil)
theorem DvAll.set {v : V} {d : D} (r : Dv K B v d) : ∀ {vs : List V} {ds : List D} (i : Nat), DvAll K B vs ds → DvAll K B (vs.set i v) (ds.set i d)
  | _, _, _, .nil => .nil
  | _, _, 0, .cons _ t => .cons r t
  | _, _, i + 1, .cons q t => .cons q (DvAll.set r i t)
theorem DvAll.eraseIdx : ∀ {vs : List V} {ds : List D} (i : Nat), DvAll K B vs ds → DvAll K B (vs.eraseIdx i) (ds.eraseIdx i)
  | _, _, _, .nil => .nil
  | _, _, 0, .cons _ t => t
  | _, _, i + 1, .cons q t => .cons q (DvAll.eraseIdx i t)
theorem DvAll.dropLast {vs : List V} {ds : List D} (h : DvAll K B vs ds) : DvAll K B vs.dropLast ds.dropLast := by
  rw [List.dropLast_eq_take, List.dropLast_eq_take, h.length]
  exact h.take _
/-- a dict's rows -/
inductive OwD (K : PySem.W.Frag) (B : Hp) : List (Key × V) → List (D × D) → Prop where
  | nil : OwD K B [] []
  | cons {k : Key} {v : V} {d : D} {kvs : List (Key × V)} {ps : List (D × D)} : Dv K B v d → OwD K B kvs ps → OwD K B ((k, v) :: kvs) ((kD k, d) :: ps)
theorem OwD.mono (e : Same B B') {kvs : List (Key × V)} {ps : List (D × D)} (h : OwD K B kvs ps) : OwD K B' kvs ps := by
  induction h with
  | nil => exact .nil
  | cons h _ ih => exact .cons (h.mono e) ih
theorem OwD.length {kvs : List (Key × V)} {ps : List (D × D)} (h : OwD K B kvs ps) : kvs.length = ps.length := by
  induction h with
  | nil => rfl
  | cons h _ ih => simp [ih]
mutual
/-- owned data, with the addresses that are owned -/
inductive Ow (K : PySem.W.Frag) (B G H : Hp) : Sh → D → V → List Addr → Prop where
  | s {d : D} {v : V} : Dv K B v d → Ow K B G H .s d v []
  | z {ds : List D} {a : Addr} {vs : List V} : SqL K G a vs → DvAll K B vs ds → Ow K B G H .z (.list ds) (.ref a) []
  | l {e : Sh} {ds : List D} {a : Addr} {vs : List V} {as : List Addr} : H a = some (.lst vs) → Ows K B G H e ds vs as → Ow K B G H (.l e) (.list ds) (.ref a) (a :: as)
  | r {ks : List (Str × Bool)} {ds : List D} {a : Addr} {kvs : List (Key × V)} {as : List Addr} : H a = some (.dK kvs) → OwF K B G H ks ds kvs as → Ow K B G H (.r ks) (.tuple ds) (.ref a) (a :: as)
  | d {ps : List (D × D)} {a : Addr} {kvs : List (Key × V)} : H a = some (.dK kvs) → OwD K B kvs ps → Ow K B G H (.r []) (.dict ps) (.ref a) [a]
inductive Ows (K : PySem.W.Frag) (B G H : Hp) : Sh → List D → List V → List Addr → Prop where
  | nil {e : Sh} : Ows K B G H e [] [] []
  | cons {e : Sh} {d : D} {ds : List D} {v : V} {vs : List V} {as bs : List Addr} : Ow K B G H e d v as → Ows K B G H e ds vs bs → Ows K B G H e (d :: ds) (v :: vs) (as ++ bs)
inductive OwF (K : PySem.W.Frag) (B G H : Hp) : List (Str × Bool) → List D → List (Key × V) → List Addr → Prop where
  | nil : OwF K B G H [] [] [] []
  | cons {k : Str} {b : Bool} {ks : List (Str × Bool)} {d : D} {ds : List D} {v : V} {vs : List (Key × V)} {as bs : List Addr} : Ow K B G H (if b then .l .s else .s) d v as → OwF K B G H ks ds vs bs → OwF K B G H ((k, b) :: ks) (d :: ds) ((.inr k, v) :: vs) (as ++ bs)
end
theorem SqL.le {a : Addr} {xs : List V} (e : Same B B') (h : SqL K B a xs) : SqL K B' a xs := Same.seq e h
mutual
theorem Ow.mono (e : Same B B') (g : Same G G') : ∀ {s : Sh} {d : D} {v : V} {as : List Addr}, (∀ a ∈ as, ∀ o, H a = some o → H' a = some o) → Ow K B G H s d v as → Ow K B' G' H' s d v as
  | _, _, _, _, _, .s h => .s (h.mono e)
  | _, _, _, _, _, .z h t => .z (Same.seq g h) (t.mono e)
  | _, _, _, _, k, .l h t => .l (k _ List.mem_cons_self _ h) (Ows.mono e g (fun a ha => k a (List.mem_cons_of_mem _ ha)) t)
  | _, _, _, _, k, .r h t => .r (k _ List.mem_cons_self _ h) (OwF.mono e g (fun a ha => k a (List.mem_cons_of_mem _ ha)) t)
  | _, _, _, _, k, .d h t => .d (k _ List.mem_cons_self _ h) (t.mono e)
theorem Ows.mono (e : Same B B') (g : Same G G') : ∀ {s : Sh} {d : List D} {v : List V} {as : List Addr}, (∀ a ∈ as, ∀ o, H a = some o → H' a = some o) → Ows K B G H s d v as → Ows K B' G' H' s d v as
  | _, _, _, _, _, .nil => .nil
  | _, _, _, _, k, .cons h t => .cons (Ow.mono e g (fun a ha => k a (List.mem_append_left _ ha)) h) (Ows.mono e g (fun a ha => k a (List.mem_append_right _ ha)) t)
theorem OwF.mono (e : Same B B') (g : Same G G') : ∀ {s : List (Str × Bool)} {d : List D} {v : List (Key × V)} {as : List Addr}, (∀ a ∈ as, ∀ o, H a = some o → H' a = some o) → OwF K B G H s d v as → OwF K B' G' H' s d v as
  | _, _, _, _, _, .nil => .nil
  | _, _, _, _, k, .cons h t => .cons (Ow.mono e g (fun a ha => k a (List.mem_append_left _ ha)) h) (OwF.mono e g (fun a ha => k a (List.mem_append_right _ ha)) t)
end
/-- B with what H has at as -/
def ovr (B H : Hp) (as : List Addr) : Hp := fun a => if a ∈ as then H a else B a
theorem ovr_in {as : List Addr} {a : Addr} (h : a ∈ as) : ovr B H as a = H a := if_pos h
theorem ovr_out {as : List Addr} {a : Addr} (h : a ∉ as) : ovr B H as a = B a := if_neg h
theorem same_ovr {as : List Addr} (h : ∀ a ∈ as, B a = none) : Same B (ovr B H as) := fun a o e => by
  rw [ovr_out fun ha => by rw [h a ha] at e; cases e]; exact e
theorem ovr_le {as : List Addr} (h : Same B H) : Same (ovr B H as) H := fun a o e => by
  by_cases ha : a ∈ as
  · rw [ovr_in ha] at e; exact e
  · rw [ovr_out ha] at e; exact h a o e
theorem ovr_mono {as : List Addr} (h : Same B G) : Same (ovr B H as) (ovr G H as) := fun a o e => by
  by_cases ha : a ∈ as
  · rw [ovr_in ha] at e ⊢; exact e
  · rw [ovr_out ha] at e ⊢; exact h a o e
mutual
theorem Ow.inH : ∀ {s : Sh} {d : D} {v : V} {as : List Addr}, Ow K B G H s d v as → ∀ a ∈ as, ∃ o, H a = some o
  | _, _, _, _, .s _, a, ha => by cases ha
  | _, _, _, _, .z _ _, a, ha => by cases ha
  | _, _, _, _, .l h t, a, ha => by
    rcases List.mem_cons.mp ha with e | ha
    · exact ⟨_, by rw [e]; exact h⟩
    · exact Ows.inH t a ha
  | _, _, _, _, .r h t, a, ha => by
    rcases List.mem_cons.mp ha with e | ha
    · exact ⟨_, by rw [e]; exact h⟩
    · exact OwF.inH t a ha
  | _, _, _, _, .d h t, a, ha => by
    exact ⟨_, (congrArg H (List.mem_singleton.mp ha)).trans h⟩
theorem Ows.inH : ∀ {s : Sh} {d : List D} {v : List V} {as : List Addr}, Ows K B G H s d v as → ∀ a ∈ as, ∃ o, H a = some o
  | _, _, _, _, .nil, a, ha => by cases ha
  | _, _, _, _, .cons h t, a, ha => (List.mem_append.mp ha).elim (Ow.inH h a) (Ows.inH t a)
theorem OwF.inH : ∀ {s : List (Str × Bool)} {d : List D} {v : List (Key × V)} {as : List Addr}, OwF K B G H s d v as → ∀ a ∈ as, ∃ o, H a = some o
  | _, _, _, _, .nil, a, ha => by cases ha
  | _, _, _, _, .cons h t, a, ha => (List.mem_append.mp ha).elim (Ow.inH h a) (OwF.inH t a)
end
theorem Ows.all : ∀ {ds : List D} {vs : List V} {as : List Addr}, Ows K B G H .s ds vs as → DvAll K B vs ds ∧ as = []
  | _, _, _, .nil => ⟨.nil, rfl⟩
  | _, _, _, .cons h t => by
    cases h with
    | s h =>
      obtain ⟨h1, h2⟩ := Ows.all t
      subst h2
      exact ⟨.cons h h1, rfl⟩
theorem Ows.of : ∀ {ds : List D} {vs : List V}, DvAll K B vs ds → Ows K B G H .s ds vs []
  | _, _, .nil => .nil
  | _, _, .cons h t => Ows.cons (as := []) (bs := []) (.s h) (Ows.of t)
/-- an owned list of shared data is let go: it is shared from now on -/
theorem Ow.shareL {ds : List D} {v : V} {as : List Addr} (h : Ow K B G H (.l .s) (.list ds) v as) (n : ∀ a ∈ as, B a = none) : Dv K (ovr B H as) v (.list ds) := by
  cases h with
  | l h t =>
    obtain ⟨h1, rfl⟩ := t.all
    refine .lst ((ovr_in (by simp)).trans h) (h1.mono (same_ovr n))
/-- what can be shared -/
def Sh.ok : Sh → Bool
  | .s => true
  | .l .s => true
  | _ => false
theorem Ow.share {s : Sh} {d : D} {v : V} {as : List Addr} (hs : s.ok = true) (h : Ow K B G H s d v as) (n : ∀ a ∈ as, B a = none) : Dv K (ovr B H as) v d := by
  cases h with
  | s h => exact h.mono (same_ovr n)
  | l h t =>
    rename_i e _ _ _ _
    cases e with
    | s => exact Ow.shareL (.l h t) n
    | _ => cases hs
  | z => cases hs
  | r => cases hs
  | d => cases hs
/-- peeked: to be read, not kept -/
inductive Pk (K : PySem.W.Frag) (B H : Hp) : V → D → Prop where
  | s {v : V} {d : D} : Dv K B v d → Pk K B H v d
  | l {ds : List D} {a : Addr} {vs : List V} : H a = some (.lst vs) → DvAll K B vs ds → Pk K B H (.ref a) (.list ds)
  | z {ds : List D} {a : Addr} {vs : List V} : SqL K H a vs → DvAll K B vs ds → Pk K B H (.ref a) (.list ds)
/-- as a list, a tuple -/
theorem Pk.list {v : V} {ds : List D} (h : Pk K B H v (.list ds)) (e : Same B H) : ∃ a vs, v = .ref a ∧ SqL K H a vs ∧ DvAll K B vs ds := by
  cases h with
  | s h => cases h with
    | lst h t => exact ⟨_, _, rfl, .of (e _ _ h), t⟩
  | l h t => exact ⟨_, _, rfl, .of h, t⟩
  | z h t => exact ⟨_, _, rfl, h, t⟩
theorem Pk.tuple {v : V} {ds : List D} (h : Pk K B H v (.tuple ds)) (e : Same B H) : ∃ a vs, v = .ref a ∧ SqT K H a vs ∧ DvAll K B vs ds := by
  cases h with
  | s h => cases h with
    | tup h t => exact ⟨_, _, rfl, Le.tup e h, t⟩
/-- the relation of data and heap: B is shared, G is not to be changed -/
structure Rel (K : PySem.W.Frag) (κ : List Sh) (Z B G H : Hp) (ρ : Env) (σ : St) (fp : Nat → List Addr) : Prop where
  bg : Same B G
  gh : Same G H
  zg : Same Z G
  len : ρ.length = σ.length
  at_ : ∀ i d, ρ[i]? = some (some d) → ∃ v s, σ[i]? = some (some v) ∧ κ[i]? = some s ∧ Ow K B Z H s d v (fp i)
  nd : ∀ i, (fp i).Nodup
  dj : ∀ i j, i ≠ j → ∀ a ∈ fp i, a ∉ fp j
  out : ∀ i, ∀ a ∈ fp i, G a = none ∧ ∃ o, H a = some o
/-- a heap has grown: all that stood stands, the new shared things are new -/
structure Ext (B H B' H' : Hp) : Prop where
  b : Same B B'
  h : Same H H'
  bh : Same B' H'
  new : ∀ a o, B' a = some o → B a = some o ∨ H a = none
theorem Ext.refl (h : Same B H) : Ext B H B H := ⟨Same.refl _, Same.refl _, h, fun _ _ e => .inl e⟩
end
end TV

/-! V2: the evaluator over data: expressions, statements, defs. -/
namespace TV
open PySem L2
inductive R (α : Type) where
  | ok (a : α) (ρ : Env) | err (x : D) (ρ : Env) | no
def R.bind {α β : Type} (r : R α) (f : α → Env → R β) : R β := match r with
  | .ok a ρ => f a ρ
  | .err x ρ => .err x ρ
  | .no => .no
@[simp] theorem R.bind_ok {α β : Type} (a : α) (ρ : Env) (f : α → Env → R β) : (R.ok a ρ).bind f = f a ρ := rfl
@[simp] theorem R.bind_err {α β : Type} (x : D) (ρ : Env) (f : α → Env → R β) : (R.err x ρ : R α).bind f = .err x ρ := rfl
@[simp] theorem R.bind_no {α β : Type} (f : α → Env → R β) : (R.no : R α).bind f = .no := rfl
def R.of {α : Type} (o : Option α) (ρ : Env) : R α := match o with
  | some a => .ok a ρ
  | none => .no
@[simp] theorem R.of_some {α : Type} (a : α) (ρ : Env) : R.of (some a) ρ = .ok a ρ := rfl
@[simp] theorem R.of_none {α : Type} (ρ : Env) : R.of (none : Option α) ρ = .no := rfl
abbrev Fn := List D → R D
/-! ### operations -/
/-- the greatest length of what is made -/
abbrev LIM : Nat := 1000000
def mulOk (i j : Int) : Bool := decide (-(2 ^ 64) < i ∧ i < 2 ^ 64) || decide (-(2 ^ 64) < j ∧ j < 2 ^ 64)
inductive B1 where
  | neg | len | abs | int | tup | lst | sum | minL | maxL | rev | rv2 | repr | all_ | any_ | sortI | setT | nSetL | sRng | lRng | tRng
  | isInt | isBool | isTup | isStr | isList | str
  deriving DecidableEq
inductive B2 where
  | add | addL | mulL | sub | mul | fdiv | mod | pow | idx | slU | slL | slUL | slLL | min2 | max2 | eq | ne | lt | le | gt | ge | is_ | isnt | in_ | nin | ltT | zipL
  deriving DecidableEq
def intsD : List D → Option (List Int)
  | [] => some []
  | .int i :: ds => (intsD ds).map (i :: ·)
  | _ => none
def boolsD : List D → Option (List Bool)
  | [] => some []
  | .bool b :: ds => (boolsD ds).map (b :: ·)
  | _ => none
def intssD : List D → Option (List (List Int))
  | [] => some []
  | .tuple xs :: ds => match intsD xs with
    | some is => (intssD ds).map (is :: ·)
    | none => none
  | _ => none
def minI : Int → List Int → Int
  | m, [] => m
  | m, i :: is => minI (if i < m then i else m) is
def maxI : Int → List Int → Int
  | m, [] => m
  | m, i :: is => maxI (if m < i then i else m) is
/-- into a rising list, by a strict order -/
def insI (x : Int) : List Int → List Int
  | [] => [x]
  | y :: ys => if x ≤ y then x :: y :: ys else y :: insI x ys
def sortI : List Int → List Int
  | [] => []
  | x :: xs => insI x (sortI xs)
/-- tuples of one length, of ints from 0 below SB -/
def SB : Int := 1048576
def okT (d : Nat) (xs : List (List Int)) : Bool := decide (1 ≤ d) && xs.all fun x => decide (x.length = d) && x.all fun m => decide (0 ≤ m) && decide (m < SB)
def hdL : List (List Int) → Nat
  | x :: _ => x.length
  | [] => 1
/-- into a rising list without equals -/
def insT (x : List Int) : List (List Int) → List (List Int)
  | [] => [x]
  | y :: ys => if x = y then y :: ys else if TS.code SB x < TS.code SB y then x :: y :: ys else y :: insT x ys
def setT : List (List Int) → List (List Int)
  | [] => []
  | x :: xs => insT x (setT xs)
def tI (is : List Int) : D := .tuple (is.map .int)
def rngD (a b : Int) : List D := (List.range (b - a).toNat).map fun i => .int (a + (i : Nat))
/-- a range downwards by ones -/
def rng3D : D → D → D → Option (List D)
  | .int i, .int j, .int k => if decide (k = -1) && decide (i ≤ LIM) && decide (-LIM ≤ i) && decide (j ≤ LIM) && decide (-LIM ≤ j) then some ((List.range (i - j).toNat).map fun n => .int (i - (n : Nat))) else none
  | _, _, _ => none
def shaped (d : D) : Bool := SeqAt.shaped d
def eqD (a b : D) : Option Bool := if shaped a && shaped b then some (PyData.eqv a b) else none
def inD (a : D) (ds : List D) : Option Bool := if shaped a && shaped (.list ds) then some (ds.any fun z => PyData.eqv z a) else none
mutual
/-- the key that data is: ints and tuples of such -/
def keyOf : D → Option NestedKey
  | .int i => some (.num i)
  | .tuple ds => (keysOf ds).map .tup
  | _ => none
def keysOf : List D → Option (List NestedKey)
  | [] => some []
  | d :: ds => match keyOf d, keysOf ds with
    | some k, some ks => some (k :: ks)
    | _, _ => none
end
def isTupK : NestedKey → Bool
  | .tup _ => true
  | _ => false
def b1 : B1 → D → Option D
  | .neg, .int i => some (.int (-i))
  | .len, .list ds => some (.int ds.length)
  | .len, .tuple ds => some (.int ds.length)
  | .len, .str x => if x.length ≤ LIM then some (.int x.length) else none
  | .abs, .int i => some (.int (if i < 0 then -i else i))
  | .int, .int i => some (.int i)
  | .int, .bool b => some (.int (if b then 1 else 0))
  | .tup, .list ds => some (.tuple ds)
  | .tup, .tuple ds => some (.tuple ds)
  | .lst, .list ds => some (.list ds)
  | .lst, .tuple ds => some (.list ds)
  | .rev, .list ds => some (.list ds.reverse)
  | .rv2, .list ds => some (.list ds.dropLast.reverse)
  | .sum, .list ds => match intsD ds with
    | some is => some (.int is.sum)
    | none => none
  | .minL, .list ds => match intsD ds with
    | some (i :: is) => some (.int (minI i is))
    | _ => none
  | .minL, .tuple ds => match intsD ds with
    | some (i :: is) => some (.int (minI i is))
    | _ => none
  | .maxL, .list ds => match intsD ds with
    | some (i :: is) => some (.int (maxI i is))
    | _ => none
  | .all_, .list ds => match boolsD ds with
    | some bs => some (.bool (bs.all id))
    | none => none
  | .any_, .list ds => match boolsD ds with
    | some bs => some (.bool (bs.any id))
    | none => none
  | .repr, d => if d.showable && decide (d.depth ≤ 64) && !d.hasDict && decide (d.shown.length ≤ LIM) then some (.str d.shown) else none
  | .sortI, .list ds => if ds.length < 64 then match intsD ds with
    | some is => some (.list ((sortI is).map .int))
    | none => none else none
  | .setT, .list ds => match intssD ds with
    | some xs => if ds.length < 64 && okT (hdL xs) xs then some (.list ((setT xs).map tI)) else none
    | none => none
  | .nSetL, .list ds => match keysOf ds with
    | some ks => if decide (ds.length < 64) && ks.all isTupK && decide (NestedKey.depthAll ks ≤ 8) && decide ks.Nodup then some (.int (ds.length : Nat)) else none
    | none => none
  | .isInt, d => some (.bool (match d with | .int _ => true | .bool _ => true | _ => false))
  | .isBool, d => some (.bool (match d with | .bool _ => true | _ => false))
  | .isTup, d => some (.bool (match d with | .tuple _ => true | _ => false))
  | .isList, d => some (.bool (match d with | .list _ => true | _ => false))
  | .isStr, d => some (.bool (match d with | .str _ => true | _ => false))
  | .lRng, .int n => if n ≤ LIM && decide (-LIM ≤ n) then some (.list (rngD 0 n)) else none
  | .tRng, .int n => if n ≤ LIM && decide (-LIM ≤ n) then some (.tuple (rngD 0 n)) else none
  | _, _ => none
def atD (ds : List D) (i : Int) : Option D := atI ds i
def cutD (ds : List D) (lo hi : Option Int) : List D := (ds.drop (HT.sIx ds.length 0 lo)).take (HT.sIx ds.length ds.length hi - HT.sIx ds.length 0 lo)
def itemsD : D → Option (List D)
  | .list ds => some ds
  | .tuple ds => some ds
  | _ => none
def zipD (as bs : List D) : List D := (as.zip bs).map fun p => .tuple [p.1, p.2]
/-- from the first pair that differs on -/
def lexLtI : List Int → List Int → Bool
  | [], [] => false
  | [], _ :: _ => true
  | _ :: _, [] => false
  | x :: xs, y :: ys => if x = y then lexLtI xs ys else decide (x < y)
def lexLeT : List Int → List Int → Bool
  | [], _ => true
  | _ :: _, [] => false
  | x :: xs, y :: ys => if x = y then lexLeT xs ys else decide (x ≤ y)
def lexD (f : List Int → List Int → Bool) (a b : List D) : Option D := match intsD a, intsD b with
  | some xs, some ys => some (.bool (f xs ys))
  | _, _ => none
def zipLD (a b : D) : Option D := match itemsD a, itemsD b with
  | some xs, some ys => if min xs.length ys.length ≤ LIM then some (.list (zipD xs ys)) else none
  | _, _ => none
def b2 : B2 → D → D → Option D
  | .add, .int i, .int j => some (.int (i + j))
  | .add, .tuple a, .tuple b => if a.length + b.length ≤ LIM then some (.tuple (a ++ b)) else none
  | .add, .list a, .list b => if a.length + b.length ≤ LIM then some (.list (a ++ b)) else none
  | .add, .str a, .str b => if a.length + b.length ≤ LIM then some (.str (a ++ b)) else none
  | .addL, .list a, .list b => if a.length + b.length ≤ LIM then some (.list (a ++ b)) else none
  | .mulL, .list a, .int k => if decide (0 ≤ k) && decide (k ≤ LIM) && decide (a.length * k.toNat ≤ LIM) then some (.list (List.replicate k.toNat a).flatten) else none
  | .sub, .int i, .int j => some (.int (i - j))
  | .mul, .int i, .int j => if mulOk i j then some (.int (i * j)) else none
  | .mul, .tuple a, .int k => if !a.isEmpty && decide (-LIM ≤ k) && decide (a.length * k.toNat ≤ LIM) && decide (k ≤ LIM) then some (.tuple (List.replicate k.toNat a).flatten) else none
  | .fdiv, .int i, .int j => if decide (0 < j) && decide (j < 1073741824) then some (.int (i / j)) else none
  | .mod, .int i, .int j => if 0 < j then some (.int (i % j)) else none
  | .pow, .int i, .int j => if decide (0 ≤ j) && decide (j ≤ 100) && decide (i.natAbs < 1000) then some (.int (i ^ j.toNat)) else none
  | .idx, .list ds, .int i => atD ds i
  | .idx, .tuple ds, .int i => atD ds i
  | .slU, .tuple ds, .int i => some (.tuple (cutD ds none (some i)))
  | .slU, .list ds, .int i => some (.list (cutD ds none (some i)))
  | .slL, .tuple ds, .int i => some (.tuple (cutD ds (some i) none))
  | .slL, .list ds, .int i => some (.list (cutD ds (some i) none))
  | .slUL, .list ds, .int i => some (.list (cutD ds none (some i)))
  | .slLL, .list ds, .int i => some (.list (cutD ds (some i) none))
  | .min2, .int i, .int j => some (.int (if j < i then j else i))
  | .max2, .int i, .int j => some (.int (if j > i then j else i))
  | .eq, a, b => (eqD a b).map .bool
  | .ne, a, b => (eqD a b).map fun r => .bool (!r)
  | .lt, .int i, .int j => some (.bool (decide (i < j)))
  | .lt, .tuple a, .tuple b => lexD lexLtI a b
  | .le, .tuple a, .tuple b => lexD lexLeT a b
  | .le, .int i, .int j => some (.bool (decide (i ≤ j)))
  | .gt, .int i, .int j => some (.bool (decide (j < i)))
  | .ge, .int i, .int j => some (.bool (decide (j ≤ i)))
  | .in_, a, .list ds => (inD a ds).map .bool
  | .in_, a, .tuple ds => (inD a ds).map .bool
  | .nin, a, .list ds => (inD a ds).map fun r => .bool (!r)
  | .nin, a, .tuple ds => (inD a ds).map fun r => .bool (!r)
  | .zipL, a, b => zipLD a b
  | .is_, a, .none => some (.bool (match a with | .none => true | _ => false))
  | .isnt, a, .none => some (.bool (match a with | .none => false | _ => true))
  | _, _, _ => none
/-! ### syntax -/
inductive Pl where
  | v (i : Nat) | f (i j : Nat) (k : Str)
mutual
inductive Tg where
  | v (i : Nat) | t (ts : Tgs)
inductive Tgs where
  | nil | cons (t : Tg) (ts : Tgs)
end
mutual
inductive E where
  | v (i : Nat) | mv (i : Nat) | c (d : D) | gc (x : Str) (d : D) | fld (i j : Nat) (k : Str)
  | b1 (f : B1) (a : E) | b2 (f : B2) (a b : E) | ch (f g : B2) (a b c : E)
  | and_ (a b : E) | or_ (a b : E) | not_ (a : E) | ite (c a b : E)
  | tup (es : Es) | lst (es : Es) | rec_ (ks : List (Str × Bool)) (es : Es)
  | call (f : Nat) (es : As) | callK (f : Nat) (perm : List Nat) (es ks : Es) | lc (vs : List Nat) (w : W) (tg : Tg) (e : E) | lci (vs : List Nat) (w : W) (tg : Tg) (c e : E) | lcp (i : Nat) (vs : List Nat) (tg : Tg) (e : E) | dget (i : Nat) (a b : E) | dnew | addO (f : B2) (i : Nat) (b : E)
  | pop (p : Pl) | popAt (p : Pl) (e : E)
inductive Es where
  | nil | cons (e : E) (es : Es) | star (e : E) (es : Es)
inductive As where
  | nil | val (e : E) (es : As) | io (i : Nat) (es : As) | pk (i : Nat) (es : As)
inductive W where
  | seq (e : E) | rng1 (e : E) | rng2 (a b : E) | rng3 (a b c : E) | enum (e : E) | zip (a b : E)
end
mutual
inductive S where
  | asg (tg : Tg) (e : E) | par (is : List Nat) (es : Es) | ifs (c : E) (a b : Ss) | for_ (w : W) (tg : Tg) (b : Ss) | whl (n : Nat) (c : E) (b : Ss)
  | ret (e : E) | retN | ex (e : E) | app (p : Pl) (e : E) | ext (p : Pl) (e : E) | setF (i j : Nat) (k : Str) (e : E) | setI (p : Pl) (a e : E) | dset (i : Nat) (a e : E) | pass | brk | ct | stop
inductive Ss where
  | nil | cons (s : S) (ss : Ss)
end
/-! ### evaluation -/
def gv (ρ : Env) (i : Nat) : Option D := match ρ[i]? with
  | some (some d) => some d
  | _ => none
def getPl (ρ : Env) : Pl → Option D
  | .v i => gv ρ i
  | .f i j _ => match gv ρ i with
    | some (.tuple ds) => ds[j]?
    | _ => none
def setPl (ρ : Env) (p : Pl) (d : Option D) : Env := match p with
  | .v i => ρ.set i d
  | .f i j _ => match gv ρ i, d with
    | some (.tuple ds), some d => ρ.set i (some (.tuple (ds.set j d)))
    | _, _ => ρ.set i none
def bindL : List Nat → List D → Env → Option Env
  | [], [], ρ => some ρ
  | i :: is, d :: ds, ρ => bindL is ds (ρ.set i (some d))
  | _, _, _ => none
mutual
def bindT : Tg → D → Env → Option Env
  | .v i, d, ρ => some (ρ.set i (some d))
  | .t ts, .tuple ds, ρ => bindTs ts ds ρ
  | .t _, _, _ => none
def bindTs : Tgs → List D → Env → Option Env
  | .nil, [], ρ => some ρ
  | .cons t ts, d :: ds, ρ => match bindT t d ρ with
    | some ρ => bindTs ts ds ρ
    | none => none
  | _, _, _ => none
end
/-- an error within a comprehension is none of ours -/
def R.ne {α : Type} (r : R α) : R α := match r with
  | .ok a ρ => .ok a ρ
  | _ => .no
@[simp] theorem R.ne_ok {α : Type} (a : α) (ρ : Env) : (R.ok a ρ).ne = .ok a ρ := rfl
def wipeE (ρ : Env) : List Nat → Env
  | [] => ρ
  | v :: vs => (wipeE ρ vs).set v none
/-- the slots of vs as they were in ρ0 -/
def backE (ρ0 : Env) (ρ : Env) : List Nat → Env
  | [] => ρ
  | v :: vs => (backE ρ0 ρ vs).set v (ρ0[v]?.join)
def lcF (body : D → Env → R (Option D)) : List D → Env → R (List D)
  | [], ρ => .ok [] ρ
  | d :: ds, ρ => (body d ρ).bind fun o ρ => (lcF body ds ρ).bind fun r ρ => .ok (match o with
    | some x => x :: r
    | none => r) ρ
/-- arguments: values and places -/
inductive Ar where
  | val (d : D) | io (i : Nat) | pk (i : Nat)
def argD (ρ : Env) : List Ar → Option (List D)
  | [] => some []
  | .val d :: r => (argD ρ r).map (d :: ·)
  | .io i :: r => match gv ρ i with
    | some d => (argD ρ r).map (d :: ·)
    | none => none
  | .pk i :: r => match gv ρ i with
    | some d => (argD ρ r).map (d :: ·)
    | none => none
/-- the places as they are left -/
def outs (ρ : Env) : List Ar → Env → Env
  | [], _ => ρ
  | .val _ :: r, os => outs ρ r os
  | .pk _ :: r, os => outs ρ r os
  | .io i :: r, o :: os => outs (ρ.set i o) r os
  | .io i :: r, [] => outs (ρ.set i none) r []
def callR (f : Fn) (as : List Ar) (ρ : Env) : R D := match argD ρ as with
  | some ds => match f ds with
    | .ok d os => .ok d (outs ρ as os)
    | .err x os => .err x (outs ρ as os)
    | .no => .no
  | none => .no
def enumD (ds : List D) : List D := ds.zipIdx.map fun p => .tuple [.int (p.2 : Nat), p.1]
def popD (p : Pl) (ρ : Env) : R D := match getPl ρ p with
  | some (.list ds) => match ds.getLast? with
    | some d => .ok d (setPl ρ p (some (.list ds.dropLast)))
    | none => .no
  | _ => .no
def popAtD (p : Pl) (ev : Env → R D) (ρ : Env) : R D := match getPl ρ p with
  | some (.list _) => (ev ρ).bind fun k ρ => match getPl ρ p, k with
    | some (.list ds), .int i => match ixN ds.length i with
      | some j => if ds.length ≤ LIM then match ds[j]? with
        | some d => .ok d (setPl ρ p (some (.list (ds.eraseIdx j))))
        | none => .no else .no
      | none => .no
    | _, _ => .no
  | _ => .no
def isK (k : Int) (p : D × D) : Bool := match p.1 with
  | .int j => decide (j = k)
  | _ => false
def dfindD : List (D × D) → Int → Option D
  | [], _ => none
  | p :: ps, k => if isK k p then some p.2 else dfindD ps k
def dputD (ps : List (D × D)) (k : Int) (d : D) : List (D × D) := if ps.any (isK k) then ps.map fun p => if isK k p then (p.1, d) else p else ps ++ [(.int k, d)]
def dictD : D → Option (List (D × D))
  | .tuple [] => some []
  | .dict ps => some ps
  | _ => none
def gdict (ρ : Env) (i : Nat) : Option (List (D × D)) := (gv ρ i).bind dictD
def dgetD (i : Nat) (eva evb : Env → R D) (ρ : Env) : R D := match gdict ρ i with
  | some _ => (eva ρ).bind fun x ρ => (evb ρ).bind fun y ρ => match gdict ρ i, x with
    | some ps, .int k => .ok ((dfindD ps k).getD y) ρ
    | _, _ => .no
  | none => .no
/-- an owned list and something: the list as it is behind that -/
def addOD (f : D → D → Option D) (i : Nat) (evb : Env → R D) (ρ : Env) : R D := match gv ρ i with
  | some (.list _) => (evb ρ).bind fun y ρ => match gv ρ i with
    | some (.list ds) => R.of (f (.list ds) y) ρ
    | _ => .no
  | _ => .no
def andD (eva evb : Env → R D) (ρ : Env) : R D := (eva ρ).bind fun x ρ => match x with
  | .bool true => evb ρ
  | .bool false => .ok (.bool false) ρ
  | _ => .no
def orD (eva evb : Env → R D) (ρ : Env) : R D := (eva ρ).bind fun x ρ => match x with
  | .bool true => .ok (.bool true) ρ
  | .bool false => evb ρ
  | _ => .no
def notD (eva : Env → R D) (ρ : Env) : R D := (eva ρ).bind fun x ρ => match x with
  | .bool b => .ok (.bool (!b)) ρ
  | _ => .no
def iteD (evc eva evb : Env → R D) (ρ : Env) : R D := (evc ρ).bind fun x ρ => match x with
  | .bool true => eva ρ
  | .bool false => evb ρ
  | _ => .no
def mvD (i : Nat) (ρ : Env) : R D := match gv ρ i with
  | some d => .ok d (ρ.set i none)
  | none => .no
def tupD (ev : Env → R (List D)) (ρ : Env) : R D := (ev ρ).bind fun ds ρ => if ds.length ≤ LIM then .ok (.tuple ds) ρ else .no
def lstD (ev : Env → R (List D)) (ρ : Env) : R D := (ev ρ).bind fun ds ρ => if ds.length ≤ LIM then .ok (.list ds) ρ else .no
def chD (f g : D → D → Option D) (eva evb evc : Env → R D) (ρ : Env) : R D := (eva ρ).bind fun x ρ => (evb ρ).bind fun y ρ => match f x y with
  | some (.bool true) => (evc ρ).bind fun z ρ => R.of (g y z) ρ
  | some (.bool false) => .ok (.bool false) ρ
  | _ => .no
/-- the values in the order of the parameters -/
def permA (perm : List Nat) (ds : List D) : List Ar := perm.map fun j => .val (ds.getD j .none)
/-- a comprehension: a turn, the whole -/
def lcT (vs : List Nat) (tg : Tg) (body : Env → R (Option D)) (d : D) (ρ : Env) : R (Option D) := match bindT tg d ρ with
  | some ρ => (body ρ).bind fun o ρ => .ok o (wipeE ρ vs)
  | none => .no
def lcD (vs : List Nat) (tg : Tg) (w : Env → R (List D)) (body : Env → R (Option D)) (ρ : Env) : R D := (w ρ).bind fun ds ρ => if ds.length ≤ LIM then
    (lcF (lcT vs tg body) ds (wipeE ρ vs)).ne.bind fun r ρ' => .ok (.list r) (backE ρ ρ' vs)
  else .no
/-- the turns of a comprehension -/
def lcB (vs : List Nat) (tg : Tg) (body : Env → R (Option D)) (ds : List D) (ρ : Env) : R D := if ds.length ≤ LIM then
    (lcF (lcT vs tg body) ds (wipeE ρ vs)).ne.bind fun r ρ' => .ok (.list r) (backE ρ ρ' vs)
  else .no
/-- a list of a slot is walked, it stays: it is out of reach in the turns -/
def lcpD (i : Nat) (vs : List Nat) (tg : Tg) (body : Env → R (Option D)) (ρ : Env) : R D := match gv ρ i with
  | some (.list ds) => (lcB vs tg body ds (ρ.set i none)).bind fun r ρ' => .ok r (ρ'.set i (some (.list ds)))
  | _ => .no
def ifD (c e : Env → R D) (ρ : Env) : R (Option D) := (c ρ).bind fun t ρ => match t with
  | .bool true => (e ρ).bind fun x ρ => .ok (some x) ρ
  | .bool false => .ok none ρ
  | _ => .no
def allD (e : Env → R D) (ρ : Env) : R (Option D) := (e ρ).bind fun x ρ => .ok (some x) ρ
mutual
def evE (Γ : Nat → Fn) : E → Env → R D
  | .v i, ρ => R.of (gv ρ i) ρ
  | .mv i, ρ => mvD i ρ
  | .c d, ρ => .ok d ρ
  | .gc _ d, ρ => .ok d ρ
  | .fld i j k, ρ => R.of (getPl ρ (.f i j k)) ρ
  | .b1 f a, ρ => (evE Γ a ρ).bind fun d ρ => R.of (b1 f d) ρ
  | .b2 f a b, ρ => (evE Γ a ρ).bind fun x ρ => (evE Γ b ρ).bind fun y ρ => R.of (b2 f x y) ρ
  | .ch f g a b c, ρ => chD (b2 f) (b2 g) (evE Γ a) (evE Γ b) (evE Γ c) ρ
  | .and_ a b, ρ => andD (evE Γ a) (evE Γ b) ρ
  | .or_ a b, ρ => orD (evE Γ a) (evE Γ b) ρ
  | .not_ a, ρ => notD (evE Γ a) ρ
  | .ite c a b, ρ => iteD (evE Γ c) (evE Γ a) (evE Γ b) ρ
  | .tup es, ρ => tupD (evEs Γ es) ρ
  | .lst es, ρ => lstD (evEs Γ es) ρ
  | .rec_ _ es, ρ => (evEs Γ es ρ).bind fun ds ρ => .ok (.tuple ds) ρ
  | .call f es, ρ => (evAs Γ es ρ).bind fun as ρ => callR (Γ f) as ρ
  | .callK f perm es ks, ρ => (evEs Γ es ρ).bind fun ds ρ => (evEs Γ ks ρ).bind fun zs ρ => callR (Γ f) (permA perm (ds ++ zs)) ρ
  | .lc vs w tg e, ρ => lcD vs tg (evW Γ w) (allD (evE Γ e)) ρ
  | .lci vs w tg c e, ρ => lcD vs tg (evW Γ w) (ifD (evE Γ c) (evE Γ e)) ρ
  | .lcp i vs tg e, ρ => lcpD i vs tg (allD (evE Γ e)) ρ
  | .dget i a b, ρ => dgetD i (evE Γ a) (evE Γ b) ρ
  | .dnew, ρ => .ok (.dict []) ρ
  | .addO f i b, ρ => addOD (b2 f) i (evE Γ b) ρ
  | .pop p, ρ => popD p ρ
  | .popAt p e, ρ => popAtD p (evE Γ e) ρ
def evEs (Γ : Nat → Fn) : Es → Env → R (List D)
  | .nil, ρ => .ok [] ρ
  | .cons e es, ρ => (evE Γ e ρ).bind fun d ρ => (evEs Γ es ρ).bind fun ds ρ => .ok (d :: ds) ρ
  | .star e es, ρ => (evE Γ e ρ).bind fun d ρ => match itemsD d with
    | some xs => (evEs Γ es ρ).bind fun ds ρ => .ok (xs ++ ds) ρ
    | none => .no
def evAs (Γ : Nat → Fn) : As → Env → R (List Ar)
  | .nil, ρ => .ok [] ρ
  | .val e es, ρ => (evE Γ e ρ).bind fun d ρ => (evAs Γ es ρ).bind fun ds ρ => .ok (.val d :: ds) ρ
  | .io p es, ρ => match gv ρ p with
    | some _ => (evAs Γ es ρ).bind fun ds ρ => .ok (.io p :: ds) ρ
    | none => .no
  | .pk p es, ρ => match gv ρ p with
    | some _ => (evAs Γ es ρ).bind fun ds ρ => .ok (.pk p :: ds) ρ
    | none => .no
def evW (Γ : Nat → Fn) : W → Env → R (List D)
  | .seq e, ρ => (evE Γ e ρ).bind fun d ρ => R.of (itemsD d) ρ
  | .rng1 e, ρ => (evE Γ e ρ).bind fun d ρ => match d with
    | .int n => if n ≤ LIM && decide (-LIM ≤ n) then .ok (rngD 0 n) ρ else .no
    | _ => .no
  | .rng2 a b, ρ => (evE Γ a ρ).bind fun x ρ => (evE Γ b ρ).bind fun y ρ => match x, y with
    | .int i, .int j => if decide (i ≤ LIM) && decide (-LIM ≤ i) && decide (j ≤ LIM) && decide (-LIM ≤ j) then .ok (rngD i j) ρ else .no
    | _, _ => .no
  | .rng3 a b c, ρ => (evE Γ a ρ).bind fun x ρ => (evE Γ b ρ).bind fun y ρ => (evE Γ c ρ).bind fun z ρ => R.of (rng3D x y z) ρ
  | .enum e, ρ => (evE Γ e ρ).bind fun d ρ => R.of ((itemsD d).map enumD) ρ
  | .zip a b, ρ => (evE Γ a ρ).bind fun x ρ => (evE Γ b ρ).bind fun y ρ => match x, y with
    | .list as, .list bs => .ok (zipD as bs) ρ
    | .tuple as, .tuple bs => .ok (zipD as bs) ρ
    | _, _ => .no
end
inductive Fl where
  | nx (ρ : Env) | ret (d : D) (ρ : Env) | brk (ρ : Env) | ct (ρ : Env) | err (x : D) (ρ : Env) | no
def Fl.thn (f : Fl) (g : Env → Fl) : Fl := match f with
  | .nx ρ => g ρ
  | f => f
@[simp] theorem Fl.thn_nx (ρ : Env) (g : Env → Fl) : (Fl.nx ρ).thn g = g ρ := rfl
@[simp] theorem Fl.thn_ret (d : D) (ρ : Env) (g : Env → Fl) : (Fl.ret d ρ).thn g = .ret d ρ := rfl
@[simp] theorem Fl.thn_brk (ρ : Env) (g : Env → Fl) : (Fl.brk ρ).thn g = .brk ρ := rfl
@[simp] theorem Fl.thn_ct (ρ : Env) (g : Env → Fl) : (Fl.ct ρ).thn g = .ct ρ := rfl
@[simp] theorem Fl.thn_err (d : D) (ρ : Env) (g : Env → Fl) : (Fl.err d ρ).thn g = .err d ρ := rfl
@[simp] theorem Fl.thn_no (g : Env → Fl) : Fl.no.thn g = .no := rfl
def R.fl {α : Type} (r : R α) (g : α → Env → Fl) : Fl := match r with
  | .ok a ρ => g a ρ
  | .err x ρ => .err x ρ
  | .no => .no
@[simp] theorem R.fl_ok {α : Type} (a : α) (ρ : Env) (g : α → Env → Fl) : (R.ok a ρ).fl g = g a ρ := rfl
@[simp] theorem R.fl_err {α : Type} (x : D) (ρ : Env) (g : α → Env → Fl) : (R.err x ρ : R α).fl g = .err x ρ := rfl
@[simp] theorem R.fl_no {α : Type} (g : α → Env → Fl) : (R.no : R α).fl g = .no := rfl
def Fl.of (o : Option Env) : Fl := match o with
  | some ρ => .nx ρ
  | none => .no
@[simp] theorem Fl.of_some (ρ : Env) : Fl.of (some ρ) = .nx ρ := rfl
@[simp] theorem Fl.of_none : Fl.of none = .no := rfl
def forT (tg : Tg) (body : Env → Fl) (d : D) (ρ : Env) : Fl := match bindT tg d ρ with
  | some ρ => body ρ
  | none => .no
def forF (body : D → Env → Fl) : List D → Env → Fl
  | [], ρ => .nx ρ
  | d :: ds, ρ => match body d ρ with
    | .nx ρ => forF body ds ρ
    | .ct ρ => forF body ds ρ
    | .brk ρ => .nx ρ
    | r => r
def whlF (c : Env → R D) (body : Env → Fl) : Nat → Env → Fl
  | 0, _ => .no
  | n + 1, ρ => (c ρ).fl fun x ρ => match x with
    | .bool true => (match body ρ with
      | .nx ρ => whlF c body n ρ
      | .ct ρ => whlF c body n ρ
      | .brk ρ => .nx ρ
      | r => r)
    | .bool false => .nx ρ
    | _ => .no
def appD (p : Pl) (ev : Env → R D) (ρ : Env) : Fl := match getPl ρ p with
  | some (.list _) => (ev ρ).fl fun d ρ => match getPl ρ p with
    | some (.list ds) => if ds.length < LIM then .nx (setPl ρ p (some (.list (ds ++ [d])))) else .no
    | _ => .no
  | _ => .no
def extD (p : Pl) (ev : Env → R D) (ρ : Env) : Fl := match getPl ρ p with
  | some (.list _) => (ev ρ).fl fun d ρ => match getPl ρ p, d with
    | some (.list ds), .list xs => if ds.length + xs.length ≤ LIM then .nx (setPl ρ p (some (.list (ds ++ xs)))) else .no
    | _, _ => .no
  | _ => .no
def setFD (i j : Nat) (ev : Env → R D) (ρ : Env) : Fl := (ev ρ).fl fun d ρ => match gv ρ i with
  | some (.tuple ds) => if j < ds.length then .nx (ρ.set i (some (.tuple (ds.set j d)))) else .no
  | _ => .no
/-- an owned dict with ints as keys -/
def dsetD (i : Nat) (eva ev : Env → R D) (ρ : Env) : Fl := (ev ρ).fl fun d ρ => match gdict ρ i with
  | some _ => (eva ρ).fl fun x ρ => match gdict ρ i, x with
    | some ps, .int k => if ps.length < LIM then .nx (ρ.set i (some (.dict (dputD ps k d)))) else .no
    | _, _ => .no
  | none => .no
def setID (p : Pl) (eva ev : Env → R D) (ρ : Env) : Fl := (ev ρ).fl fun d ρ => match getPl ρ p with
  | some (.list _) => (eva ρ).fl fun x ρ => match getPl ρ p, x with
    | some (.list ds), .int i => match ixN ds.length i with
      | some j => .nx (setPl ρ p (some (.list (ds.set j d))))
      | none => .no
    | _, _ => .no
  | _ => .no
mutual
def exS (Γ : Nat → Fn) : S → Env → Fl
  | .asg tg e, ρ => (evE Γ e ρ).fl fun d ρ => Fl.of (bindT tg d ρ)
  | .par is es, ρ => (evEs Γ es ρ).fl fun ds ρ => Fl.of (bindL is ds ρ)
  | .ifs c a b, ρ => (evE Γ c ρ).fl fun x ρ => match x with
    | .bool true => exSs Γ a ρ
    | .bool false => exSs Γ b ρ
    | _ => .no
  | .for_ w tg b, ρ => (evW Γ w ρ).fl fun ds ρ => forF (forT tg (exSs Γ b)) ds ρ
  | .whl n c b, ρ => whlF (evE Γ c) (exSs Γ b) n ρ
  | .ret e, ρ => (evE Γ e ρ).fl .ret
  | .retN, ρ => .ret .none ρ
  | .ex e, ρ => (evE Γ e ρ).fl fun _ ρ => .nx ρ
  | .app p e, ρ => appD p (evE Γ e) ρ
  | .ext p e, ρ => extD p (evE Γ e) ρ
  | .setF i j _ e, ρ => setFD i j (evE Γ e) ρ
  | .setI p a e, ρ => setID p (evE Γ a) (evE Γ e) ρ
  | .dset i a e, ρ => dsetD i (evE Γ a) (evE Γ e) ρ
  | .pass, ρ => .nx ρ
  | .brk, ρ => .brk ρ
  | .ct, ρ => .ct ρ
  | .stop, _ => .no
def exSs (Γ : Nat → Fn) : Ss → Env → Fl
  | .nil, ρ => .nx ρ
  | .cons s ss, ρ => (exS Γ s ρ).thn (exSs Γ ss)
end
/-- a def: how many slots, which parameters are handed back -/
def run (Γ : Nat → Fn) (n : Nat) (ios : List Nat) (f : Bool) (body : Ss) : Fn := fun ds =>
  match exSs Γ body (ds.map some ++ List.replicate (n - ds.length) none) with
  | .ret d ρ => .ok d (ios.map (gv ρ))
  | .nx ρ => if f then .ok .none (ios.map (gv ρ)) else .no
  | .err x ρ => .err x (ios.map (gv ρ))
  | _ => .no
end TV

/-! min of a tuple of ints -/
namespace TV
open PySem PySem.Spec PyProof.Rows L2
section
variable {prog : Program} {w : World} {A : Around} {E : Value → Shared → Prop} {s : Shared} {l : Addr} {its : List Value} {ns : List Int} {xs : Array (Int × Tok)} {Q : Value → Shared → Prop}
theorem minT_int (hh : A.handled = none) (hl : s.heap.IsTuple l (intItems xs)) (hne : 0 < xs.size)
    (h : ∀ v h' tk, (intItems xs)[argBest (fun i j => decide (numAt xs i < numAt xs j)) (xs.size - 1)]? = some v → (∀ b o, s.heap.get? b = some o → h'.get? b = some o) → Q v { s with heap := h', toks := tk }) :
    wpAny (model prog w) A (call (.builtin "min") [.ref l]) Q E s := by
  have hlt : l < s.heap.objs.size := by obtain ⟨_, e, _⟩ := hl; exact Heap.lt_size e
  refine call_min_walk (wpAny_pyIter_tuple hl ⟨s.heap.objs.size, [s.heap.objs.size, l], _, _, _, _, _, rfl, Walks.tuple (A := A.in1) hh _ l (Nat.ne_of_lt hlt) (intItems xs), ⟨⟨_, Heap.get?_push_size _ rfl, rfl, rfl⟩, hl.at fun o e => Heap.get?_push_of_some _ e⟩, (fun b hb => ?_), by simpa [intItems] using hne, CmpOf.ints_lt (numAt xs) (fun _ _ => intItems_at), fun v h' tk hP hk => ?_⟩)
  · show b < (s.heap.push _).objs.size; rw [Heap.size_push]
    have hb : b = s.heap.objs.size ∨ b = l := by simpa using hb
    rcases hb with e | e
    · rw [e]; exact Nat.lt_succ_self _
    · rw [e]; exact Nat.lt_succ_of_lt hlt
  · refine h v h' tk (by simpa [intItems] using hP) fun b o e => hk b o (fun hm => ?_) (Heap.get?_push_of_some _ e)
    have hm : b = s.heap.objs.size := by simpa using hm
    exact absurd (hm ▸ Heap.lt_size e) (Nat.lt_irrefl _)
theorem minT_raw (hh : A.handled = none) (hl : s.heap.IsTuple l its.toArray) (hi : IntsAre its ns) (hne : 0 < ns.length)
    (h : ∀ h' tk M t', (∀ b o, s.heap.get? b = some o → h'.get? b = some o) → M ∈ ns → (∀ a, a ∈ ns → M ≤ a) → Q (.int M t') { s with heap := h', toks := tk }) : wpAny (model prog w) A (call (.builtin "min") [.ref l]) Q E s := by
  obtain ⟨xs, e⟩ := hi.allInts.items
  have hn : numsOf (intItems xs).toList = ns := by rw [← e]; exact hi.numsOf
  rw [nums_intItems] at hn; subst hn; rw [e] at hl
  refine minT_int hh hl (by simpa using hne) fun v h' tk hv hk => ?_
  obtain ⟨t, rfl⟩ := intItems_at hv
  obtain ⟨h1, h2⟩ := argBest_lt (numAt xs) (xs.size - 1)
  have hsz : 0 < xs.size := by simpa using hne
  refine h h' tk _ t hk ?_ fun a ha => ?_
  · rw [numAt_eq]; exact PySem.getD_mem (by rw [List.length_map, Array.length_toList]; omega)
  · obtain ⟨j, hj, rfl⟩ := mem_getD ha; rw [List.length_map, Array.length_toList] at hj; rw [← numAt_eq]
    exact h2 j (by omega)
end
def rMinT (K : PySem.W.Frag) : List V → Hp → VK → Prop := fun vs H Q => ∃ (a : Addr) (ns : List Int), vs = [V.ref a] ∧ (SqL K H a (ns.map V.int) ∨ SqT K H a (ns.map V.int)) ∧ 0 < ns.length ∧ ∀ m, m ∈ ns → (∀ y, y ∈ ns → m ≤ y) → Q (.int m) H
theorem cr_minT {X : Cx} (hc : X.calm = true) : CallR X (.builtin "min") (rMinT X.K) := by
  intro pins s σ H vs us Q I r h
  obtain ⟨a, ns, rfl, hs | hs, hne, q⟩ := h
  · exact cr_min hc pins s σ H _ us Q I r ⟨a, ns, rfl, hs, hne, q⟩
  · obtain ⟨its, rv, hl, _⟩ := I.tuple hs
    rw [Vals.ref1 r]
    exact minT_raw (I.ok.hd hc) hl rv.ints hne fun h' tk m t' hk h1 h2 => ⟨.int _, H, I.kept hk, ⟨_, rfl⟩, q m h1 h2⟩
end TV
/-! V3: operations on values. -/
namespace TV
open PySem PySem.Spec PyProof.Rows L2
/-- what comes of an operation: its data, in a heap that has grown -/
def PostV (K : PySem.W.Frag) (B H : Hp) (sh : Sh) (d : D) (Q : VK) : Prop :=
  ∀ v H' B' as, Ext B H B' H' → (∀ G', Ow K B' G' H' sh d v as) → as.Nodup → (∀ a ∈ as, H a = none ∧ B' a = none) → Q v H'
section
variable {K : PySem.W.Frag} {B H : Hp} {Q : VK} {d : D} {ds : List D} {v : V} {vs : List V} {p : Addr}
theorem PostV.s (h : PostV K B H .s d Q) (e : Same B H) (hv : Dv K B v d) : Q v H :=
  h v H B [] (Ext.refl e) (fun _ => .s hv) List.nodup_nil (fun _ ha => by cases ha)
theorem free_of (e : Same B H) (hp : H p = none) : B p = none := e.free hp
theorem Ext.new1 (e : Same B H) (hp : H p = none) (o : HO) : Ext B H (upd B p o) (upd H p o) := by
  have hb := free_of e hp
  refine ⟨fun a u h => ?_, fun a u h => ?_, fun a u h => ?_, fun a u h => ?_⟩
  · rw [upd_ne (ne_of_none h hb)]; exact h
  · rw [upd_ne (ne_of_none h hp)]; exact h
  · by_cases ha : a = p
    · subst ha; rw [upd_same] at h ⊢; exact h
    · rw [upd_ne ha] at h ⊢; exact e _ _ h
  · by_cases ha : a = p
    · subst ha; exact .inr hp
    · rw [upd_ne ha] at h; exact .inl h
theorem Ext.newH (e : Same B H) (hp : H p = none) (o : HO) : Ext B H B (upd H p o) :=
  ⟨Same.refl _, fun a u h => by rw [upd_ne (ne_of_none h hp)]; exact h, fun a u h => by rw [upd_ne (ne_of_none (e _ _ h) hp)]; exact e _ _ h, fun a u h => .inl h⟩
theorem same_upd {B : Hp} (hb : B p = none) (o : HO) : Same B (upd B p o) := fun a u h => by rw [upd_ne (ne_of_none h hb)]; exact h
/-- a new tuple -/
theorem PostV.newT (h : PostV K B H .s (.tuple ds) Q) (e : Same B H) (t : DvAll K B vs ds) (hp : H p = none) : Q (.ref p) (upd H p (.tup vs)) :=
  h _ _ (upd B p (.tup vs)) [] (Ext.new1 e hp _) (fun _ => .s (.tup (.of upd_same) (t.mono (same_upd (free_of e hp) _)))) List.nodup_nil (fun _ ha => by cases ha)
/-- a new list, shared at once -/
theorem PostV.newLs (h : PostV K B H .s (.list ds) Q) (e : Same B H) (t : DvAll K B vs ds) (hp : H p = none) : Q (.ref p) (upd H p (.lst vs)) :=
  h _ _ (upd B p (.lst vs)) [] (Ext.new1 e hp _) (fun _ => .s (.lst upd_same (t.mono (same_upd (free_of e hp) _)))) List.nodup_nil (fun _ ha => by cases ha)
/-- a new list, owned -/
theorem PostV.newL (h : PostV K B H (.l .s) (.list ds) Q) (e : Same B H) (t : DvAll K B vs ds) (hp : H p = none) : Q (.ref p) (upd H p (.lst vs)) := by
  refine h _ _ B [p] (Ext.newH e hp _) (fun _ => .l upd_same (.of t)) (by simp) (fun a ha => ?_)
  have ha : a = p := by simpa using ha
  subst ha
  exact ⟨hp, free_of e hp⟩
/-- what is told of an operation: the values read as data -/
def RV1 (K : PySem.W.Frag) (sh : Sh) (g : D → Option D) (x : V) (H : Hp) (Q : VK) : Prop := ∃ B da d, Same B H ∧ Pk K B H x da ∧ g da = some d ∧ PostV K B H sh d Q
def RV2 (K : PySem.W.Frag) (sh : Sh) (g : D → D → Option D) (x y : V) (H : Hp) (Q : VK) : Prop := ∃ B da db d, Same B H ∧ Pk K B H x da ∧ Pk K B H y db ∧ g da db = some d ∧ PostV K B H sh d Q
end
/-- the shape of what an operation makes -/
def B1.sh : B1 → Sh
  | .lst => .l .s
  | .rev => .l .s
  | .rv2 => .l .s
  | .sortI => .l .s
  | .setT => .l .s
  | .lRng => .l .s
  | _ => .s
def B2.sh : B2 → Sh
  | .addL => .l .s
  | .mulL => .l .s
  | .slUL => .l .s
  | .slLL => .l .s
  | .zipL => .l .s
  | _ => .s
theorem lim_size {n : Nat} (h : n ≤ LIM) : n ≤ sizeLine := by rw [sizeLine_eq]; unfold LIM at h; omega
section
variable {X : Cx} {K : PySem.W.Frag} {B H : Hp} {x y : V} {da db : D} {f : Value} {r r' : List V → Hp → VK → Prop}
theorem cimp (h : CallR X f r) (i : ∀ xs H Q, r' xs H Q → r xs H Q) : CallR X f r' := fun pins s σ H xs us Q I rv hq => h pins s σ H xs us Q I rv (i _ _ _ hq)
theorem oimp {f : Value → Value → Sem Value} {r r' : R2} (h : OpR X f r) (i : ∀ x y H Q, r' x y H Q → r x y H Q) : OpR X f r' := fun pins s σ H x y u v Q I r1 r2 hq => h pins s σ H x y u v Q I r1 r2 (i _ _ _ _ hq)
theorem Pk.int' {v : V} {i : Int} (h : Pk K B H v (.int i)) : v = .int i := by cases h with | s h => cases h; rfl
theorem Pk.str' {v : V} {i : Str} (h : Pk K B H v (.str i)) : v = .str i := by cases h with | s h => cases h; rfl
theorem Pk.bl' {v : V} {i : Bool} (h : Pk K B H v (.bool i)) : v = .bl i := by cases h with | s h => cases h; rfl
theorem Dv.int' {v : V} {i : Int} (h : Dv K B v (.int i)) : v = .int i := by cases h; rfl
theorem Dv.str' {v : V} {i : Str} (h : Dv K B v (.str i)) : v = .str i := by cases h; rfl
theorem Dv.bl' {v : V} {i : Bool} (h : Dv K B v (.bool i)) : v = .bl i := by cases h; rfl
theorem Dv.non' {v : V} (h : Dv K B v .none) : v = .non := by cases h; rfl
theorem intsD_all : ∀ {ds : List D} {vs : List V} {is : List Int}, DvAll K B vs ds → intsD ds = some is → vs = is.map V.int ∧ ds = is.map PyData.int := by
  intro ds
  induction ds with
  | nil => intro vs is h e; cases h; simp only [intsD, Option.some.injEq] at e; subst e; exact ⟨rfl, rfl⟩
  | cons d ds ih =>
    intro vs is h e
    cases h with
    | cons hd ht =>
      cases d with
      | int i =>
        simp only [intsD, Option.map_eq_some_iff] at e
        obtain ⟨js, e, rfl⟩ := e
        obtain ⟨h1, h2⟩ := ih ht e
        subst h1 h2
        cases hd
        exact ⟨rfl, rfl⟩
      | _ => simp [intsD] at e
theorem boolsD_all : ∀ {ds : List D} {vs : List V} {is : List Bool}, DvAll K B vs ds → boolsD ds = some is → vs = is.map V.bl ∧ ds = is.map PyData.bool := by
  intro ds
  induction ds with
  | nil => intro vs is h e; cases h; simp only [boolsD, Option.some.injEq] at e; subst e; exact ⟨rfl, rfl⟩
  | cons d ds ih =>
    intro vs is h e
    cases h with
    | cons hd ht =>
      cases d with
      | bool i =>
        simp only [boolsD, Option.map_eq_some_iff] at e
        obtain ⟨js, e, rfl⟩ := e
        obtain ⟨h1, h2⟩ := ih ht e
        subst h1 h2
        cases hd
        exact ⟨rfl, rfl⟩
      | _ => simp [boolsD] at e
theorem DvAll.ints (is : List Int) : DvAll K B (is.map V.int) (is.map PyData.int) := by
  induction is with
  | nil => exact .nil
  | cons i is ih => exact .cons (.int i) ih
/-! ### of one value -/
abbrev VC1 (X : Cx) (f : Value) (o : B1) : Prop := CallR X f fun xs H Q => ∃ x, xs = [x] ∧ RV1 X.K o.sh (b1 o) x H Q
theorem vc_len : VC1 X (.builtin "len") .len := cimp call_len fun xs H Q h => by
  obtain ⟨x, rfl, B, da, d, e, hx, hd, q⟩ := h
  cases da with
  | list ds =>
    obtain ⟨a, vs, rfl, hs, t⟩ := hx.list e
    simp only [b1, Option.some.injEq] at hd
    subst hd
    exact ⟨_, _, rfl, .inl ⟨_, hs, rfl⟩, q.s e (by rw [t.length]; exact .int _)⟩
  | tuple ds =>
    obtain ⟨a, vs, rfl, hs, t⟩ := hx.tuple e
    simp only [b1, Option.some.injEq] at hd
    subst hd
    exact ⟨_, _, rfl, .inr ⟨_, hs, rfl⟩, q.s e (by rw [t.length]; exact .int _)⟩
  | str z =>
    obtain rfl := hx.str'
    simp only [b1] at hd
    split at hd
    · rename_i hl
      simp only [Option.some.injEq] at hd
      subst hd
      exact ⟨_, z.length, rfl, ⟨lim_size hl, rfl⟩, q.s e (.int _)⟩
    · cases hd
  | _ => simp [b1] at hd
theorem vc_abs : VC1 X (.builtin "abs") .abs := cimp call_abs fun xs H Q h => by
  obtain ⟨x, rfl, B, da, d, e, hx, hd, q⟩ := h
  cases da with
  | int i =>
    obtain rfl := hx.int'
    simp only [b1, Option.some.injEq] at hd
    subst hd
    exact ⟨_, rfl, q.s e (.int _)⟩
  | _ => simp [b1] at hd
theorem vc_int : VC1 X (.type "int") .int := cimp call_int1 fun xs H Q h => by
  obtain ⟨x, rfl, B, da, d, e, hx, hd, q⟩ := h
  cases da with
  | int i =>
    obtain rfl := hx.int'
    simp only [b1, Option.some.injEq] at hd
    subst hd
    exact .inl ⟨_, rfl, q.s e (.int _)⟩
  | bool i =>
    obtain rfl := hx.bl'
    simp only [b1, Option.some.injEq] at hd
    subst hd
    exact .inr ⟨_, rfl, q.s e (.int _)⟩
  | _ => simp [b1] at hd
theorem vc_tup : VC1 X (.type "tuple") .tup := cimp call_tuple_of fun xs H Q h => by
  obtain ⟨x, rfl, B, da, d, e, hx, hd, q⟩ := h
  cases da with
  | list ds =>
    obtain ⟨a, vs, rfl, hs, t⟩ := hx.list e
    simp only [b1, Option.some.injEq] at hd
    subst hd
    exact ⟨_, _, rfl, .inl ⟨hs, fun l hl => q.newT e t hl⟩⟩
  | tuple ds =>
    obtain ⟨a, vs, rfl, hs, t⟩ := hx.tuple e
    simp only [b1, Option.some.injEq] at hd
    subst hd
    cases hx with
    | s hx => exact ⟨_, _, rfl, .inr ⟨hs, q.s e hx⟩⟩
  | _ => simp [b1] at hd
theorem vc_lst : VC1 X (.type "list") .lst := cimp call_list_of fun xs H Q h => by
  obtain ⟨x, rfl, B, da, d, e, hx, hd, q⟩ := h
  cases da with
  | list ds =>
    obtain ⟨a, vs, rfl, hs, t⟩ := hx.list e
    simp only [b1, Option.some.injEq] at hd
    subst hd
    exact ⟨_, _, rfl, .inl hs, fun l hl => PostV.newL q e t hl⟩
  | tuple ds =>
    obtain ⟨a, vs, rfl, hs, t⟩ := hx.tuple e
    simp only [b1, Option.some.injEq] at hd
    subst hd
    exact ⟨_, _, rfl, .inr hs, fun l hl => PostV.newL q e t hl⟩
  | _ => simp [b1] at hd
theorem vc_sum (hc : X.calm = true) : VC1 X (.builtin "sum") .sum := cimp (cr_sum hc) fun xs H Q h => by
  obtain ⟨x, rfl, B, da, d, e, hx, hd, q⟩ := h
  cases da with
  | list ds =>
    obtain ⟨a, vs, rfl, hs, t⟩ := hx.list e
    simp only [b1] at hd
    split at hd
    · rename_i is hi
      simp only [Option.some.injEq] at hd
      subst hd
      obtain ⟨rfl, _⟩ := intsD_all t hi
      exact ⟨_, is, rfl, hs, q.s e (.int _)⟩
    · cases hd
  | _ => simp [b1] at hd
theorem minI_spec : ∀ (is : List Int) (i : Int), minI i is ∈ i :: is ∧ ∀ y ∈ i :: is, minI i is ≤ y
  | [], i => ⟨by simp [minI], by simp [minI]⟩
  | j :: is, i => by
    simp only [minI]
    obtain ⟨h1, h2⟩ := minI_spec is (if j < i then j else i)
    constructor
    · rcases List.mem_cons.mp h1 with h | h
      · rw [h]; split <;> simp
      · exact List.mem_cons_of_mem _ (List.mem_cons_of_mem _ h)
    · intro y hy
      have h3 := h2 (if j < i then j else i) List.mem_cons_self
      generalize minI (if j < i then j else i) is = z at h2 h3 ⊢
      rcases List.mem_cons.mp hy with h | h
      · subst h; split at h3 <;> omega
      · rcases List.mem_cons.mp h with h | h
        · subst h; split at h3 <;> omega
        · exact h2 y (List.mem_cons_of_mem _ h)
theorem maxI_spec : ∀ (is : List Int) (i : Int), maxI i is ∈ i :: is ∧ ∀ y ∈ i :: is, y ≤ maxI i is
  | [], i => ⟨by simp [maxI], by simp [maxI]⟩
  | j :: is, i => by
    simp only [maxI]
    obtain ⟨h1, h2⟩ := maxI_spec is (if i < j then j else i)
    constructor
    · rcases List.mem_cons.mp h1 with h | h
      · rw [h]; split <;> simp
      · exact List.mem_cons_of_mem _ (List.mem_cons_of_mem _ h)
    · intro y hy
      have h3 := h2 (if i < j then j else i) List.mem_cons_self
      generalize maxI (if i < j then j else i) is = z at h2 h3 ⊢
      rcases List.mem_cons.mp hy with h | h
      · subst h; split at h3 <;> omega
      · rcases List.mem_cons.mp h with h | h
        · subst h; split at h3 <;> omega
        · exact h2 y (List.mem_cons_of_mem _ h)
theorem vc_minL (hc : X.calm = true) : VC1 X (.builtin "min") .minL := cimp (cr_minT hc) fun xs H Q h => by
  obtain ⟨x, rfl, B, da, d, e, hx, hd, q⟩ := h
  have fin : ∀ {ds : List D} {vs : List V}, DvAll X.K B vs ds → (match intsD ds with | some (i :: is) => some (PyData.int (minI i is)) | _ => none) = some d → ∃ ns : List Int, vs = ns.map V.int ∧ 0 < ns.length ∧ ∀ m, m ∈ ns → (∀ y, y ∈ ns → m ≤ y) → Q (.int m) H := fun {ds vs} t hd => by
    split at hd
    · rename_i i is hi
      simp only [Option.some.injEq] at hd
      subst hd
      obtain ⟨rfl, _⟩ := intsD_all t hi
      refine ⟨i :: is, rfl, by simp, fun m h1 h2 => ?_⟩
      obtain ⟨k1, k2⟩ := minI_spec is i
      have : m = minI i is := Int.le_antisymm (h2 _ k1) (k2 _ h1)
      subst this
      exact q.s e (.int _)
    · cases hd
  cases da with
  | list ds =>
    obtain ⟨a, vs, rfl, hs, t⟩ := hx.list e
    obtain ⟨ns, rfl, h1, h2⟩ := fin t hd
    exact ⟨a, ns, rfl, .inl hs, h1, h2⟩
  | tuple ds =>
    obtain ⟨a, vs, rfl, hs, t⟩ := hx.tuple e
    obtain ⟨ns, rfl, h1, h2⟩ := fin t hd
    exact ⟨a, ns, rfl, .inr hs, h1, h2⟩
  | _ => simp [b1] at hd
theorem vc_maxL (hc : X.calm = true) : VC1 X (.builtin "max") .maxL := cimp (cr_max hc) fun xs H Q h => by
  obtain ⟨x, rfl, B, da, d, e, hx, hd, q⟩ := h
  cases da with
  | list ds =>
    obtain ⟨a, vs, rfl, hs, t⟩ := hx.list e
    simp only [b1] at hd
    split at hd
    · rename_i i is hi
      simp only [Option.some.injEq] at hd
      subst hd
      obtain ⟨rfl, _⟩ := intsD_all t hi
      refine ⟨_, i :: is, rfl, hs, by simp, fun m h1 h2 => ?_⟩
      obtain ⟨k1, k2⟩ := maxI_spec is i
      have : m = maxI i is := Int.le_antisymm (k2 _ h1) (h2 _ k1)
      subst this
      exact q.s e (.int _)
    · cases hd
  | _ => simp [b1] at hd
theorem vc_all (hc : X.calm = true) : VC1 X (.builtin "all") .all_ := cimp (cr_all hc) fun xs H Q h => by
  obtain ⟨x, rfl, B, da, d, e, hx, hd, q⟩ := h
  cases da with
  | list ds =>
    obtain ⟨a, vs, rfl, hs, t⟩ := hx.list e
    simp only [b1] at hd
    split at hd
    · rename_i is hi
      simp only [Option.some.injEq] at hd
      subst hd
      obtain ⟨rfl, _⟩ := boolsD_all t hi
      exact ⟨_, is, rfl, hs, q.s e (.bl _)⟩
    · cases hd
  | _ => simp [b1] at hd
theorem vc_any (hc : X.calm = true) : VC1 X (.builtin "any") .any_ := cimp (cr_any hc) fun xs H Q h => by
  obtain ⟨x, rfl, B, da, d, e, hx, hd, q⟩ := h
  cases da with
  | list ds =>
    obtain ⟨a, vs, rfl, hs, t⟩ := hx.list e
    simp only [b1] at hd
    split at hd
    · rename_i is hi
      simp only [Option.some.injEq] at hd
      subst hd
      obtain ⟨rfl, _⟩ := boolsD_all t hi
      exact ⟨_, is, rfl, hs, q.s e (.bl _)⟩
    · cases hd
  | _ => simp [b1] at hd
/-! ### repr -/
mutual
theorem Dv.dp : ∀ {v : V} {d : D}, Same B H → Dv K B v d → d.hasDict = false → Dp K H v d
  | _, _, _, .non, _ => .non
  | _, _, _, .bl b, _ => .bl b
  | _, _, _, .int i, _ => .int i
  | _, _, _, .str x, _ => .str x
  | _, _, e, .lst h t, n => .lst (.of (e _ _ h)) (DvAll.dp e t (by simpa [PyData.hasDict] using n))
  | _, _, e, .tup h t, n => .tup (Le.tup e h) (DvAll.dp e t (by simpa [PyData.hasDict] using n))
  | _, _, _, .dk _ _, n => by simp [PyData.hasDict] at n
  | _, _, _, .dt _ _, n => by simp [PyData.hasDict] at n
theorem DvAll.dp : ∀ {v : List V} {d : List D}, Same B H → DvAll K B v d → PyData.hasDictAll d = false → DpAll K H v d
  | _, _, _, .nil, _ => .nil
  | _, _, e, .cons h t, n => by
    simp only [PyData.hasDictAll, Bool.or_eq_false_iff] at n
    exact .cons (Dv.dp e h n.1) (DvAll.dp e t n.2)
end
theorem Pk.dp {v : V} {d : D} (e : Same B H) (h : Pk K B H v d) (n : d.hasDict = false) : Dp K H v d := by
  cases h with
  | s h => exact h.dp e n
  | l h t => exact .lst (.of h) (t.dp e (by simpa [PyData.hasDict] using n))
  | z h t => exact .lst h (t.dp e (by simpa [PyData.hasDict] using n))
theorem repr_reads {X : Cx} {pins : List (Addr × Obj)} {s : Shared} {σ : L2.St} {u : Value} {d : D} {as : List Addr} {Q : VK} (I : Inv X pins σ H s) (hg : X.A.guards = some []) (hu : X.A.units + 70 < cLine) (r : Reads s.heap u d as)
    (hs : d.showable = true) (hd : d.depth ≤ 64) (hsm : d.hasDict = true → sysModules ∉ as) (hl : d.shown.length ≤ sizeLine) (q : Q (.str d.shown) H) :
    wpAny (model X.prog X.w) X.A (call (.builtin "repr") [u]) (EP X pins σ Q) X.xe s := by
  have fin : ∀ {h' : Heap} {t u' : Nat}, (∀ b o, s.heap.get? b = some o → h'.get? b = some o) → EP X pins σ Q (.str d.shown u') { s with heap := h', toks := t } := fun k => ⟨.str _, H, I.kept k, ⟨_, rfl⟩, q⟩
  cases r with
  | none => exact PySem.P.repr_of_none (by have h := fin (h' := s.heap) (t := s.toks + 1) (u' := s.toks) (fun _ _ e => e); simpa [PyData.shown] using h)
  | bool b => exact PySem.P.repr_of_bool (by have h := fin (h' := s.heap) (t := s.toks + 1) (u' := s.toks) (fun _ _ e => e); simpa [PyData.shown] using h)
  | int i t => exact PySem.P.repr_of_int (by simpa [PyData.showable] using hs) (by have h := fin (h' := s.heap) (t := s.toks + 1) (u' := s.toks) (fun _ _ e => e); simpa [PyData.shown] using h)
  | str x t => exact PySem.P.repr_of_str (by have h := fin (h' := s.heap) (t := s.toks + 1) (u' := s.toks) (fun _ _ e => e); simpa [PyData.shown] using h) (by simpa [PyData.shown] using hl)
  | list h1 h2 h3 h4 => exact repr_of_reads' (.list h1 h2 h3 h4) hs hsm hg (by omega) (fun _ _ e => e) (fun h' u' tk k => fin k) hl
  | tuple h1 h2 h3 h4 => exact repr_of_reads' (.tuple h1 h2 h3 h4) hs hsm hg (by omega) (fun _ _ e => e) (fun h' u' tk k => fin k) hl
  | dict h1 h2 h3 h4 h5 => exact repr_of_reads' (.dict h1 h2 h3 h4 h5) hs hsm hg (by omega) (fun _ _ e => e) (fun h' u' tk k => fin k) hl
theorem vc_repr (hg : X.A.guards = some []) (hu : X.A.units + 70 < cLine) : VC1 X (.builtin "repr") .repr := by
  intro pins s σ H xs us Q I rv h
  obtain ⟨x, rfl, B, da, d, e, hx, hd, q⟩ := h
  obtain ⟨u, rfl, r⟩ := vals1 rv
  simp only [b1] at hd
  split at hd
  · rename_i hc
    simp only [Bool.and_eq_true, decide_eq_true_eq, Bool.not_eq_true'] at hc
    obtain ⟨⟨⟨c1, c2⟩, c3⟩, c4⟩ := hc
    simp only [Option.some.injEq] at hd
    subst hd
    obtain ⟨as, hr⟩ := Dp.reads I da x u (hx.dp e c3) r
    exact repr_reads I hg hu hr c1 c2 (fun z => by rw [c3] at z; cases z) (lim_size c4) (q.s e (.str _))
  · cases hd
end
end TV

/-! tuples of ints: less -/
namespace TV
open PySem PySem.Spec PyProof.Rows L2
def rLtT (K : PySem.W.Frag) : R2 := fun x y H Q => ∃ (a b : Addr) (ns ms : List Int), x = .ref a ∧ y = .ref b ∧ SqT K H a (ns.map V.int) ∧ SqT K H b (ms.map V.int) ∧ Q (.bl (lexLtI ns ms)) H
def rLeT2 (K : PySem.W.Frag) : R2 := fun x y H Q => ∃ (a b : Addr) (ns ms : List Int), x = .ref a ∧ y = .ref b ∧ SqT K H a (ns.map V.int) ∧ SqT K H b (ms.map V.int) ∧ Q (.bl (lexLeT ns ms)) H
theorem lexAt_shift {e r e' r' : Nat → Bool} {z : Bool} (he : ∀ j, e (j + 1) = e' j) (hr : ∀ j, r (j + 1) = r' j) : ∀ (k i : Nat), Ob.lexAt e r z (i + 1) k = Ob.lexAt e' r' z i k
  | 0, _ => rfl
  | k + 1, i => by rw [Ob.lexAt_succ, Ob.lexAt_succ, he, hr, lexAt_shift he hr k (i + 1)]
theorem lexAt_lt : ∀ (ns ms : List Int), Ob.lexAt (fun j => decide (ns.getD j 0 = ms.getD j 0)) (fun j => decide (ns.getD j 0 < ms.getD j 0)) (decide (ns.length < ms.length)) 0 (min ns.length ms.length) = lexLtI ns ms
  | [], [] => rfl
  | [], _ :: _ => by simp [lexLtI, Ob.lexAt_zero]
  | _ :: _, [] => by simp [lexLtI, Ob.lexAt_zero]
  | x :: xs, y :: ys => by
    have ih := lexAt_lt xs ys
    simp only [List.length_cons, Nat.succ_min_succ, Ob.lexAt_succ, List.getD_cons_zero, decide_eq_true_eq, Nat.add_lt_add_iff_right]
    rw [lexAt_shift (e' := fun j => decide (xs.getD j 0 = ys.getD j 0)) (r' := fun j => decide (xs.getD j 0 < ys.getD j 0)) (fun j => rfl) (fun j => rfl), ih]
    rfl
theorem lexAt_le : ∀ (ns ms : List Int), Ob.lexAt (fun j => decide (ns.getD j 0 = ms.getD j 0)) (fun j => decide (ns.getD j 0 ≤ ms.getD j 0)) (decide (ns.length ≤ ms.length)) 0 (min ns.length ms.length) = lexLeT ns ms
  | [], [] => rfl
  | [], _ :: _ => by simp [lexLeT, Ob.lexAt_zero]
  | _ :: _, [] => by simp [lexLeT, Ob.lexAt_zero]
  | x :: xs, y :: ys => by
    have ih := lexAt_le xs ys
    simp only [List.length_cons, Nat.succ_min_succ, Ob.lexAt_succ, List.getD_cons_zero, decide_eq_true_eq, Nat.add_le_add_iff_right]
    rw [lexAt_shift (e' := fun j => decide (xs.getD j 0 = ys.getD j 0)) (r' := fun j => decide (xs.getD j 0 ≤ ys.getD j 0)) (fun j => rfl) (fun j => rfl), ih]
    rfl
theorem op_leT2 {X : Cx} (hu : X.A.units < cLine) : OpR X (compareOp .LtE) (rLeT2 X.K) := fun pins s σ H x y v u Q I rx ry h => by
  obtain ⟨a, b, ns, ms, rfl, rfl, ha, hb, q⟩ := h
  exact op_leT hu pins s σ H _ _ v u Q I rx ry ⟨a, b, ns, ms, rfl, rfl, ha, hb, by rw [lexAt_le]; exact q⟩
theorem op_ltT {X : Cx} (hu : X.A.units < cLine) : OpR X (compareOp .Lt) (rLtT X.K) := by
  intro pins s σ H x y v u Q I rx ry h
  obtain ⟨a, b, ns, ms, rfl, rfl, ha, hb, q⟩ := h
  cases rx; cases ry
  obtain ⟨its, r1, p1, _⟩ := I.tuple ha; obtain ⟨its2, r2, p2, _⟩ := I.tuple hb
  have i1 : IntsAre its ns := Vals.ints r1; have i2 : IntsAre its2 ms := Vals.ints r2
  have e1 : its.toArray.size = ns.length := by simpa using i1.length
  have e2 : its2.toArray.size = ms.length := by simpa using i2.length
  have g : ∀ {is : List Value} {ks : List Int}, IntsAre is ks → ∀ j (h1 : j < is.toArray.size), ∃ t, is.toArray[j] = .int (ks.getD j 0) t := fun {is ks} ii j h1 => PyProof.Rows.IntsAre.int_at ii _ _ (by simp at h1; simp [h1])
  have R := Ob.RcOp.tuples_lt (A := X.A) (s := s) (e := fun j => decide (ns.getD j 0 = ms.getD j 0)) (r := fun j => decide (ns.getD j 0 < ms.getD j 0)) p1 p2 hu (fun j h1 h2 => by
    obtain ⟨t, et⟩ := g i1 j h1; obtain ⟨t', et'⟩ := g i2 j h2; rw [et, et']
    have z : (ns.getD j 0 == ms.getD j 0) = decide (ns.getD j 0 = ms.getD j 0) := by
      by_cases q : ns.getD j 0 = ms.getD j 0
      · rw [decide_eq_true q, q]; simp
      · rw [decide_eq_false q]; simpa using q
    rw [← z]; exact SeqAt.EqAt.int_int _ _ _ _) (fun j h1 h2 _ => by
    obtain ⟨t, et⟩ := g i1 j h1; obtain ⟨t', et'⟩ := g i2 j h2; rw [et, et']; exact Ob.RcOp.lt_int _ _ _ _)
  rw [e1, e2, lexAt_lt] at R
  have z : wpAny (model X.prog X.w) X.A (compareOp .Lt (.ref a) (.ref b)) (EP X pins σ Q) X.xe s := R X.prog X.w X.xe (EP X pins σ Q) ⟨.bl _, H, I, rfl, q⟩
  exact z
end TV
/-! V4: operations on two values. -/
namespace TV
open PySem PySem.Spec PyProof.Rows L2
section
variable {X : Cx} {K : PySem.W.Frag} {B H : Hp} {x y : V} {da db : D}
abbrev VO2 (X : Cx) (f : Value → Value → Sem Value) (o : B2) : Prop := OpR X f (RV2 X.K o.sh (b2 o))
theorem Pk.exact {v : V} {ds : List D} (h : Pk K B H v (.list ds)) (e : Same B H) (nz : ¬ ∃ a vs, v = .ref a ∧ SqL K B a vs ∧ B a = none) : True := trivial
/-- two lists, tracked or of the script: + -/
theorem op_catP : OpR X (binaryOp .Add) (fun x y H Q => ∃ l b xs zs, x = .ref l ∧ y = .ref b ∧ H l = some (.lst xs) ∧ H b = some (.lst zs) ∧ xs.length + zs.length ≤ sizeLine ∧ ∀ p, H p = none → Q (.ref p) (upd H p (.lst (xs ++ zs)))) := op_cat
/-- an exact list -/
def exL (H : Hp) (v : V) : Prop := ∃ a vs, v = .ref a ∧ H a = some (.lst vs)
theorem vo_add_int {i j : Int} {Q : VK} {pins : List (Addr × Obj)} {s : Shared} {σ : L2.St} {u w : Value} (I : L2.Inv X pins σ H s) (ru : RelV (.int i) u) (rw : RelV (.int j) w) (q : Q (.int (i + j)) H) :
    wpAny (model X.prog X.w) X.A (binaryOp .Add u w) (EP X pins σ Q) X.xe s := op_add pins s σ H _ _ _ _ Q I ru rw ⟨i, j, rfl, rfl, q⟩
/-- lists that may be added: not the script's -/
def Ex (K : PySem.W.Frag) (B H : Hp) (v : V) (d : D) : Prop := Dv K B v d ∨ ∃ a vs ds, v = .ref a ∧ d = .list ds ∧ H a = some (.lst vs) ∧ DvAll K B vs ds
theorem Ex.pk {v : V} {d : D} (h : Ex K B H v d) : Pk K B H v d := by
  rcases h with h | ⟨a, vs, ds, rfl, rfl, h, t⟩
  · exact .s h
  · exact .l h t
theorem Ex.list {v : V} {ds : List D} (h : Ex K B H v (.list ds)) (e : Same B H) : ∃ a vs, v = .ref a ∧ H a = some (.lst vs) ∧ DvAll K B vs ds := by
  rcases h with h | ⟨a, vs, ds, rfl, q, h, t⟩
  · cases h with
    | lst h t => exact ⟨_, _, rfl, e _ _ h, t⟩
  · cases q; exact ⟨_, _, rfl, h, t⟩
def RX2 (K : PySem.W.Frag) (sh : Sh) (g : D → D → Option D) (x y : V) (H : Hp) (Q : VK) : Prop := ∃ B da db d, Same B H ∧ Ex K B H x da ∧ Ex K B H y db ∧ g da db = some d ∧ PostV K B H sh d Q
theorem vo_addL : OpR X (binaryOp .Add) (RX2 X.K (.l .s) (b2 .addL)) := oimp op_cat fun x y H Q h => by
  obtain ⟨B, da, db, d, e, hx, hy, hd, q⟩ := h
  cases da with
  | list as =>
    cases db with
    | list bs =>
      simp only [b2] at hd
      split at hd
      · rename_i hl
        simp only [Option.some.injEq] at hd
        subst hd
        obtain ⟨a, vs, rfl, h1, t1⟩ := hx.list e
        obtain ⟨b, us, rfl, h2, t2⟩ := hy.list e
        exact ⟨a, b, vs, us, rfl, rfl, h1, h2, lim_size (by rw [t1.length, t2.length]; exact hl), fun p hp => PostV.newL q e (t1.append t2) hp⟩
      · cases hd
    | _ => simp [b2] at hd
  | _ => simp [b2] at hd
theorem vo_add : OpR X (binaryOp .Add) (RX2 X.K .s (b2 .add)) := by
  intro pins s σ H x y u w Q I ru rw h
  obtain ⟨B, da, db, d, e, hx, hy, hd, q⟩ := h
  cases da with
  | int i =>
    cases db with
    | int j =>
      obtain rfl := hx.pk.int'
      obtain rfl := hy.pk.int'
      simp only [b2, Option.some.injEq] at hd
      subst hd
      exact vo_add_int I ru rw (q.s e (.int _))
    | _ => simp [b2] at hd
  | str i =>
    cases db with
    | str j =>
      obtain rfl := hx.pk.str'
      obtain rfl := hy.pk.str'
      simp only [b2] at hd
      split at hd
      · rename_i hl
        simp only [Option.some.injEq] at hd
        subst hd
        exact op_add_str pins s σ H _ _ _ _ Q I ru rw ⟨i, j, rfl, rfl, lim_size hl, q.s e (.str _)⟩
      · cases hd
    | _ => simp [b2] at hd
  | tuple as =>
    cases db with
    | tuple bs =>
      simp only [b2] at hd
      split at hd
      · rename_i hl
        simp only [Option.some.injEq] at hd
        subst hd
        obtain ⟨a, vs, e1, h1, t1⟩ := hx.pk.tuple e
        obtain ⟨b, us, e2, h2, t2⟩ := hy.pk.tuple e
        subst e1 e2
        have hvx : Dv X.K B (.ref a) (.tuple as) := by cases hx.pk with | s h => exact h
        have hvy : Dv X.K B (.ref b) (.tuple bs) := by cases hy.pk with | s h => exact h
        refine op_catA pins s σ H _ _ _ _ Q I ru rw ⟨a, b, vs, us, rfl, rfl, h1, h2, lim_size (by rw [t1.length, t2.length]; exact hl), fun z => ?_, fun _ z => ?_, fun _ _ p hp => q.newT e (t1.append t2) hp⟩
        · subst z
          cases t1
          exact q.s e hvy
        · subst z
          cases t2
          rw [List.append_nil] at q
          exact q.s e hvx
      · cases hd
    | _ => simp [b2] at hd
  | list as =>
    cases db with
    | list bs =>
      simp only [b2] at hd
      split at hd
      · rename_i hl
        simp only [Option.some.injEq] at hd
        subst hd
        obtain ⟨a, vs, e1, h1, t1⟩ := hx.list e
        obtain ⟨b, us, e2, h2, t2⟩ := hy.list e
        subst e1 e2
        exact op_cat pins s σ H _ _ _ _ Q I ru rw ⟨a, b, vs, us, rfl, rfl, h1, h2, lim_size (by rw [t1.length, t2.length]; exact hl), fun p hp => q.newLs e (t1.append t2) hp⟩
      · cases hd
    | _ => simp [b2] at hd
  | _ => simp [b2] at hd
/-- ints alone -/
theorem vo_ints {f : Value → Value → Sem Value} {C : Int → Int → Prop} {g : Int → Int → V} {o : B2} (h : OpR X f (rI C g)) (hs : o.sh = .s)
    (k : ∀ da db d, b2 o da db = some d → ∃ i j, da = .int i ∧ db = .int j ∧ C i j ∧ ∀ K B, Dv K B (g i j) d) : VO2 X f o := oimp h fun x y H Q h => by
  obtain ⟨B, da, db, d, e, hx, hy, hd, q⟩ := h
  obtain ⟨i, j, rfl, rfl, c, hv⟩ := k _ _ _ hd
  obtain rfl := hx.int'
  obtain rfl := hy.int'
  rw [hs] at q
  exact ⟨i, j, rfl, rfl, c, q.s e (hv _ _)⟩
theorem vo_ints0 {f : Value → Value → Sem Value} {g : Int → Int → V} {o : B2} (h : OpR X f (rI0 g)) (hs : o.sh = .s)
    (k : ∀ da db d, b2 o da db = some d → ∃ i j, da = .int i ∧ db = .int j ∧ ∀ K B, Dv K B (g i j) d) : VO2 X f o := oimp h fun x y H Q h => by
  obtain ⟨B, da, db, d, e, hx, hy, hd, q⟩ := h
  obtain ⟨i, j, rfl, rfl, hv⟩ := k _ _ _ hd
  obtain rfl := hx.int'
  obtain rfl := hy.int'
  rw [hs] at q
  exact ⟨i, j, rfl, rfl, q.s e (hv _ _)⟩
theorem vo_sub : VO2 X (binaryOp .Sub) .sub := vo_ints0 op_sub rfl fun da db d h => by
  unfold b2 at h
  split at h <;> simp_all
  subst h
  exact fun K B => .int _
theorem vo_intsT {f : Value → Value → Sem Value} {g : Int → Int → V} {o : B2} {F : List Int → List Int → Bool} (h : OpR X f (rI0 g)) (hT : OpR X f (fun x y H Q => ∃ (a b : Addr) (ns ms : List Int), x = .ref a ∧ y = .ref b ∧ SqT X.K H a (ns.map V.int) ∧ SqT X.K H b (ms.map V.int) ∧ Q (.bl (F ns ms)) H)) (hs : o.sh = .s)
    (k : ∀ da db d, b2 o da db = some d → (∃ i j, da = .int i ∧ db = .int j ∧ ∀ K B, Dv K B (g i j) d) ∨ ∃ as bs xs ys, da = .tuple as ∧ db = .tuple bs ∧ intsD as = some xs ∧ intsD bs = some ys ∧ d = .bool (F xs ys)) : VO2 X f o := fun pins s σ H x y u v Q I r1 r2 q => by
  obtain ⟨B, da, db, d, e, hx, hy, hd, q⟩ := q
  rw [hs] at q
  rcases k _ _ _ hd with ⟨i, j, rfl, rfl, hv⟩ | ⟨as, bs, xs, ys, rfl, rfl, h1, h2, rfl⟩
  · obtain rfl := hx.int'
    obtain rfl := hy.int'
    exact h pins s σ H _ _ u v Q I r1 r2 ⟨i, j, rfl, rfl, q.s e (hv _ _)⟩
  · obtain ⟨a, vs, rfl, s1, t1⟩ := hx.tuple e
    obtain ⟨b, us, rfl, s2, t2⟩ := hy.tuple e
    obtain ⟨rfl, _⟩ := intsD_all t1 h1
    obtain ⟨rfl, _⟩ := intsD_all t2 h2
    exact hT pins s σ H _ _ u v Q I r1 r2 ⟨a, b, xs, ys, rfl, rfl, s1, s2, q.s e (.bl _)⟩
theorem lexD_some {F : List Int → List Int → Bool} {as bs : List D} {d : D} (h : lexD F as bs = some d) : ∃ xs ys, intsD as = some xs ∧ intsD bs = some ys ∧ d = .bool (F xs ys) := by
  unfold lexD at h
  split at h
  · rename_i xs ys h1 h2
    cases h
    exact ⟨xs, ys, h1, h2, rfl⟩
  · cases h
theorem vo_lt (hu : X.A.units < cLine) : VO2 X (compareOp .Lt) .lt := vo_intsT (F := lexLtI) op_lt (op_ltT hu) rfl fun da db d h => by
  cases da <;> cases db <;> simp only [b2, Option.some.injEq, reduceCtorEq] at h
  · subst h; exact .inl ⟨_, _, rfl, rfl, fun K B => .bl _⟩
  · obtain ⟨xs, ys, h1, h2, h3⟩ := lexD_some h
    exact .inr ⟨_, _, xs, ys, rfl, rfl, h1, h2, h3⟩
theorem vo_le (hu : X.A.units < cLine) : VO2 X (compareOp .LtE) .le := vo_intsT (F := lexLeT) op_le (op_leT2 hu) rfl fun da db d h => by
  cases da <;> cases db <;> simp only [b2, Option.some.injEq, reduceCtorEq] at h
  · subst h; exact .inl ⟨_, _, rfl, rfl, fun K B => .bl _⟩
  · obtain ⟨xs, ys, h1, h2, h3⟩ := lexD_some h
    exact .inr ⟨_, _, xs, ys, rfl, rfl, h1, h2, h3⟩
theorem vo_gt : VO2 X (compareOp .Gt) .gt := vo_ints0 op_gt rfl fun da db d h => by
  unfold b2 at h
  split at h <;> simp_all
  subst h
  exact fun K B => .bl _
theorem vo_ge : VO2 X (compareOp .GtE) .ge := vo_ints0 op_ge rfl fun da db d h => by
  unfold b2 at h
  split at h <;> simp_all
  subst h
  exact fun K B => .bl _
theorem vo_fdiv : VO2 X (binaryOp .FloorDiv) .fdiv := vo_ints op_fdiv rfl fun da db d h => by
  unfold b2 at h
  split at h <;> simp_all [CDiv]
  obtain ⟨_, rfl⟩ := h
  exact fun K B => .int _
theorem vo_mod : VO2 X (binaryOp .Mod) .mod := vo_ints op_mod rfl fun da db d h => by
  unfold b2 at h
  split at h <;> simp_all
  obtain ⟨_, rfl⟩ := h
  exact fun K B => .int _
theorem vo_pow : VO2 X (binaryOp .Pow) .pow := vo_ints op_pow rfl fun da db d h => by
  unfold b2 at h
  split at h <;> simp_all [CPow]
  rename_i i j
  obtain ⟨⟨⟨h1, h2⟩, h3⟩, rfl⟩ := h
  exact ⟨⟨by omega, by omega⟩, fun K B => .int _⟩
theorem b2_repr {da db d : D} (h : b2 .eq da db = some d) : shaped da = true ∧ shaped db = true ∧ d = .bool (PyData.eqv da db) := by
  have h : (eqD da db).map PyData.bool = some d := by simpa [b2] using h
  unfold eqD at h
  split at h
  · rename_i c
    simp only [Bool.and_eq_true] at c
    simp only [Option.map_some, Option.some.injEq] at h
    exact ⟨c.1, c.2, h.symm⟩
  · simp at h
theorem b2_ne {da db d : D} (h : b2 .ne da db = some d) : shaped da = true ∧ shaped db = true ∧ d = .bool (!PyData.eqv da db) := by
  have h : (eqD da db).map (fun r => PyData.bool (!r)) = some d := by simpa [b2] using h
  unfold eqD at h
  split at h
  · rename_i c
    simp only [Bool.and_eq_true] at c
    simp only [Option.map_some, Option.some.injEq] at h
    exact ⟨c.1, c.2, h.symm⟩
  · simp at h
theorem noDict_shaped {d : D} (h : shaped d = true) : d.hasDict = false := PyData.hasDict_of_canLay d (SeqAt.canLay_of_shaped h)
theorem vo_eq (hu : X.A.units + 64 < cLine) : VO2 X (compareOp .Eq) .eq := oimp (op_eqD hu) fun x y H Q h => by
  obtain ⟨B, da, db, d, e, hx, hy, hd, q⟩ := h
  obtain ⟨s1, s2, rfl⟩ := b2_repr hd
  exact ⟨da, db, hx.dp e (noDict_shaped s1), hy.dp e (noDict_shaped s2), s1, s2, PostV.s q e (.bl _)⟩
theorem vo_ne (hu : X.A.units + 64 < cLine) : VO2 X (compareOp .NotEq) .ne := oimp (op_neD hu) fun x y H Q h => by
  obtain ⟨B, da, db, d, e, hx, hy, hd, q⟩ := h
  obtain ⟨s1, s2, rfl⟩ := b2_ne hd
  exact ⟨da, db, hx.dp e (noDict_shaped s1), hy.dp e (noDict_shaped s2), s1, s2, PostV.s q e (.bl _)⟩
theorem inD_some {a : D} {ds : List D} {r : Bool} (h : inD a ds = some r) : shaped a = true ∧ shaped (.list ds) = true ∧ r = ds.any fun z => PyData.eqv z a := by
  unfold inD at h
  split at h
  · rename_i hc
    rw [Bool.and_eq_true] at hc
    cases h
    exact ⟨hc.1, hc.2, rfl⟩
  · cases h
def rInT (K : PySem.W.Frag) (sg : Bool) : R2 := fun x y H Q => ∃ d ds, Dp K H x d ∧ (Dp K H y (.list ds) ∨ Dp K H y (.tuple ds)) ∧ shaped d = true ∧ shaped (.list ds) = true ∧ Q (.bl (Bool.xor sg (ds.any fun z => PyData.eqv z d))) H
theorem op_inT (hu : X.A.units + 65 < cLine) : OpR X (compareOp .In) (rInT X.K false) := by
  intro pins s σ H x y v u Q I rx ry h
  obtain ⟨d, ds, hd, he, sd, se, q⟩ := h
  rw [Bool.false_xor] at q
  obtain ⟨as, z1⟩ := Dp.reads I d x v hd rx
  rcases he with he | he
  · obtain ⟨bs, z2⟩ := Dp.reads I (.list ds) y u he ry
    exact SeqAt.in_list_reads z2 z1 (SeqAt.canLay_of_shaped se) (SeqAt.canLay_of_shaped sd) (room_in_shaped sd hu) ⟨.bl _, H, I, rfl, q⟩
  · obtain ⟨bs, z2⟩ := Dp.reads I (.tuple ds) y u he ry
    exact SeqAt.in_tuple_reads z2 z1 (SeqAt.canLay_of_shaped se) (SeqAt.canLay_of_shaped sd) (room_in_shaped sd hu) ⟨.bl _, H, I, rfl, q⟩
theorem op_notInT (hu : X.A.units + 65 < cLine) : OpR X (compareOp .NotIn) (rInT X.K true) := by
  intro pins s σ H x y v u Q I rx ry h
  obtain ⟨d, ds, hd, he, sd, se, q⟩ := h
  rw [Bool.true_xor] at q
  obtain ⟨as, z1⟩ := Dp.reads I d x v hd rx
  rcases he with he | he
  · obtain ⟨bs, z2⟩ := Dp.reads I (.list ds) y u he ry
    exact SeqAt.notIn_list_reads z2 z1 (SeqAt.canLay_of_shaped se) (SeqAt.canLay_of_shaped sd) (room_in_shaped sd hu) ⟨.bl _, H, I, rfl, q⟩
  · obtain ⟨bs, z2⟩ := Dp.reads I (.tuple ds) y u he ry
    exact SeqAt.notIn_tuple_reads z2 z1 (SeqAt.canLay_of_shaped se) (SeqAt.canLay_of_shaped sd) (room_in_shaped sd hu) ⟨.bl _, H, I, rfl, q⟩
theorem noDict_items {ds : List D} (h : shaped (.list ds) = true) : PyData.hasDictAll ds = false := by
  have := noDict_shaped h
  simpa only [PyData.hasDict] using this
theorem vo_in (hu : X.A.units + 65 < cLine) : VO2 X (compareOp .In) .in_ := oimp (op_inT hu) fun x y H Q h => by
  obtain ⟨B, da, db, d, e, hx, hy, hd, q⟩ := h
  cases db with
  | list ds =>
    simp only [b2, Option.map_eq_some_iff] at hd
    obtain ⟨r, h1, rfl⟩ := hd
    obtain ⟨s1, s2, rfl⟩ := inD_some h1
    exact ⟨da, ds, hx.dp e (noDict_shaped s1), .inl (hy.dp e (noDict_shaped s2)), s1, s2, by rw [Bool.false_xor]; exact PostV.s q e (.bl _)⟩
  | tuple ds =>
    simp only [b2, Option.map_eq_some_iff] at hd
    obtain ⟨r, h1, rfl⟩ := hd
    obtain ⟨s1, s2, rfl⟩ := inD_some h1
    exact ⟨da, ds, hx.dp e (noDict_shaped s1), .inr (hy.dp e (by simpa only [PyData.hasDict] using noDict_items s2)), s1, s2, by rw [Bool.false_xor]; exact PostV.s q e (.bl _)⟩
  | _ => simp [b2] at hd
theorem vo_nin (hu : X.A.units + 65 < cLine) : VO2 X (compareOp .NotIn) .nin := oimp (op_notInT hu) fun x y H Q h => by
  obtain ⟨B, da, db, d, e, hx, hy, hd, q⟩ := h
  cases db with
  | list ds =>
    simp only [b2, Option.map_eq_some_iff] at hd
    obtain ⟨r, h1, rfl⟩ := hd
    obtain ⟨s1, s2, rfl⟩ := inD_some h1
    exact ⟨da, ds, hx.dp e (noDict_shaped s1), .inl (hy.dp e (noDict_shaped s2)), s1, s2, by rw [Bool.true_xor]; exact PostV.s q e (.bl _)⟩
  | tuple ds =>
    simp only [b2, Option.map_eq_some_iff] at hd
    obtain ⟨r, h1, rfl⟩ := hd
    obtain ⟨s1, s2, rfl⟩ := inD_some h1
    exact ⟨da, ds, hx.dp e (noDict_shaped s1), .inr (hy.dp e (by simpa only [PyData.hasDict] using noDict_items s2)), s1, s2, by rw [Bool.true_xor]; exact PostV.s q e (.bl _)⟩
  | _ => simp [b2] at hd
/-! isinstance -/
def tyN : D → String
  | .none => "NoneType"
  | .bool _ => "bool"
  | .int _ => "int"
  | .str _ => "str"
  | .list _ => "list"
  | .tuple _ => "tuple"
  | .dict _ => "dict"
def isTyN : B1 → Option String
  | .isInt => some "int"
  | .isBool => some "bool"
  | .isTup => some "tuple"
  | .isStr => some "str"
  | .isList => some "list"
  | _ => none
theorem Pk.ty {K : PySem.W.Frag} {B H : Hp} {v : V} {d : D} (e : Same B H) (h : Pk K B H v d) : TyX K H v (.type (tyN d)) := by
  have sq : ∀ {a : Addr} {xs : List V}, SqL K H a xs → TyX K H (.ref a) (.type "list") := fun h => by
    rcases h with (h | ⟨o, h⟩) | ⟨o, its, n, h1, h2, _⟩
    · exact .base (.lst h)
    · exact .base (.frz h)
    · exact .kList h1 h2
  cases h with
  | s h =>
    cases h with
    | non => exact .base .non
    | bl b => exact .base (.bl b)
    | int i => exact .base (.int i)
    | str x => exact .base (.str x)
    | lst h t => exact .base (.lst (e _ _ h))
    | tup h t =>
      rcases Le.tup e h with (h | ⟨o, h⟩) | ⟨o, its, n, h1, h2, _⟩
      · exact .base (.tup h)
      · exact .fTuple h
      · exact .kTuple h1 h2
    | dk h t => exact .base (.dK (e _ _ h))
    | dt h t => exact .base (.dT (e _ _ h))
  | l h t => exact .base (.lst h)
  | z h t => exact sq h
theorem b1_isi {f : B1} {n : String} (hf : isTyN f = some n) (d : D) : ∃ r, b1 f d = some (.bool r) ∧ kitB (tyN d) n = some r := by
  cases f <;> simp only [isTyN, Option.some.injEq, reduceCtorEq] at hf <;> subst hf <;> cases d <;> exact ⟨_, rfl, by simp only [tyN]; decide +kernel⟩
theorem ri_isi {K : PySem.W.Frag} {f : B1} {n : String} (hf : isTyN f = some n) {x : V} {H : Hp} {Q : VK} (h : RV1 K .s (b1 f) x H Q) : rIsi K [x, .ty n] H Q := by
  obtain ⟨B, da, d, e, hx, hd, q⟩ := h
  obtain ⟨r, h1, h2⟩ := b1_isi hf da
  rw [h1] at hd
  cases hd
  exact ⟨x, .ty n, _, _, r, rfl, .ty n, hx.ty e, kit_ty h2, PostV.s q e (.bl r)⟩
theorem Pk.isNon {v : V} {d : D} (h : Pk K B H v d) : (v = .non ∧ d = .none) ∨ (v ≠ .non ∧ d ≠ .none) := by
  cases h with
  | s h => cases h <;> simp
  | l => simp
  | z => simp
theorem vo_is : VO2 X (compareOp .Is) .is_ := oimp op_isN fun x y H Q h => by
  obtain ⟨B, da, db, d, e, hx, hy, hd, q⟩ := h
  cases db with
  | none =>
    rcases hy.isNon with ⟨rfl, _⟩ | ⟨_, z⟩
    · refine ⟨rfl, ?_⟩
      rcases hx.isNon with ⟨rfl, rfl⟩ | ⟨z1, z2⟩
      · simp only [b2, Option.some.injEq] at hd
        subst hd
        exact PostV.s q e (.bl _)
      · rw [decide_eq_false z1]
        cases da <;> first | exact absurd rfl z2 | (simp only [b2, Option.some.injEq] at hd; subst hd; exact PostV.s q e (.bl _))
    · exact absurd rfl z
  | _ => simp [b2] at hd
theorem vo_isnt : VO2 X (compareOp .IsNot) .isnt := oimp op_notN fun x y H Q h => by
  obtain ⟨B, da, db, d, e, hx, hy, hd, q⟩ := h
  cases db with
  | none =>
    rcases hy.isNon with ⟨rfl, _⟩ | ⟨_, z⟩
    · refine ⟨rfl, ?_⟩
      rcases hx.isNon with ⟨rfl, rfl⟩ | ⟨z1, z2⟩
      · simp only [b2, Option.some.injEq] at hd
        subst hd
        exact PostV.s q e (.bl _)
      · rw [decide_eq_false z1]
        cases da <;> first | exact absurd rfl z2 | (simp only [b2, Option.some.injEq] at hd; subst hd; exact PostV.s q e (.bl _))
    · exact absurd rfl z
  | _ => simp [b2] at hd
/-! ### subscripts -/
theorem atI_dv {vs : List V} {ds : List D} {i : Int} {d : D} (t : DvAll K B vs ds) (h : atD ds i = some d) : ∃ v, atI vs i = some v ∧ Dv K B v d := by
  unfold atD atI at h
  unfold atI
  rw [t.length]
  cases e : ixN ds.length i with
  | none => rw [e] at h; cases h
  | some j =>
    rw [e] at h
    exact t.get h
theorem vi_idx : IxR X (RV2 X.K .s (b2 .idx)) := by
  intro value slice pins s σ H x y u w Q I ru rw h hs
  obtain ⟨B, da, db, d, e, hx, hy, hd, q⟩ := h
  cases db with
  | int i =>
    obtain rfl := hy.int'
    cases da with
    | list ds =>
      simp only [b2] at hd
      obtain ⟨a, vs, rfl, h1, t1⟩ := hx.list e
      obtain ⟨v, h2, h3⟩ := atI_dv t1 hd
      exact ix_list value slice pins s σ H _ _ _ _ Q I ru rw ⟨a, vs, i, v, rfl, rfl, h1, h2, q.s e h3⟩ hs
    | tuple ds =>
      simp only [b2] at hd
      obtain ⟨a, vs, rfl, h1, t1⟩ := hx.tuple e
      obtain ⟨v, h2, h3⟩ := atI_dv t1 hd
      exact ix_tup value slice pins s σ H _ _ _ _ Q I ru rw ⟨a, vs, i, v, rfl, rfl, h1, h2, q.s e h3⟩ hs
    | _ => simp [b2] at hd
  | _ => cases da <;> simp [b2] at hd
theorem cutV_dv {vs : List V} {ds : List D} {lo hi : Option Int} (t : DvAll K B vs ds) : DvAll K B (cutV vs lo hi) (cutD ds lo hi) := by
  unfold cutV cutD
  rw [t.length]
  exact (t.drop _).take _
/-- a slice: its two bounds -/
def RS (K : PySem.W.Frag) (sh : Sh) (g : D → Option Int → Option Int → Option D) (x : V) (lo hi : Option Int) (H : Hp) (Q : VK) : Prop := ∃ B da d, Same B H ∧ Pk K B H x da ∧ g da lo hi = some d ∧ PostV K B H sh d Q
def slD : D → Option Int → Option Int → Option D
  | .tuple ds, lo, hi => some (.tuple (cutD ds lo hi))
  | .list ds, lo, hi => some (.list (cutD ds lo hi))
  | _, _, _ => none
def slLD : D → Option Int → Option Int → Option D
  | .list ds, lo, hi => some (.list (cutD ds lo hi))
  | _, _, _ => none
theorem cutD_all {ds : List D} {lo hi : Option Int} (h : HT.sIx ds.length 0 lo = 0 ∧ HT.sIx ds.length ds.length hi = ds.length) : cutD ds lo hi = ds := by
  unfold cutD
  rw [h.1, h.2]
  simp
theorem vs_sl : SlR X (RS X.K .s slD) := by
  intro pins s σ H x v vl vu lo hi sl Q I rx hs pl pu h
  obtain ⟨B, da, d, e, hx, hd, q⟩ := h
  cases da with
  | tuple ds =>
    simp only [slD, Option.some.injEq] at hd
    subst hd
    obtain ⟨a, vs, e1, h1, t1⟩ := hx.tuple e
    subst e1
    have hv : Dv X.K B (.ref a) (.tuple ds) := by cases hx with | s h => exact h
    refine sl_tupA pins s σ H _ v vl vu lo hi sl Q I rx hs pl pu ⟨a, vs, rfl, h1, fun z => ?_, fun z p hp => ?_⟩
    · rw [t1.length] at z
      rw [cutD_all z] at q
      exact q.s e hv
    · exact q.newT e (cutV_dv t1) hp
  | list ds =>
    simp only [slD, Option.some.injEq] at hd
    subst hd
    obtain ⟨a, vs, e1, h1, t1⟩ := hx.list e
    subst e1
    exact sl_list pins s σ H _ v vl vu lo hi sl Q I rx hs pl pu ⟨a, vs, rfl, h1, fun p hp => q.newLs e (cutV_dv t1) hp⟩
  | _ => simp [slD] at hd
theorem vs_slL : SlR X (RS X.K (.l .s) slLD) := by
  intro pins s σ H x v vl vu lo hi sl Q I rx hs pl pu h
  obtain ⟨B, da, d, e, hx, hd, q⟩ := h
  cases da with
  | list ds =>
    simp only [slLD, Option.some.injEq] at hd
    subst hd
    obtain ⟨a, vs, e1, h1, t1⟩ := hx.list e
    subst e1
    exact sl_list pins s σ H _ v vl vu lo hi sl Q I rx hs pl pu ⟨a, vs, rfl, h1, fun p hp => PostV.newL q e (cutV_dv t1) hp⟩
  | _ => simp [slLD] at hd
/-! ### products -/
theorem tuple_mul1 (l : Addr) (items : Array Value) (n : Nat) (dd : Option Addr) (sl : Array (Option Value)) (u : Tok) :
    Meets (Builtin.«tuple.__mul__» ⟨[.ref l, .int 1 u], []⟩) (fun _ R s => s.heap.get? l = some { cls := .type "tuple", dict := dd, data := .seq items n, slots := sl } ∧
      R (.ok (.ret (Value.ref l))) s) :=
  .of_wp fun prog w A R s h => by
    obtain ⟨hp, g, d, tk, os⟩ := s
    obtain ⟨hl, h⟩ := h
    have f1 := AutoSeq1.idx_int
    wp_walk using wpAny_loadPart' hl
    repeat (first
      | (refine wpAny_ite_false (decide_eq_false (by decide)) ?_; wp_walk using wpAny_loadPart' hl)
      | (refine wpAny_ite_true (decide_eq_true (by simp)) ?_; wp_walk using wpAny_loadPart' hl))
    exact ⟨_, rfl, h⟩
theorem tuple_mul0 (l : Addr) (items : Array Value) (n : Nat) (dd : Option Addr) (sl : Array (Option Value)) (x : Int) (u : Tok) (c0 : (decide (x < -(2 ^ 63)) || decide (x ≥ 2 ^ 63)) = false) (c1 : (items.isEmpty || x == 1) = false) (c2 : (decide (x ≤ 0) || items.isEmpty) = true) :
    Meets (Builtin.«tuple.__mul__» ⟨[.ref l, .int x u], []⟩) (fun _ R t => t.heap.get? l = some { cls := .type "tuple", dict := dd, data := .seq items n, slots := sl } ∧
      R (.ok (.ret (Value.ref t.heap.objs.size))) { t with heap := t.heap.push { cls := Value.type "tuple", data := Data.seq #[] } }) :=
  .of_wp fun prog w A R t h => by
    obtain ⟨hp, g, d, tk, os⟩ := t
    obtain ⟨hl, h⟩ := h
    have f1 := AutoSeq1.idx_int
    wp_walk using wpAny_loadPart' hl
    repeat (first
      | (refine wpAny_ite_false (decide_eq_false (by rw [c0]; decide)) ?_; wp_walk using wpAny_loadPart' hl)
      | (refine wpAny_ite_false (decide_eq_false (by rw [c1]; decide)) ?_; wp_walk using wpAny_loadPart' hl)
      | (refine wpAny_ite_true (decide_eq_true (by rw [c2])) ?_; wp_walk using wpAny_loadPart' hl))
    exact ⟨_, rfl, h⟩
theorem DvAll.rep {vs : List V} {ds : List D} (t : DvAll K B vs ds) : ∀ n, DvAll K B (List.replicate n vs).flatten (List.replicate n ds).flatten
  | 0 => .nil
  | n + 1 => by
    rw [List.replicate_succ, List.replicate_succ, List.flatten_cons, List.flatten_cons]
    exact t.append (DvAll.rep t n)
/-- tuple * int, two or more -/
theorem op_repT2 : OpR X (binaryOp .Mult) (fun x y H Q => ∃ l k xs, x = .ref l ∧ y = .int k ∧ SqT X.K H l xs ∧ xs ≠ [] ∧ 2 ≤ k ∧ k ≤ LIM ∧ xs.length * k.toNat ≤ LIM ∧ ∀ p, H p = none → Q (.ref p) (upd H p (.tup (List.replicate k.toNat xs).flatten))) := by
  intro pins s σ H x y v u Q I rx ry h
  obtain ⟨l, k, xs, rfl, rfl, hT, hne, h1, h2, hz, q⟩ := h
  cases rx
  obtain ⟨t, rfl⟩ := ry
  obtain ⟨its, r, ⟨⟨cls, dd, data, sl⟩, ho, hc, n, hd⟩, hs⟩ := I.tuple hT
  simp only at hc hd
  subst hc hd
  have hle : its.length = xs.length := r.length.symm
  have hn : its ≠ [] := fun e => hne (by
    subst e
    exact List.eq_nil_of_length_eq_zero hle.symm)
  have hi : its.toArray.isEmpty = false := by
    cases its with
    | nil => exact absurd rfl hn
    | cons a b => rfl
  have hsz0 : its.toArray.size = xs.length := by rw [List.size_toArray, hle]
  have hk : ((k.toNat : Nat) : Int) = k := by omega
  unfold LIM at h2 hz
  have hm : ((its.toArray.size : Nat) : Int) * k ≤ 1000000 := by
    rw [hsz0, ← hk, ← Int.natCast_mul]
    omega
  have fl1 : (List.replicate k.toNat its).flatten.length = k.toNat * its.length := PyProof.Rows.lm_len_rep_flat ..
  have fl2 : (List.replicate k.toNat xs).flatten.length = k.toNat * xs.length := PyProof.Rows.lm_len_rep_flat ..
  have hz2 : k.toNat * xs.length ≤ 1000000 := by rw [Nat.mul_comm]; exact hz
  have flen : (List.replicate k.toNat its).flatten.length ≤ sizeLine := by rw [fl1, hle, sizeLine_eq]; omega
  have c0 : (decide (k < -(2 ^ 63)) || decide (k ≥ 2 ^ 63)) = false := by
    rw [decide_eq_false (by omega), decide_eq_false (by omega)] <;> rfl
  have c1 : (its.toArray.isEmpty || k == 1) = false := by
    rw [hi, Bool.false_or]
    exact beq_eq_false_iff_ne.mpr (by omega)
  have c2 : (decide (k ≤ 0) || its.toArray.isEmpty) = false := by
    rw [hi, Bool.or_false]
    exact decide_eq_false (by omega)
  have c4 : Builtin.Tuple.tupleTooMany (((its.toArray.size : Nat) : Int) * k) = false := by
    unfold Builtin.Tuple.tupleTooMany
    rw [sizeLine_eq]
    exact decide_eq_false (by omega)
  have mm := tuple_mulW l its.toArray n dd sl k t c0 c1 c2 (by omega) c4 (by rw [size_rep, List.size_toArray]; exact flen)
  refine wpAny_binaryOp_repeat_ref (T := "tuple") (U := "int") (by decide) ⟨_, ho, rfl⟩ (fun s' => typeIs_int s' k t) noFill_tuple_mul F.fills_int_mul F.slot_int_rmul repeat_tuple F.slot_int_index.lookup
    (call_meets F.slot_int_rmul (typeIs_int s k t) F.entry_int_rmul (F.args_int_rmul_2 _ _) (int_rmul_tuple k t l its.toArray n dd sl) ⟨ho, rfl, ⟨_, ho, rfl⟩, ?_⟩)
  refine call_meets F.slot_tuple_mul ⟨_, ho, rfl⟩ F.entry_tuple_mul (F.args_tuple_mul_2 _ _) mm ⟨ho, ?_⟩
  rw [size_rep]
  refine ⟨.ref s.heap.objs.size, _, I.laid (t' := s.toks) (o := .tup (List.replicate k.toNat xs).flatten) (fun b ob q => Heap.get?_push_of_some _ q) (Nat.le_refl _) ?_, rfl, q _ (I.hok.fresh (Nat.le_refl _))⟩
  exact ⟨by rw [fl2, sizeLine_eq]; omega, _, r.rep k.toNat, IsTup.new _ _⟩
theorem op_repT1 : OpR X (binaryOp .Mult) (fun x y H Q => ∃ l xs, x = .ref l ∧ y = .int 1 ∧ SqT X.K H l xs ∧ Q (.ref l) H) := by
  intro pins s σ H x y v u Q I rx ry h
  obtain ⟨l, xs, rfl, rfl, hT, q⟩ := h
  cases rx
  obtain ⟨t, rfl⟩ := ry
  obtain ⟨its, r, ⟨⟨cls, dd, data, sl⟩, ho, hc, n, hd⟩, hs⟩ := I.tuple hT
  simp only at hc hd
  subst hc hd
  refine wpAny_binaryOp_repeat_ref (T := "tuple") (U := "int") (by decide) ⟨_, ho, rfl⟩ (fun s' => typeIs_int s' 1 t) noFill_tuple_mul F.fills_int_mul F.slot_int_rmul repeat_tuple F.slot_int_index.lookup
    (call_meets F.slot_int_rmul (typeIs_int s 1 t) F.entry_int_rmul (F.args_int_rmul_2 _ _) (int_rmul_tuple 1 t l its.toArray n dd sl) ⟨ho, rfl, ⟨_, ho, rfl⟩, ?_⟩)
  refine call_meets F.slot_tuple_mul ⟨_, ho, rfl⟩ F.entry_tuple_mul (F.args_tuple_mul_2 _ _) (tuple_mul1 l its.toArray n dd sl t) ⟨ho, ?_⟩
  exact ⟨.ref l, H, I, rfl, q⟩
theorem op_repT0 : OpR X (binaryOp .Mult) (fun x y H Q => ∃ l k xs, x = .ref l ∧ y = .int k ∧ SqT X.K H l xs ∧ xs ≠ [] ∧ k ≤ 0 ∧ -1000000 ≤ k ∧ ∀ p, H p = none → Q (.ref p) (upd H p (.tup []))) := by
  intro pins s σ H x y v u Q I rx ry h
  obtain ⟨l, k, xs, rfl, rfl, hT, hne, h1, h2, q⟩ := h
  cases rx
  obtain ⟨t, rfl⟩ := ry
  obtain ⟨its, r, ⟨⟨cls, dd, data, sl⟩, ho, hc, n, hd⟩, hs⟩ := I.tuple hT
  simp only at hc hd
  subst hc hd
  have hi : its.toArray.isEmpty = false := by
    cases its with
    | nil => exact absurd (List.eq_nil_of_length_eq_zero r.length) hne
    | cons a b => rfl
  have c0 : (decide (k < -(2 ^ 63)) || decide (k ≥ 2 ^ 63)) = false := by
    rw [decide_eq_false (by omega), decide_eq_false (by omega)] <;> rfl
  have c1 : (its.toArray.isEmpty || k == 1) = false := by
    rw [hi, Bool.false_or]
    exact beq_eq_false_iff_ne.mpr (by omega)
  have c2 : (decide (k ≤ 0) || its.toArray.isEmpty) = true := by rw [decide_eq_true h1, Bool.true_or]
  refine wpAny_binaryOp_repeat_ref (T := "tuple") (U := "int") (by decide) ⟨_, ho, rfl⟩ (fun s' => typeIs_int s' k t) noFill_tuple_mul F.fills_int_mul F.slot_int_rmul repeat_tuple F.slot_int_index.lookup
    (call_meets F.slot_int_rmul (typeIs_int s k t) F.entry_int_rmul (F.args_int_rmul_2 _ _) (int_rmul_tuple k t l its.toArray n dd sl) ⟨ho, rfl, ⟨_, ho, rfl⟩, ?_⟩)
  refine call_meets F.slot_tuple_mul ⟨_, ho, rfl⟩ F.entry_tuple_mul (F.args_tuple_mul_2 _ _) (tuple_mul0 l its.toArray n dd sl k t c0 c1 c2) ⟨ho, ?_⟩
  refine ⟨.ref s.heap.objs.size, _, I.laid (t' := s.toks) (o := .tup []) (fun b ob q => Heap.get?_push_of_some _ q) (Nat.le_refl _) ?_, rfl, q _ (I.hok.fresh (Nat.le_refl _))⟩
  exact ⟨by show 0 ≤ sizeLine; exact Nat.zero_le _, [], .nil, IsTup.new _ _⟩
theorem vo_mulL : OpR X (binaryOp .Mult) (RX2 X.K (.l .s) (b2 .mulL)) := oimp op_rep fun x y H Q h => by
  obtain ⟨B, da, db, d, e, hx, hy, hd, q⟩ := h
  cases da with
  | list as =>
    cases db with
    | int k =>
      obtain rfl := hy.pk.int'
      simp only [b2] at hd
      split at hd
      · rename_i hl
        simp only [Bool.and_eq_true, decide_eq_true_eq] at hl
        obtain ⟨⟨l1, l2⟩, l3⟩ := hl
        unfold LIM at l2 l3
        simp only [Option.some.injEq] at hd
        subst hd
        obtain ⟨a, vs, rfl, h1, t1⟩ := hx.list e
        exact ⟨a, k, vs, rfl, rfl, h1, by omega, by omega, by rw [t1.length, sizeLine_eq]; omega, fun p hp => PostV.newL q e (DvAll.rep t1 k.toNat) hp⟩
      · cases hd
    | _ => simp [b2] at hd
  | _ => simp [b2] at hd
theorem vo_mul : VO2 X (binaryOp .Mult) .mul := by
  intro pins s σ H x y u w Q I ru rw' h
  obtain ⟨B, da, db, d, e, hx, hy, hd, q⟩ := h
  cases da with
  | int i =>
    cases db with
    | int j =>
      obtain rfl := hx.int'
      obtain rfl := hy.int'
      simp only [b2] at hd
      split at hd
      · rename_i hc
        simp only [Option.some.injEq] at hd
        subst hd
        refine op_mul pins s σ H _ _ _ _ Q I ru rw' ⟨i, j, rfl, rfl, ?_, PostV.s q e (.int _)⟩
        unfold mulOk at hc
        simpa [CMul] using hc
      · cases hd
    | _ => simp [b2] at hd
  | tuple as =>
    cases db with
    | int k =>
      obtain rfl := hy.int'
      obtain ⟨a, vs, e1, h1, t1⟩ := hx.tuple e
      subst e1
      have hv : Dv X.K B (.ref a) (.tuple as) := by cases hx with | s h => exact h
      simp only [b2] at hd
      split at hd
      · rename_i hc
        simp only [Bool.and_eq_true, decide_eq_true_eq] at hc
        obtain ⟨⟨⟨c0, c1⟩, c2⟩, c3⟩ := hc
        simp only [Option.some.injEq] at hd
        subst hd
        by_cases hk0 : k ≤ 0
        · refine op_repT0 pins s σ H _ _ _ _ Q I ru rw' ⟨a, k, vs, rfl, rfl, h1, fun z => ?_, hk0, by unfold LIM at c1; omega, fun p hp => PostV.newT (ds := (List.replicate k.toNat as).flatten) q e ?_ hp⟩
          · subst z
            cases t1
            simp at c0
          · rw [show k.toNat = 0 by omega]
            exact .nil
        by_cases hk : k = 1
        · subst hk
          refine op_repT1 pins s σ H _ _ _ _ Q I ru rw' ⟨a, vs, rfl, rfl, h1, ?_⟩
          refine PostV.s q e ?_
          simpa using hv
        · refine op_repT2 pins s σ H _ _ _ _ Q I ru rw' ⟨a, k, vs, rfl, rfl, h1, fun z => ?_, by omega, c3, by rw [t1.length]; exact c2, fun p hp => PostV.newT q e (t1.rep _) hp⟩
          subst z
          cases t1
          simp at c0
      · cases hd
    | _ => simp [b2] at hd
  | _ => simp [b2] at hd
/-! ### min, max of two -/
abbrev VC2 (X : Cx) (f : Value) (o : B2) : Prop := CallR X f fun xs H Q => ∃ x y, xs = [x, y] ∧ RV2 X.K o.sh (b2 o) x y H Q
theorem vc_min2 (hc : X.calm = true) : VC2 X (.builtin "min") .min2 := cimp (call_min2 hc) fun xs H Q h => by
  obtain ⟨x, y, rfl, B, da, db, d, e, hx, hy, hd, q⟩ := h
  cases da with
  | int i =>
    cases db with
    | int j =>
      obtain rfl := hx.int'
      obtain rfl := hy.int'
      simp only [b2, Option.some.injEq] at hd
      subst hd
      exact ⟨i, j, rfl, PostV.s q e (.int _)⟩
    | _ => simp [b2] at hd
  | _ => simp [b2] at hd
theorem vc_max2 (hc : X.calm = true) : VC2 X (.builtin "max") .max2 := cimp (call_max2 hc) fun xs H Q h => by
  obtain ⟨x, y, rfl, B, da, db, d, e, hx, hy, hd, q⟩ := h
  cases da with
  | int i =>
    cases db with
    | int j =>
      obtain rfl := hx.int'
      obtain rfl := hy.int'
      simp only [b2, Option.some.injEq] at hd
      subst hd
      exact ⟨i, j, rfl, PostV.s q e (.int _)⟩
    | _ => simp [b2] at hd
  | _ => simp [b2] at hd
end
end TV

/-! V5: what an evaluation is to reach; readings by the evaluator. -/
namespace TV
open PySem PySem.Spec PyProof.Rows L2
/-- what is the same through a def's body: the written part, the shapes of the slots, the wish about exceptions, how an exception is told as data -/
structure Ct where
  K : PySem.W.Frag
  κ : List Sh
  Z : Hp
  ret : Sh
  fix : List (Nat × V)
  W : WX
  EX : D → Value → Option Addr → Hp → Hp → Prop
section
variable {C : Ct} {K : PySem.W.Frag} {κ : List Sh} {Z B G H B' G' H' : Hp} {σ : L2.St} {ρ ρ' : Env} {fp fp' : Nat → List Addr}
/-- what is shared and what is guarded grows; nothing guarded is shared anew -/
structure Up (B G B' G' : Hp) : Prop where
  b : Same B B'
  g : Same G G'
  gd : ∀ a, G a ≠ none → B' a ≠ none → B a ≠ none
theorem Up.refl : Up B G B G := ⟨Same.refl _, Same.refl _, fun _ _ h => h⟩
theorem Same.nn {B B' : Hp} (h : Same B B') {a : Addr} (n : B a ≠ none) : B' a ≠ none := by
  cases q : B a with
  | none => exact absurd q n
  | some o => rw [h _ _ q]; simp
theorem Up.trans {B1 G1 B2 G2 : Hp} (x : Up B G B1 G1) (y : Up B1 G1 B2 G2) : Up B G B2 G2 := ⟨x.b.trans y.b, x.g.trans y.g, fun a h1 h2 => x.gd a h1 (y.gd a (Same.nn x.g h1) h2)⟩
def gext (G B' : Hp) : Hp := fun a => match B' a with
  | some o => some o
  | none => G a
theorem Rel.bh (r : Rel K κ Z B G H ρ σ fp) : Same B H := r.bg.trans r.gh
theorem Rel.ext (r : Rel K κ Z B G H ρ σ fp) (x : Ext B H B' H') : Rel K κ Z B' (gext G B') H' ρ σ fp ∧ Up B G B' (gext G B') := by
  have gg : Same G (gext G B') := fun a o e => by
    unfold gext
    cases q : B' a with
    | none => exact e
    | some u =>
      have h1 := x.bh _ _ q
      have h2 := x.h _ _ (r.gh _ _ e)
      rw [h1] at h2
      exact h2
  refine ⟨⟨fun a o e => ?_, fun a o e => ?_, r.zg.trans gg, r.len, fun i d e => ?_, r.nd, r.dj, fun i a ha => ?_⟩, x.b, gg, fun a h1 h2 => ?_⟩
  · unfold gext; rw [e]
  · unfold gext at e
    cases q : B' a with
    | none => rw [q] at e; exact x.h _ _ (r.gh _ _ e)
    | some u => rw [q] at e; cases e; exact x.bh _ _ q
  · obtain ⟨v, s, h1, h2, h3⟩ := r.at_ i d e
    exact ⟨v, s, h1, h2, h3.mono x.b (Same.refl _) fun a ha o e => x.h _ _ e⟩
  · obtain ⟨g, o, ho⟩ := r.out i a ha
    refine ⟨?_, o, x.h _ _ ho⟩
    unfold gext
    cases q : B' a with
    | none => exact g
    | some u =>
      rcases x.new _ _ q with z | z
      · have := r.bg _ _ z
        rw [g] at this; cases this
      · rw [ho] at z; cases z
  · cases q : B' a with
    | none => exact absurd q h2
    | some u =>
      rcases x.new _ _ q with z | z
      · rw [z]; simp
      · exact absurd z (Same.nn r.gh h1)
/-- what is owned beside the slots is let go -/
theorem Rel.freeze (r : Rel K κ Z B G H ρ σ fp) {as : List Addr} (hg : ∀ a ∈ as, G a = none ∧ ∀ i, a ∉ fp i) : Rel K κ Z (ovr B H as) (ovr G H as) H ρ σ fp ∧ Up B G (ovr B H as) (ovr G H as) := by
  have hb : ∀ a ∈ as, B a = none := fun a ha => r.bg.free (hg a ha).1
  refine ⟨⟨ovr_mono r.bg, ovr_le r.gh, r.zg.trans (same_ovr fun a ha => (hg a ha).1), r.len, fun i d e => ?_, r.nd, r.dj, fun i a ha => ?_⟩, same_ovr hb, same_ovr fun a ha => (hg a ha).1, fun a h1 h2 => ?_⟩
  · obtain ⟨v, s, h1, h2, h3⟩ := r.at_ i d e
    exact ⟨v, s, h1, h2, h3.mono (same_ovr hb) (Same.refl _) fun _ _ _ e => e⟩
  · obtain ⟨g, o⟩ := r.out i a ha
    exact ⟨by rw [ovr_out fun z => (hg a z).2 i ha]; exact g, o⟩
  · by_cases ha : a ∈ as
    · exact absurd (hg a ha).1 h1
    · rw [ovr_out ha] at h2; exact h2
/-- .. of one slot that is forgotten -/
theorem Rel.drop (r : Rel K κ Z B G H ρ σ fp) (i : Nat) : Rel K κ Z B G H (ρ.set i none) σ (fun j => if j = i then [] else fp j) := by
  refine ⟨r.bg, r.gh, r.zg, by rw [List.length_set]; exact r.len, fun j d e => ?_, fun j => ?_, fun j k hjk a ha => ?_, fun j a ha => ?_⟩
  · by_cases hj : j = i
    · subst hj
      by_cases hl : j < ρ.length
      · rw [List.getElem?_set_self hl] at e; cases e
      · rw [List.getElem?_eq_none (by simpa using hl)] at e; cases e
    · rw [List.getElem?_set_ne (Ne.symm hj)] at e
      obtain ⟨v, s, h1, h2, h3⟩ := r.at_ j d e
      exact ⟨v, s, h1, h2, by rw [if_neg hj]; exact h3⟩
  · by_cases hj : j = i
    · rw [if_pos hj]; exact List.nodup_nil
    · rw [if_neg hj]; exact r.nd j
  · by_cases hj : j = i
    · rw [if_pos hj] at ha; cases ha
    · rw [if_neg hj] at ha
      by_cases hk : k = i
      · rw [if_pos hk]; simp
      · rw [if_neg hk]; exact r.dj j k hjk a ha
  · by_cases hj : j = i
    · rw [if_pos hj] at ha; cases ha
    · rw [if_neg hj] at ha; exact r.out j a ha
/-- what an evaluation is to reach -/
def Post (C : Ct) (B G H : Hp) (σ : L2.St) (pu : Bool) {α : Type} (r : R α) (k : α → Hp → Hp → Hp → (Nat → List Addr) → Env → Prop) : Prop := match r with
  | .ok a ρ' => ∀ B' G' H' fp', Up B G B' G' → (pu = true → Same H H') → Rel C.K C.κ C.Z B' G' H' ρ' σ fp' → k a B' G' H' fp' ρ'
  | .err x ρ' => ∀ cls dx B' G' H' fp', Up B G B' G' → Rel C.K C.κ C.Z B' G' H' ρ' σ fp' → C.EX x cls dx B' H' → C.W cls dx σ H'
  | .no => False
theorem Post.mono {α : Type} {pu : Bool} {r : R α} {k k' : α → Hp → Hp → Hp → (Nat → List Addr) → Env → Prop} (h : Post C B G H σ pu r k)
    (i : ∀ a B' G' H' fp' ρ', Up B G B' G' → (pu = true → Same H H') → Rel C.K C.κ C.Z B' G' H' ρ' σ fp' → k a B' G' H' fp' ρ' → k' a B' G' H' fp' ρ') : Post C B G H σ pu r k' := by
  cases r with
  | ok a ρ' => exact fun B' G' H' fp' b p r => i a B' G' H' fp' ρ' b p r (h B' G' H' fp' b p r)
  | err x ρ' => exact h
  | no => exact h
theorem Post.bind {α β : Type} {pu pu1 pu2 : Bool} {r : R α} {f : α → Env → R β} {k : β → Hp → Hp → Hp → (Nat → List Addr) → Env → Prop} (h : Post C B G H σ pu (r.bind f) k) (hp : pu = (pu1 && pu2)) :
    Post C B G H σ pu1 r fun a B1 G1 H1 _ ρ1 => Post C B1 G1 H1 σ pu2 (f a ρ1) k := by
  cases r with
  | ok a ρ1 =>
    intro B1 G1 H1 fp1 b p r1
    have h : Post C B G H σ pu (f a ρ1) k := h
    cases q : f a ρ1 with
    | ok c ρ2 =>
      rw [q] at h
      intro B2 G2 H2 fp2 b2 p2 r2
      refine h B2 G2 H2 fp2 (b.trans b2) (fun z => ?_) r2
      rw [hp, Bool.and_eq_true] at z
      exact (p z.1).trans (p2 z.2)
    | err x ρ2 =>
      rw [q] at h
      exact fun cls dx B2 G2 H2 fp2 b2 r2 => h cls dx B2 G2 H2 fp2 (b.trans b2) r2
    | no => rw [q] at h; exact h
  | err x ρ1 => exact h
  | no => exact h
/-- the ends: natural, shared, peeked exactly, peeked, a truth value -/
def kN (C : Ct) (sh : Sh) (Q : VK) : D → Hp → Hp → Hp → (Nat → List Addr) → Env → Prop := fun d B' G' H' fp' _ => ∀ v as, Ow C.K B' C.Z H' sh d v as → as.Nodup → (∀ a ∈ as, G' a = none ∧ ∀ i, a ∉ fp' i) → Q v H'
def kS (C : Ct) (Q : VK) : D → Hp → Hp → Hp → (Nat → List Addr) → Env → Prop := fun d B' _ H' _ _ => ∀ v, Dv C.K B' v d → Q v H'
def kP (C : Ct) (Q : VK) : D → Hp → Hp → Hp → (Nat → List Addr) → Env → Prop := fun d B' _ H' _ _ => ∀ v, Ex C.K B' H' v d → Q v H'
def kZ (C : Ct) (Q : VK) : D → Hp → Hp → Hp → (Nat → List Addr) → Env → Prop := fun d B' _ H' _ _ => ∀ v, Pk C.K B' H' v d → Q v H'
def kBo (Q : Bool → Hp → Prop) : D → Hp → Hp → Hp → (Nat → List Addr) → Env → Prop := fun d _ _ H' _ _ => ∃ b, d = .bool b ∧ Q b H'
/-- a reading by an evaluation -/
def tEv (C : Ct) {α : Type} (ev : Env → R α) (pu : Bool) {β : Type} (k : (β → Hp → Prop) → α → Hp → Hp → Hp → (Nat → List Addr) → Env → Prop) : L2.St → Hp → (β → Hp → Prop) → Prop :=
  fun σ H Q => ∃ ρ B G fp, Rel C.K C.κ C.Z B G H ρ σ fp ∧ Post C B G H σ pu (ev ρ) (k Q)
abbrev tN (C : Ct) (ev : Env → R D) (pu : Bool) (sh : Sh) : TE := tEv C ev pu (kN C sh)
abbrev tS (C : Ct) (ev : Env → R D) (pu : Bool) : TE := tEv C ev pu (kS C)
abbrev tP (C : Ct) (ev : Env → R D) (pu : Bool) : TE := tEv C ev pu (kP C)
abbrev tZ (C : Ct) (ev : Env → R D) (pu : Bool) : TE := tEv C ev pu (kZ C)
abbrev tBo (C : Ct) (ev : Env → R D) (pu : Bool) : TT := tEv C ev pu kBo
theorem PE.imp {X : Cx} {e : Expr} {t t' : TE} (h : PE X e t) (i : ∀ σ H Q, t' σ H Q → t σ H Q) : PE X e t' := ⟨fun pins s σ H Q I q => h.run pins s σ H Q I (i σ H Q q)⟩
theorem PT.imp {X : Cx} {e : Expr} {t t' : TT} (h : PT X e t) (i : ∀ σ H Q, t' σ H Q → t σ H Q) : PT X e t' := ⟨fun pins s σ H Q I q => h.run pins s σ H Q I (i σ H Q q)⟩
/-- from natural to shared -/
theorem rd_share {ev : Env → R D} {pu : Bool} {sh : Sh} (hs : sh.ok = true) (σ : L2.St) (H : Hp) (Q : VK) : tS C ev pu σ H Q → tN C ev pu sh σ H Q := fun ⟨ρ, B, G, fp, r, q⟩ => by
  refine ⟨ρ, B, G, fp, r, ?_⟩
  cases z : ev ρ with
  | ok d ρ' =>
    rw [z] at q
    intro B' G' H' fp' b p r' v as ow nd out
    obtain ⟨r2, b2⟩ := r'.freeze out
    exact q _ _ H' fp' (b.trans b2) p r2 v (ow.share hs fun a ha => r'.bg.free (out a ha).1)
  | err x ρ' => rw [z] at q; exact q
  | no => rw [z] at q; exact q
theorem pe_share {X : Cx} {e : Expr} {ev : Env → R D} {pu : Bool} {sh : Sh} (hs : sh.ok = true) (h : PE X e (tN C ev pu sh)) : PE X e (tS C ev pu) := PE.imp h (rd_share hs)
theorem rd_natS {ev : Env → R D} {pu : Bool} (σ : L2.St) (H : Hp) (Q : VK) : tN C ev pu .s σ H Q → tS C ev pu σ H Q := fun ⟨ρ, B, G, fp, r, q⟩ =>
  ⟨ρ, B, G, fp, r, q.mono fun d B' G' H' fp' ρ' _ _ _ k v hv => k v [] (.s hv) List.nodup_nil (fun _ ha => by cases ha)⟩
theorem rd_test {ev : Env → R D} {pu : Bool} {t : TE} (ht : ∀ σ H Q, tS C ev pu σ H Q → t σ H Q) (σ : L2.St) (H : Hp) (Q : Bool → Hp → Prop) : tBo C ev pu σ H Q → L2.tTest t σ H Q := fun ⟨ρ, B, G, fp, r, q⟩ =>
  ht _ _ _ ⟨ρ, B, G, fp, r, q.mono fun d B' G' H' fp' ρ' _ _ _ k v hv => by
    obtain ⟨b, rfl, q⟩ := k
    exact ⟨b, hv.bl', q⟩⟩
theorem pe_peek {X : Cx} {e : Expr} {ev : Env → R D} {pu : Bool} (h : PE X e (tS C ev pu)) : PE X e (tP C ev pu) := PE.imp h fun σ H Q ⟨ρ, B, G, fp, r, q⟩ =>
  ⟨ρ, B, G, fp, r, q.mono fun d B' G' H' fp' ρ' _ _ _ k v hv => k v (.inl hv)⟩
theorem pe_look {X : Cx} {e : Expr} {ev : Env → R D} {pu : Bool} (h : PE X e (tP C ev pu)) : PE X e (tZ C ev pu) := PE.imp h fun σ H Q ⟨ρ, B, G, fp, r, q⟩ =>
  ⟨ρ, B, G, fp, r, q.mono fun d B' G' H' fp' ρ' _ _ _ k v hv => k v hv.pk⟩
/-- a natural end that is shared -/
theorem pe_natS {X : Cx} {e : Expr} {ev : Env → R D} {pu : Bool} (h : PE X e (tS C ev pu)) : PE X e (tN C ev pu .s) := PE.imp h fun σ H Q ⟨ρ, B, G, fp, r, q⟩ =>
  ⟨ρ, B, G, fp, r, q.mono fun d B' G' H' fp' ρ' _ _ _ k v hv => k v [] (.s hv) List.nodup_nil (fun _ ha => by cases ha)⟩
/-- a value that is a bool, as a test -/
theorem pt_of {X : Cx} {e : Expr} {ev : Env → R D} {pu : Bool} (h : PE X e (tS C ev pu)) (he : ∀ whole, isTrue e X.env whole = (do let v ← whole; standAt e.pos; holding [v] (truthy v))) : PT X e (tBo C ev pu) :=
  PT.imp (pt_val h he) fun σ H Q ⟨ρ, B, G, fp, r, q⟩ => ⟨ρ, B, G, fp, r, q.mono fun d B' G' H' fp' ρ' _ _ _ k v hv => by
    obtain ⟨b, rfl, q⟩ := k
    exact ⟨b, hv.bl', q⟩⟩
/-- the end of an operation -/
theorem Post.fin {pu : Bool} {d : D} {sh : Sh} {Q : VK} (h : Post C B G H σ pu (.ok d ρ) (kN C sh Q)) (r : Rel C.K C.κ C.Z B G H ρ σ fp) : PostV C.K B H sh d Q := fun v H' B' as x ow nd out => by
  obtain ⟨r', g⟩ := r.ext x
  refine h B' (gext G B') H' fp g (fun _ => x.h) r' v as (ow _) nd fun a ha => ⟨?_, fun i hi => ?_⟩
  · unfold gext
    rw [(out a ha).2]
    exact r.gh.free (out a ha).1
  · obtain ⟨_, o, ho⟩ := r.out i a hi
    rw [(out a ha).1] at ho; cases ho
theorem Post.of_some {α : Type} {pu : Bool} {o : Option α} {k : α → Hp → Hp → Hp → (Nat → List Addr) → Env → Prop} (h : Post C B G H σ pu (R.of o ρ) k) : ∃ a, o = some a ∧ Post C B G H σ pu (.ok a ρ) k := by
  cases o with
  | none => exact h.elim
  | some a => exact ⟨a, rfl, h⟩
theorem Ex.mono {v : V} {d : D} (b : Same B B') (h : Same H H') (x : Ex K B H v d) : Ex K B' H' v d := by
  rcases x with x | ⟨a, vs, ds, e1, e2, e3, t⟩
  · exact .inl (x.mono b)
  · exact .inr ⟨a, vs, ds, e1, e2, h _ _ e3, t.mono b⟩
theorem Pk.mono {v : V} {d : D} (b : Same B B') (h : Same H H') (x : Pk K B H v d) : Pk K B' H' v d := by
  cases x with
  | s x => exact .s (x.mono b)
  | l e t => exact .l (h _ _ e) (t.mono b)
  | z e t => exact .z (Same.seq h e) (t.mono b)
end
end TV

/-! V6: expressions. -/
namespace TV
open PySem PySem.Spec PyProof.Rows L2
section
variable {X : Cx} {C : Ct} {a b c : Expr} {pos : Pos} {ev eva evb evc : Env → R D} {pa pb pc : Bool}
/-- a constant -/
theorem te_const {e : Expr} {v : V} {d : D} (h : PE X e (tC v)) (hv : ∀ B, Dv C.K B v d) : PE X e (tS C (fun ρ => .ok d ρ) true) := PE.imp h fun σ H Q ⟨ρ, B, G, fp, r, q⟩ =>
  q B G H fp .refl (fun _ => Same.refl _) r v (hv B)
/-- a shared slot -/
theorem te_var {e : Expr} {i : Nat} (h : PE X e (tVar i)) (hk : C.κ[i]? = some .s) : PE X e (tS C (fun ρ => R.of (gv ρ i) ρ) true) := PE.imp h fun σ H Q ⟨ρ, B, G, fp, r, q⟩ => by
  obtain ⟨d, e1, q⟩ := Post.of_some q
  have e2 : ρ[i]? = some (some d) := by
    unfold gv at e1
    split at e1
    · cases e1; assumption
    · cases e1
  obtain ⟨v, s, h1, h2, h3⟩ := r.at_ i d e2
  rw [hk] at h2; cases h2
  generalize fp i = as at h3
  cases h3 with
  | s h3 => exact ⟨v, h1, q B G H fp .refl (fun _ => Same.refl _) r v h3⟩
theorem gv_some {ρ : Env} {i : Nat} {d : D} (e : gv ρ i = some d) : ρ[i]? = some (some d) := by
  unfold gv at e
  split at e
  · cases e; assumption
  · cases e
/-- an owned list, peeked -/
theorem te_peek {e : Expr} {i : Nat} (h : PE X e (tVar i)) (hk : C.κ[i]? = some (.l .s)) : PE X e (tP C (fun ρ => R.of (gv ρ i) ρ) true) := PE.imp h fun σ H Q ⟨ρ, B, G, fp, r, q⟩ => by
  obtain ⟨d, e1, q⟩ := Post.of_some q
  obtain ⟨v, s, h1, h2, h3⟩ := r.at_ i d (gv_some e1)
  rw [hk] at h2; cases h2
  refine ⟨v, h1, q B G H fp .refl (fun _ => Same.refl _) r v ?_⟩
  generalize fp i = as at h3
  cases h3 with
  | l h t => exact .inr ⟨_, _, _, rfl, rfl, h, t.all.1⟩
theorem te_look {e : Expr} {i : Nat} (h : PE X e (tVar i)) (hk : C.κ[i]? = some .z) : PE X e (tZ C (fun ρ => R.of (gv ρ i) ρ) true) := PE.imp h fun σ H Q ⟨ρ, B, G, fp, r, q⟩ => by
  obtain ⟨d, e1, q⟩ := Post.of_some q
  obtain ⟨v, s, h1, h2, h3⟩ := r.at_ i d (gv_some e1)
  rw [hk] at h2; cases h2
  refine ⟨v, h1, q B G H fp .refl (fun _ => Same.refl _) r v ?_⟩
  generalize fp i = as at h3
  cases h3 with
  | z h t => exact .z (Same.seq (r.zg.trans r.gh) h) t
/-- an owned slot, moved away -/
theorem te_move {e : Expr} {i : Nat} {sh : Sh} (h : PE X e (tVar i)) (hk : C.κ[i]? = some sh) : PE X e (tN C (mvD i) true sh) := PE.imp h fun σ H Q ⟨ρ, B, G, fp, r, q⟩ => by
  unfold mvD at q
  cases e1 : gv ρ i with
  | none => rw [e1] at q; exact q.elim
  | some d =>
    rw [e1] at q
    obtain ⟨v, s, h1, h2, h3⟩ := r.at_ i d (gv_some e1)
    rw [hk] at h2; cases h2
    refine ⟨v, h1, q B G H _ .refl (fun _ => Same.refl _) (r.drop i) v (fp i) h3 (r.nd i) fun a ha => ⟨(r.out i a ha).1, fun j hj => ?_⟩⟩
    by_cases hji : j = i
    · rw [if_pos hji] at hj; cases hj
    · rw [if_neg hji] at hj; exact r.dj j i hji a hj ha
/-- one operand -/
theorem rd_un {g : D → Option D} {sh : Sh} {r : V → Hp → VK → Prop} (hr : ∀ x H Q, RV1 C.K sh g x H Q → r x H Q) (σ : L2.St) (H : Hp) (Q : VK) : (tN C (fun ρ => (eva ρ).bind fun d ρ => R.of (g d) ρ) pa sh) σ H Q → (tUn r (tZ C eva pa)) σ H Q := fun ⟨ρ, B, G, fp, R0, q⟩ => by
  have q : Post C B G H σ pa _ _ := q
  refine ⟨ρ, B, G, fp, R0, (q.bind (pu1 := pa) (pu2 := true) (by simp)).mono fun d B1 G1 H1 fp1 ρ1 _ _ r1 k v hv => hr _ _ _ ?_⟩
  obtain ⟨d', e1, k⟩ := Post.of_some k
  exact ⟨B1, d, d', r1.bh, hv, e1, k.fin r1⟩
theorem te_un {e : Expr} {g : D → Option D} {sh : Sh} {r : V → Hp → VK → Prop} (h : PE X e (tUn r (tZ C eva pa))) (hr : ∀ x H Q, RV1 C.K sh g x H Q → r x H Q) :
    PE X e (tN C (fun ρ => (eva ρ).bind fun d ρ => R.of (g d) ρ) pa sh) := PE.imp h (rd_un hr)
/-- two operands: the first peeked, if the second changes nothing -/
theorem rd_binP {g : D → D → Option D} {sh : Sh} {r : R2} (hr : ∀ x y H Q, RV2 C.K sh g x y H Q → r x y H Q) (σ : L2.St) (H : Hp) (Q : VK) : (tN C (fun ρ => (eva ρ).bind fun x ρ => (evb ρ).bind fun y ρ => R.of (g x y) ρ) pa sh) σ H Q → (tOp r (tZ C eva pa) (tZ C evb true)) σ H Q := fun ⟨ρ, B, G, fp, R0, q⟩ => by
  have q : Post C B G H σ pa _ _ := q
  refine ⟨ρ, B, G, fp, R0, (q.bind (pu1 := pa) (pu2 := true) (by simp)).mono fun d1 B1 G1 H1 fp1 ρ1 _ _ r1 k v1 hv1 => ?_⟩
  refine ⟨ρ1, B1, G1, fp1, r1, (k.bind (pu1 := true) (pu2 := true) rfl).mono fun d2 B2 G2 H2 fp2 ρ2 b2 p2 r2 k v2 hv2 => hr _ _ _ _ ?_⟩
  obtain ⟨d', e1, k⟩ := Post.of_some k
  exact ⟨B2, d1, d2, d', r2.bh, hv1.mono b2.b (p2 rfl), hv2, e1, k.fin r2⟩
theorem te_binP {e : Expr} {g : D → D → Option D} {sh : Sh} {r : R2} (h : PE X e (tOp r (tZ C eva pa) (tZ C evb true))) (hr : ∀ x y H Q, RV2 C.K sh g x y H Q → r x y H Q) :
    PE X e (tN C (fun ρ => (eva ρ).bind fun x ρ => (evb ρ).bind fun y ρ => R.of (g x y) ρ) pa sh) := PE.imp h (rd_binP hr)
theorem rd_binS {g : D → D → Option D} {sh : Sh} {r : R2} (hr : ∀ x y H Q, RV2 C.K sh g x y H Q → r x y H Q) (σ : L2.St) (H : Hp) (Q : VK) : (tN C (fun ρ => (eva ρ).bind fun x ρ => (evb ρ).bind fun y ρ => R.of (g x y) ρ) (pa && pb) sh) σ H Q → (tOp r (tS C eva pa) (tZ C evb pb)) σ H Q := fun ⟨ρ, B, G, fp, R0, q⟩ => by
  have q : Post C B G H σ (pa && pb) _ _ := q
  refine ⟨ρ, B, G, fp, R0, (q.bind (pu1 := pa) (pu2 := pb) rfl).mono fun d1 B1 G1 H1 fp1 ρ1 _ _ r1 k v1 hv1 => ?_⟩
  refine ⟨ρ1, B1, G1, fp1, r1, (k.bind (pu1 := pb) (pu2 := true) (by simp)).mono fun d2 B2 G2 H2 fp2 ρ2 b2 p2 r2 k v2 hv2 => hr _ _ _ _ ?_⟩
  obtain ⟨d', e1, k⟩ := Post.of_some k
  exact ⟨B2, d1, d2, d', r2.bh, .s (hv1.mono b2.b), hv2, e1, k.fin r2⟩
theorem te_binS {e : Expr} {g : D → D → Option D} {sh : Sh} {r : R2} (h : PE X e (tOp r (tS C eva pa) (tZ C evb pb))) (hr : ∀ x y H Q, RV2 C.K sh g x y H Q → r x y H Q) :
    PE X e (tN C (fun ρ => (eva ρ).bind fun x ρ => (evb ρ).bind fun y ρ => R.of (g x y) ρ) (pa && pb) sh) := PE.imp h (rd_binS hr)
/-- .. of exact lists -/
theorem rd_addP {g : D → D → Option D} {sh : Sh} {r : R2} (hr : ∀ x y H Q, RX2 C.K sh g x y H Q → r x y H Q) (σ : L2.St) (H : Hp) (Q : VK) : (tN C (fun ρ => (eva ρ).bind fun x ρ => (evb ρ).bind fun y ρ => R.of (g x y) ρ) pa sh) σ H Q → (tOp r (tP C eva pa) (tP C evb true)) σ H Q := fun ⟨ρ, B, G, fp, R0, q⟩ => by
  have q : Post C B G H σ pa _ _ := q
  refine ⟨ρ, B, G, fp, R0, (q.bind (pu1 := pa) (pu2 := true) (by simp)).mono fun d1 B1 G1 H1 fp1 ρ1 _ _ r1 k v1 hv1 => ?_⟩
  refine ⟨ρ1, B1, G1, fp1, r1, (k.bind (pu1 := true) (pu2 := true) rfl).mono fun d2 B2 G2 H2 fp2 ρ2 b2 p2 r2 k v2 hv2 => hr _ _ _ _ ?_⟩
  obtain ⟨d', e1, k⟩ := Post.of_some k
  exact ⟨B2, d1, d2, d', r2.bh, hv1.mono b2.b (p2 rfl), hv2, e1, k.fin r2⟩
theorem te_addP {e : Expr} {g : D → D → Option D} {sh : Sh} {r : R2} (h : PE X e (tOp r (tP C eva pa) (tP C evb true))) (hr : ∀ x y H Q, RX2 C.K sh g x y H Q → r x y H Q) :
    PE X e (tN C (fun ρ => (eva ρ).bind fun x ρ => (evb ρ).bind fun y ρ => R.of (g x y) ρ) pa sh) := PE.imp h (rd_addP hr)
theorem rd_addS {g : D → D → Option D} {sh : Sh} {r : R2} (hr : ∀ x y H Q, RX2 C.K sh g x y H Q → r x y H Q) (σ : L2.St) (H : Hp) (Q : VK) : (tN C (fun ρ => (eva ρ).bind fun x ρ => (evb ρ).bind fun y ρ => R.of (g x y) ρ) (pa && pb) sh) σ H Q → (tOp r (tS C eva pa) (tP C evb pb)) σ H Q := fun ⟨ρ, B, G, fp, R0, q⟩ => by
  have q : Post C B G H σ (pa && pb) _ _ := q
  refine ⟨ρ, B, G, fp, R0, (q.bind (pu1 := pa) (pu2 := pb) rfl).mono fun d1 B1 G1 H1 fp1 ρ1 _ _ r1 k v1 hv1 => ?_⟩
  refine ⟨ρ1, B1, G1, fp1, r1, (k.bind (pu1 := pb) (pu2 := true) (by simp)).mono fun d2 B2 G2 H2 fp2 ρ2 b2 p2 r2 k v2 hv2 => hr _ _ _ _ ?_⟩
  obtain ⟨d', e1, k⟩ := Post.of_some k
  exact ⟨B2, d1, d2, d', r2.bh, .inl (hv1.mono b2.b), hv2, e1, k.fin r2⟩
/-! ### truth -/
theorem te_addS {e : Expr} {g : D → D → Option D} {sh : Sh} {r : R2} (h : PE X e (tOp r (tS C eva pa) (tP C evb pb))) (hr : ∀ x y H Q, RX2 C.K sh g x y H Q → r x y H Q) :
    PE X e (tN C (fun ρ => (eva ρ).bind fun x ρ => (evb ρ).bind fun y ρ => R.of (g x y) ρ) (pa && pb) sh) := PE.imp h (rd_addS hr)
theorem te_not {e : Expr} (h : PT X e (L2.tNot (tBo C eva pa))) : PT X e (tBo C (notD eva) pa) := PT.imp h fun σ H Q ⟨ρ, B, G, fp, r, q⟩ => by
  refine ⟨ρ, B, G, fp, r, ((show Post C B G H σ pa _ _ from q).bind (pu1 := pa) (pu2 := true) (by simp)).mono fun d B1 G1 H1 fp1 ρ1 _ _ r1 k => ?_⟩
  cases d with
  | bool b =>
    obtain ⟨b', e, q⟩ := k B1 G1 H1 fp1 .refl (fun _ => Same.refl _) r1
    cases e
    exact ⟨b, rfl, q⟩
  | _ => exact k.elim
theorem te_notV {e : Expr} (h : PE X e (L2.tNotV (tS C eva pa))) : PE X e (tS C (notD eva) pa) := PE.imp h fun σ H Q ⟨ρ, B, G, fp, r, q⟩ => by
  refine ⟨ρ, B, G, fp, r, ((show Post C B G H σ pa _ _ from q).bind (pu1 := pa) (pu2 := true) (by simp)).mono fun d B1 G1 H1 fp1 ρ1 _ _ r1 k v hv => ?_⟩
  cases d with
  | bool b =>
    obtain rfl := hv.bl'
    exact ⟨b, rfl, k B1 G1 H1 fp1 .refl (fun _ => Same.refl _) r1 _ (.bl _)⟩
  | _ => exact k.elim
theorem rd_and (σ : L2.St) (H : Hp) (Q : Bool → Hp → Prop) : tBo C (andD eva evb) (pa && pb) σ H Q → L2.tAnd (tBo C eva pa) (tBo C evb pb) σ H Q := fun ⟨ρ, B, G, fp, r, q⟩ => by
  refine ⟨ρ, B, G, fp, r, ((show Post C B G H σ (pa && pb) _ _ from q).bind (pu1 := pa) (pu2 := pb) rfl).mono fun d B1 G1 H1 fp1 ρ1 _ _ r1 k => ?_⟩
  cases d with
  | bool b =>
    refine ⟨b, rfl, ?_⟩
    cases b with
    | true => exact ⟨ρ1, B1, G1, fp1, r1, k⟩
    | false =>
      obtain ⟨b', e, q⟩ := k B1 G1 H1 fp1 .refl (fun _ => Same.refl _) r1
      cases e
      exact q
  | _ => exact k.elim
theorem te_and {e : Expr} (h : PT X e (L2.tAnd (tBo C eva pa) (tBo C evb pb))) : PT X e (tBo C (andD eva evb) (pa && pb)) := PT.imp h rd_and
theorem rd_or (σ : L2.St) (H : Hp) (Q : Bool → Hp → Prop) : tBo C (orD eva evb) (pa && pb) σ H Q → L2.tOr (tBo C eva pa) (tBo C evb pb) σ H Q := fun ⟨ρ, B, G, fp, r, q⟩ => by
  refine ⟨ρ, B, G, fp, r, ((show Post C B G H σ (pa && pb) _ _ from q).bind (pu1 := pa) (pu2 := pb) rfl).mono fun d B1 G1 H1 fp1 ρ1 _ _ r1 k => ?_⟩
  cases d with
  | bool b =>
    refine ⟨b, rfl, ?_⟩
    cases b with
    | false => exact ⟨ρ1, B1, G1, fp1, r1, k⟩
    | true =>
      obtain ⟨b', e, q⟩ := k B1 G1 H1 fp1 .refl (fun _ => Same.refl _) r1
      cases e
      exact q
  | _ => exact k.elim
theorem te_or {e : Expr} (h : PT X e (L2.tOr (tBo C eva pa) (tBo C evb pb))) : PT X e (tBo C (orD eva evb) (pa && pb)) := PT.imp h rd_or
theorem te_andV {e : Expr} (h : PE X e (L2.tAndV (tS C eva pa) (tS C evb pb))) : PE X e (tS C (andD eva evb) (pa && pb)) := PE.imp h fun σ H Q ⟨ρ, B, G, fp, r, q⟩ => by
  refine ⟨ρ, B, G, fp, r, ((show Post C B G H σ (pa && pb) _ _ from q).bind (pu1 := pa) (pu2 := pb) rfl).mono fun d B1 G1 H1 fp1 ρ1 _ _ r1 k v hv => ?_⟩
  cases d with
  | bool b =>
    obtain rfl := hv.bl'
    refine ⟨b, rfl, ?_⟩
    cases b with
    | true => exact ⟨ρ1, B1, G1, fp1, r1, k⟩
    | false => exact k B1 G1 H1 fp1 .refl (fun _ => Same.refl _) r1 _ (.bl _)
  | _ => exact k.elim
theorem te_orV {e : Expr} (h : PE X e (L2.tOrV (tS C eva pa) (tS C evb pb))) : PE X e (tS C (orD eva evb) (pa && pb)) := PE.imp h fun σ H Q ⟨ρ, B, G, fp, r, q⟩ => by
  refine ⟨ρ, B, G, fp, r, ((show Post C B G H σ (pa && pb) _ _ from q).bind (pu1 := pa) (pu2 := pb) rfl).mono fun d B1 G1 H1 fp1 ρ1 _ _ r1 k v hv => ?_⟩
  cases d with
  | bool b =>
    obtain rfl := hv.bl'
    refine ⟨b, rfl, ?_⟩
    cases b with
    | false => exact ⟨ρ1, B1, G1, fp1, r1, k⟩
    | true => exact k B1 G1 H1 fp1 .refl (fun _ => Same.refl _) r1 _ (.bl _)
  | _ => exact k.elim
/-- a if c else b, whatever the end -/
theorem te_ite {e : Expr} {k : VK → D → Hp → Hp → Hp → (Nat → List Addr) → Env → Prop} (h : PE X e (L2.tIf (tBo C evc pc) (tEv C eva pa k) (tEv C evb pb k))) : PE X e (tEv C (iteD evc eva evb) (pc && (pa && pb)) k) := PE.imp h fun σ H Q ⟨ρ, B, G, fp, r, q⟩ => by
  refine ⟨ρ, B, G, fp, r, ((show Post C B G H σ (pc && (pa && pb)) _ _ from q).bind (pu1 := pc) (pu2 := pa && pb) rfl).mono fun d B1 G1 H1 fp1 ρ1 _ _ r1 k => ?_⟩
  have weak : ∀ {p p' : Bool} {f : R D} {k' : D → Hp → Hp → Hp → (Nat → List Addr) → Env → Prop}, Post C B1 G1 H1 σ p f k' → (p = true → p' = true) → Post C B1 G1 H1 σ p' f k' := fun {p p' f k'} h i => by
    cases f with
    | ok a ρ' => exact fun B' G' H' fp' b z r => h B' G' H' fp' b (fun z' => z (i z')) r
    | err x ρ' => exact h
    | no => exact h
  cases d with
  | bool b =>
    refine ⟨b, rfl, ?_⟩
    cases b with
    | true => exact ⟨ρ1, B1, G1, fp1, r1, weak k fun z => by simp at z; exact z.1⟩
    | false => exact ⟨ρ1, B1, G1, fp1, r1, weak k fun z => by simp at z; exact z.2⟩
  | _ => exact k.elim
end
end TV

/-! V7: calls of defs. -/
namespace TV
open PySem PySem.Spec PyProof.Rows L2
/-- no script within -/
def Sh.noz : Sh → Bool
  | .s => true
  | .l e => e.noz
  | .r _ => true
  | .z => false
/-- owned -/
def Sh.isM : Sh → Bool
  | .l e => e.noz
  | .r _ => true
  | _ => false
structure FnI where
  name : Str
  ps : List Sh
  ret : Sh
  sem : Fn
section
variable {K : PySem.W.Frag} {κ : List Sh} {Z B G H B' G' H' : Hp} {σ : L2.St} {ρ ρ' : Env} {fp fp' : Nat → List Addr}
mutual
theorem Ow.anyG : ∀ {s : Sh} {d : D} {v : V} {as : List Addr}, s.noz = true → Ow K B G H s d v as → Ow K B G' H s d v as
  | _, _, _, _, _, .s h => .s h
  | _, _, _, _, n, .z _ _ => by cases n
  | _, _, _, _, n, .l h t => .l h (Ows.anyG n t)
  | _, _, _, _, _, .r h t => .r h (OwF.anyG t)
  | _, _, _, _, _, .d h t => .d h t
theorem Ows.anyG : ∀ {s : Sh} {d : List D} {v : List V} {as : List Addr}, s.noz = true → Ows K B G H s d v as → Ows K B G' H s d v as
  | _, _, _, _, _, .nil => .nil
  | _, _, _, _, n, .cons h t => .cons (Ow.anyG n h) (Ows.anyG n t)
theorem OwF.anyG : ∀ {s : List (Str × Bool)} {d : List D} {v : List (Key × V)} {as : List Addr}, OwF K B G H s d v as → OwF K B G' H s d v as
  | _, _, _, _, .nil => .nil
  | _, _, _, _, .cons h t => .cons (Ow.anyG (by split <;> rfl) h) (OwF.anyG t)
end
theorem noz_of_isM {s : Sh} (h : s.isM = true) : s.noz = true := by cases s <;> first | exact h | cases h
inductive ArgsR (K : PySem.W.Frag) (B G H : Hp) : List Sh → List D → List V → List (List Addr) → Prop where
  | nil : ArgsR K B G H [] [] [] []
  | cons {p : Sh} {d : D} {v : V} {as : List Addr} {ps : List Sh} {ds : List D} {vs : List V} {fs : List (List Addr)} : Ow K B G H p d v as → ArgsR K B G H ps ds vs fs → ArgsR K B G H (p :: ps) (d :: ds) (v :: vs) (as :: fs)
inductive OutsR (K : PySem.W.Frag) (B G H : Hp) : List Sh → List V → Env → List (List Addr) → Prop where
  | nil : OutsR K B G H [] [] [] []
  | skip {p : Sh} {v : V} {ps : List Sh} {vs : List V} {os : Env} {fs : List (List Addr)} : p.isM = false → OutsR K B G H ps vs os fs → OutsR K B G H (p :: ps) (v :: vs) os fs
  | m {p : Sh} {v : V} {o : Option D} {as : List Addr} {ps : List Sh} {vs : List V} {os : Env} {fs : List (List Addr)} : p.isM = true → (∀ d, o = some d → Ow K B G H p d v as) → OutsR K B G H ps vs os fs → OutsR K B G H (p :: ps) (v :: vs) (o :: os) (as :: fs)
/-- what is to come of a def's answer -/
def PostF (K : PySem.W.Frag) (EX : D → Value → Option Addr → Hp → Hp → Prop) (fi : FnI) (B G : Hp) (vs : List V) (Q : VK) (E : XK) (r : R D) : Prop := match r with
  | .ok d os => ∀ v H' B' G' as fs, Up B G B' G' → Same B' G' → Same G' H' → Ow K B' G' H' fi.ret d v as → OutsR K B' G' H' fi.ps vs os fs → (as ++ fs.flatten).Nodup → (∀ a ∈ as ++ fs.flatten, G' a = none ∧ ∃ o, H' a = some o) → Q v H'
  | .err x os => ∀ cls dx H' B' G' fs, Up B G B' G' → Same B' G' → Same G' H' → OutsR K B' G' H' fi.ps vs os fs → fs.flatten.Nodup → (∀ a ∈ fs.flatten, G' a = none ∧ ∃ o, H' a = some o) → EX x cls dx B' H' → E cls dx H'
  | .no => False
/-- a def's promise -/
def spOf (K : PySem.W.Frag) (EX : D → Value → Option Addr → Hp → Hp → Prop) (fi : FnI) : Sp := fun vs H Q E => ∃ ds B G fs, Same B G ∧ Same G H ∧ ArgsR K B G H fi.ps ds vs fs ∧ fs.flatten.Nodup ∧ (∀ a ∈ fs.flatten, G a = none) ∧ PostF K EX fi B G vs Q E (fi.sem ds)
/-- arguments as they have come -/
inductive ArV (K : PySem.W.Frag) (κ : List Sh) (σ : L2.St) (B : Hp) : List Sh → List Ar → List V → Prop where
  | nil : ArV K κ σ B [] [] []
  | s {d : D} {v : V} {ps : List Sh} {as : List Ar} {vs : List V} : Dv K B v d → ArV K κ σ B ps as vs → ArV K κ σ B (.s :: ps) (.val d :: as) (v :: vs)
  | z {i : Nat} {s : Sh} {v : V} {ps : List Sh} {as : List Ar} {vs : List V} : κ[i]? = some s → (s = .z ∨ s = .l .s) → σ[i]? = some (some v) → ArV K κ σ B ps as vs → ArV K κ σ B (.z :: ps) (.pk i :: as) (v :: vs)
  | m {i : Nat} {p : Sh} {v : V} {ps : List Sh} {as : List Ar} {vs : List V} : p.isM = true → κ[i]? = some p → σ[i]? = some (some v) → ArV K κ σ B ps as vs → ArV K κ σ B (p :: ps) (.io i :: as) (v :: vs)
theorem ArV.mono (b : Same B B') {ps : List Sh} {as : List Ar} {vs : List V} (h : ArV K κ σ B ps as vs) : ArV K κ σ B' ps as vs := by
  induction h with
  | nil => exact .nil
  | s h _ ih => exact .s (h.mono b) ih
  | z h1 h2 h3 _ ih => exact .z h1 h2 h3 ih
  | m h1 h2 h3 _ ih => exact .m h1 h2 h3 ih
def roots : List Ar → List Nat
  | [] => []
  | .io i :: r => i :: roots r
  | .val _ :: r => roots r
  | .pk _ :: r => roots r
def pks : List Ar → List Nat
  | [] => []
  | .pk i :: r => i :: pks r
  | .val _ :: r => pks r
  | .io _ :: r => pks r
/-- all but what is handed over -/
def hide (H : Hp) (as : List Addr) : Hp := fun a => if a ∈ as then none else H a
theorem hide_in {as : List Addr} {a : Addr} (h : a ∈ as) : hide H as a = none := if_pos h
theorem hide_out {as : List Addr} {a : Addr} (h : a ∉ as) : hide H as a = H a := if_neg h
theorem passed_nd {l : List Nat} (hl : l.Nodup) (nd : ∀ i, (fp i).Nodup) (dj : ∀ i j, i ≠ j → ∀ a ∈ fp i, a ∉ fp j) : (l.flatMap fp).Nodup := by
  induction l with
  | nil => simp
  | cons i l ih =>
    rw [List.flatMap_cons, List.nodup_append]
    obtain ⟨h1, h2⟩ := List.nodup_cons.mp hl
    refine ⟨nd i, ih h2, fun a ha b hb e => ?_⟩
    subst e
    obtain ⟨j, hj, hb⟩ := List.mem_flatMap.mp hb
    exact dj i j (fun e => h1 (e ▸ hj)) a ha hb
theorem gv_get {i : Nat} {d : D} (e : gv ρ i = some d) : ρ[i]? = some (some d) := by
  unfold gv at e
  split at e
  · cases e; assumption
  · cases e
/-- the arguments as a callee takes them -/
theorem Rel.args (r : Rel K κ Z B G H ρ σ fp) {S : List Addr} (hS : ∀ a ∈ S, G a = none) : ∀ {ps : List Sh} {as : List Ar} {vs : List V} {ds : List D}, ArV K κ σ B ps as vs → argD ρ as = some ds → (∀ i ∈ pks as, ∀ a ∈ fp i, a ∉ S) →
    ∃ fs, ArgsR K B (hide H S) H ps ds vs fs ∧ fs.flatten = (roots as).flatMap fp := by
  intro ps as vs ds hA
  have hide_g : ∀ a o, G a = some o → hide H S a = some o := fun a o e => by
    rw [hide_out fun z => by rw [hS a z] at e; cases e]
    exact r.gh _ _ e
  induction hA generalizing ds with
  | nil => intro e _; simp only [argD, Option.some.injEq] at e; subst e; exact ⟨[], .nil, rfl⟩
  | s h _ ih =>
    intro e hp
    simp only [argD, Option.map_eq_some_iff] at e
    obtain ⟨ds', e, rfl⟩ := e
    obtain ⟨fs, h1, h2⟩ := ih e hp
    exact ⟨[] :: fs, .cons (.s h) h1, by simpa [roots] using h2⟩
  | z k1 k2 k3 _ ih =>
    rename_i i s v ps as vs _
    intro e hp
    simp only [argD] at e
    cases q : gv ρ i with
    | none => rw [q] at e; cases e
    | some d =>
      rw [q] at e
      simp only [Option.map_eq_some_iff] at e
      obtain ⟨ds', e, rfl⟩ := e
      obtain ⟨fs, h1, h2⟩ := ih e fun j hj => hp j (List.mem_cons_of_mem _ hj)
      obtain ⟨v', s', e1, e2, ow⟩ := r.at_ i d (gv_get q)
      rw [k1] at e2; cases e2
      rw [k3] at e1; cases e1
      have hpi := hp i List.mem_cons_self
      generalize fp i = fi at ow hpi
      refine ⟨[] :: fs, .cons ?_ h1, by simpa [roots] using h2⟩
      rcases k2 with rfl | rfl
      · cases ow with
        | z h t => exact .z (by
            rcases h with (h | ⟨o, h⟩) | h
            · exact .inl (.inl (hide_g _ _ (r.zg _ _ h)))
            · exact .inl (.inr ⟨o, hide_g _ _ (r.zg _ _ h)⟩)
            · exact .inr h) t
      · cases ow with
        | l h t => exact .z (.of (by rw [hide_out (hpi _ List.mem_cons_self)]; exact h)) t.all.1
  | m k1 k2 k3 _ ih =>
    rename_i i p v ps as vs _
    intro e hp
    simp only [argD] at e
    cases q : gv ρ i with
    | none => rw [q] at e; cases e
    | some d =>
      rw [q] at e
      simp only [Option.map_eq_some_iff] at e
      obtain ⟨ds', e, rfl⟩ := e
      obtain ⟨fs, h1, h2⟩ := ih e hp
      obtain ⟨v', s', e1, e2, ow⟩ := r.at_ i d (gv_get q)
      rw [k2] at e2; cases e2
      rw [k3] at e1; cases e1
      exact ⟨fp i :: fs, .cons (ow.anyG (noz_of_isM k1)) h1, by simp [roots, h2]⟩
/-- what the places own behind the call -/
def fsOf : List Ar → List (List Addr) → Nat → Option (List Addr)
  | .io i :: r, f :: fs, j => if j = i then some f else fsOf r fs j
  | .val _ :: r, fs, j => fsOf r fs j
  | .pk _ :: r, fs, j => fsOf r fs j
  | _, _, _ => none
theorem fsOf_mem : ∀ {as : List Ar} {fs : List (List Addr)} {j : Nat} {f : List Addr}, fsOf as fs j = some f → f ∈ fs ∧ j ∈ roots as
  | .io i :: r, g :: fs, j, f, e => by
    simp only [fsOf] at e
    split at e
    · rename_i h; cases e; subst h; simp [roots]
    · obtain ⟨h1, h2⟩ := fsOf_mem e
      exact ⟨List.mem_cons_of_mem _ h1, List.mem_cons_of_mem _ h2⟩
  | .val _ :: r, fs, j, f, e => fsOf_mem (as := r) (by simpa [fsOf] using e)
  | .pk _ :: r, fs, j, f, e => fsOf_mem (as := r) (by simpa [fsOf] using e)
  | [], _, _, _, e => by simp [fsOf] at e
  | .io _ :: _, [], _, _, e => by simp [fsOf] at e
theorem fsOf_dj : ∀ {as : List Ar} {fs : List (List Addr)} {i j : Nat} {f g : List Addr}, fs.flatten.Nodup → i ≠ j → fsOf as fs i = some f → fsOf as fs j = some g → ∀ a ∈ f, a ∉ g
  | .io k :: r, h :: fs, i, j, f, g, nd, hij, e1, e2, a, ha, hb => by
    rw [List.flatten_cons, List.nodup_append] at nd
    obtain ⟨n1, n2, n3⟩ := nd
    simp only [fsOf] at e1 e2
    split at e1
    · cases e1
      split at e2
      · omega
      · exact n3 a ha a (List.mem_flatten.mpr ⟨g, (fsOf_mem e2).1, hb⟩) rfl
    · split at e2
      · cases e2
        exact n3 a hb a (List.mem_flatten.mpr ⟨f, (fsOf_mem e1).1, ha⟩) rfl
      · exact fsOf_dj n2 hij e1 e2 a ha hb
  | .val _ :: r, fs, i, j, f, g, nd, hij, e1, e2, a, ha, hb => fsOf_dj (as := r) nd hij (by simpa [fsOf] using e1) (by simpa [fsOf] using e2) a ha hb
  | .pk _ :: r, fs, i, j, f, g, nd, hij, e1, e2, a, ha, hb => fsOf_dj (as := r) nd hij (by simpa [fsOf] using e1) (by simpa [fsOf] using e2) a ha hb
  | [], _, _, _, _, _, _, _, e, _, _, _, _ => by simp [fsOf] at e
  | .io _ :: _, [], _, _, _, _, _, _, e, _, _, _, _ => by simp [fsOf] at e
theorem fsOf_root : ∀ {ps : List Sh} {as : List Ar} {vs : List V} {os : Env} {fs : List (List Addr)} {j : Nat}, ArV K κ σ B' ps as vs → OutsR K B G H ps vs os fs → j ∈ roots as → ∃ f, fsOf as fs j = some f := by
  intro ps as vs os fs j hA hO hj
  induction hA generalizing os fs with
  | nil => cases hj
  | s h _ ih => cases hO with
    | skip _ hO => exact ih hO hj
    | m z _ _ => cases z
  | z _ _ _ _ ih => cases hO with
    | skip _ hO => exact ih hO hj
    | m z _ _ => cases z
  | m k1 _ _ _ ih => cases hO with
    | skip z _ => rw [k1] at z; cases z
    | m _ _ hO =>
      simp only [fsOf]
      split
      · exact ⟨_, rfl⟩
      · rcases List.mem_cons.mp hj with e | hj
        · exact absurd e (by assumption)
        · exact ih hO hj
theorem outs_len : ∀ {as : List Ar} {os : Env} {ρ : Env}, (outs ρ as os).length = ρ.length
  | [], _, _ => rfl
  | .val _ :: r, os, ρ => outs_len (as := r)
  | .pk _ :: r, os, ρ => outs_len (as := r)
  | .io i :: r, o :: os, ρ => by simp [outs, outs_len (as := r)]
  | .io i :: r, [], ρ => by simp [outs, outs_len (as := r)]
theorem outs_at : ∀ {ps : List Sh} {as : List Ar} {vs : List V} {os : Env} {fs : List (List Addr)} {ρ : Env} {j : Nat} {d : D}, (roots as).Nodup → ArV K κ σ B' ps as vs → OutsR K B G H ps vs os fs → (outs ρ as os)[j]? = some (some d) →
    (ρ[j]? = some (some d) ∧ j ∉ roots as) ∨ ∃ p v f, κ[j]? = some p ∧ σ[j]? = some (some v) ∧ p.isM = true ∧ Ow K B G H p d v f ∧ fsOf as fs j = some f := by
  intro ps as vs os fs ρ j d nd hA hO e
  induction hA generalizing os fs ρ with
  | nil => exact .inl ⟨e, by simp [roots]⟩
  | s h _ ih => cases hO with
    | skip _ hO => exact ih nd hO e
    | m z _ _ => cases z
  | z _ _ _ _ ih => cases hO with
    | skip _ hO => exact ih nd hO e
    | m z _ _ => cases z
  | m k1 k2 k3 _ ih => cases hO with
    | skip z _ => rw [k1] at z; cases z
    | m _ ho hO =>
      rename_i i p v ps as vs _ o fa os fs _
      obtain ⟨n1, n2⟩ := List.nodup_cons.mp nd
      rcases ih n2 hO (ρ := ρ.set i o) e with ⟨h1, h2⟩ | ⟨p', v', f, h1, h2, h3, h4, h5⟩
      · by_cases hj : j = i
        · subst hj
          by_cases hl : j < ρ.length
          · rw [List.getElem?_set_self hl] at h1
            cases h1
            exact .inr ⟨p, v, fa, k2, k3, k1, ho d rfl, by simp [fsOf]⟩
          · rw [List.getElem?_eq_none (by simpa using hl)] at h1; cases h1
        · rw [List.getElem?_set_ne (Ne.symm hj)] at h1
          exact .inl ⟨h1, by simp [roots, hj, h2]⟩
      · have hj : j ≠ i := fun z => n1 (z ▸ (fsOf_mem h5).2)
        exact .inr ⟨p', v', f, h1, h2, h3, h4, by simp only [fsOf]; rw [if_neg hj]; exact h5⟩
theorem flat_nd : ∀ {l : List (List Addr)} {f : List Addr}, l.flatten.Nodup → f ∈ l → f.Nodup
  | g :: l, f, h, m => by
    rw [List.flatten_cons, List.nodup_append] at h
    rcases List.mem_cons.mp m with e | m
    · rw [e]; exact h.1
    · exact flat_nd h.2.1 m
/-- behind a call -/
theorem Rel.after (r : Rel K κ Z B G H ρ σ fp) {ps : List Sh} {as : List Ar} {vs : List V} {os : Env} {fs : List (List Addr)} {ar : List Addr} {B2 G2 H2 : Hp} (nd : (roots as).Nodup) (hA : ArV K κ σ B ps as vs)
    (u : Up B (hide H ((roots as).flatMap fp)) B2 G2) (b2 : Same B2 G2) (g2 : Same G2 H2) (hO : OutsR K B2 G2 H2 ps vs os fs) (hn : (ar ++ fs.flatten).Nodup) (ho : ∀ a ∈ ar ++ fs.flatten, G2 a = none ∧ ∃ o, H2 a = some o) :
    ∃ fp2, Rel K κ Z B2 (gext G B2) H2 (outs ρ as os) σ fp2 ∧ Up B G B2 (gext G B2) ∧ ∀ a ∈ ar, gext G B2 a = none ∧ ∀ i, a ∉ fp2 i := by
  generalize hS : (roots as).flatMap fp = S at u
  have inS : ∀ {i : Nat}, i ∈ roots as → ∀ a ∈ fp i, a ∈ S := fun {i} hi a ha => by rw [← hS]; exact List.mem_flatMap.mpr ⟨i, hi, ha⟩
  have outS : ∀ a ∈ S, G a = none := fun a ha => by
    rw [← hS] at ha
    obtain ⟨i, _, ha⟩ := List.mem_flatMap.mp ha
    exact (r.out i a ha).1
  have gh2 : ∀ a o, G a = some o → H2 a = some o := fun a o e => g2 _ _ (u.g _ _ (by
    rw [hide_out fun z => by rw [outS a z] at e; cases e]
    exact r.gh _ _ e))
  have keep : ∀ {i : Nat}, i ∉ roots as → ∀ a ∈ fp i, a ∉ S := fun {i} hi a ha z => by
    rw [← hS] at z
    obtain ⟨j, hj, z⟩ := List.mem_flatMap.mp z
    exact r.dj j i (fun e => hi (e ▸ hj)) a z ha
  have keepH : ∀ {i : Nat}, i ∉ roots as → ∀ a ∈ fp i, ∀ o, H a = some o → G2 a = some o := fun {i} hi a ha o e => u.g _ _ (by rw [hide_out (keep hi a ha)]; exact e)
  have g3 : Same G (gext G B2) := fun a o e => by
    unfold gext
    cases q : B2 a with
    | none => exact e
    | some x =>
      have h1 := g2 _ _ (b2 _ _ q)
      rw [gh2 _ _ e] at h1
      exact h1.symm
  have b3 : Same B2 (gext G B2) := fun a o e => by unfold gext; rw [e]
  have none3 : ∀ {a : Addr}, G a = none → B2 a = none → gext G B2 a = none := fun {a} h1 h2 => by unfold gext; rw [h2]; exact h1
  have gofG2 : ∀ {a : Addr}, G2 a = none → G a = none := fun {a} h => by
    cases q : G a with
    | none => rfl
    | some o =>
      have := u.g a o (by rw [hide_out fun z => by rw [outS a z] at q; cases q]; exact r.gh _ _ q)
      rw [h] at this; cases this
  refine ⟨fun j => if j ∈ roots as then (fsOf as fs j).getD [] else fp j, ⟨b3, fun a o e => ?_, r.zg.trans g3, by rw [outs_len]; exact r.len, fun j d e => ?_, fun j => ?_, fun i j hij a ha hb => ?_, fun j a ha => ?_⟩, ⟨u.b, g3, fun a h1 h2 => ?_⟩, fun a ha => ⟨?_, fun i hi => ?_⟩⟩
  · unfold gext at e
    cases q : B2 a with
    | none => rw [q] at e; exact gh2 _ _ e
    | some x => rw [q] at e; cases e; exact g2 _ _ (b2 _ _ q)
  · rcases outs_at nd hA hO e with ⟨h1, h2⟩ | ⟨p, v, f, h1, h2, h3, h4, h5⟩
    · obtain ⟨v, s, e1, e2, ow⟩ := r.at_ j d h1
      exact ⟨v, s, e1, e2, by rw [if_neg h2]; exact ow.mono u.b (Same.refl _) fun a ha o e => g2 _ _ (keepH h2 a ha o e)⟩
    · exact ⟨v, p, h2, h1, by rw [if_pos (fsOf_mem h5).2, h5]; exact h4.anyG (noz_of_isM h3)⟩
  · have nfs := (List.nodup_append.mp hn).2.1
    try dsimp only
    split
    · cases q : fsOf as fs j with
      | none => exact List.nodup_nil
      | some f => exact flat_nd nfs (fsOf_mem q).1
    · exact r.nd j
  · have nfs := (List.nodup_append.mp hn).2.1
    try dsimp only at ha hb
    have mix : ∀ {i j : Nat} {f : List Addr}, fsOf as fs i = some f → a ∈ f → j ∉ roots as → a ∈ fp j → False := fun {i j f} q ha hj hb => by
      obtain ⟨g0, _⟩ := ho a (List.mem_append_right _ (List.mem_flatten.mpr ⟨f, (fsOf_mem q).1, ha⟩))
      obtain ⟨_, o, e⟩ := r.out j a hb
      rw [keepH hj a hb o e] at g0; cases g0
    split at ha
    · cases q : fsOf as fs i with
      | none => rw [q] at ha; cases ha
      | some f =>
        rw [q] at ha
        split at hb
        · cases q2 : fsOf as fs j with
          | none => rw [q2] at hb; cases hb
          | some g => rw [q2] at hb; exact fsOf_dj nfs hij q q2 a ha hb
        · exact mix q ha (by assumption) hb
    · split at hb
      · cases q2 : fsOf as fs j with
        | none => rw [q2] at hb; cases hb
        | some g => rw [q2] at hb; exact mix q2 hb (by assumption) ha
      · exact r.dj i j hij a ha hb
  · try dsimp only at ha
    split at ha
    · cases q : fsOf as fs j with
      | none => rw [q] at ha; cases ha
      | some f =>
        rw [q] at ha
        obtain ⟨g0, o, e⟩ := ho a (List.mem_append_right _ (List.mem_flatten.mpr ⟨f, (fsOf_mem q).1, ha⟩))
        exact ⟨none3 (gofG2 g0) (b2.free g0), o, e⟩
    · rename_i hj
      obtain ⟨g0, o, e⟩ := r.out j a ha
      refine ⟨none3 g0 ?_, o, g2 _ _ (keepH hj a ha o e)⟩
      cases q : B2 a with
      | none => rfl
      | some x =>
        have h1 := u.gd a (by rw [hide_out (keep hj a ha), e]; simp) (by rw [q]; simp)
        exact absurd (r.bg.free g0) h1
  · refine u.gd a ?_ h2
    cases q : G a with
    | none => exact absurd q h1
    | some o => rw [hide_out fun z => h1 (outS a z), r.gh _ _ q]; simp
  · obtain ⟨g0, _⟩ := ho a (List.mem_append_left _ ha)
    exact none3 (gofG2 g0) (b2.free g0)
  · try dsimp only at hi
    split at hi
    · cases q : fsOf as fs i with
      | none => rw [q] at hi; cases hi
      | some f =>
        rw [q] at hi
        exact (List.nodup_append.mp hn).2.2 a ha a (List.mem_flatten.mpr ⟨f, (fsOf_mem q).1, hi⟩) rfl
    · rename_i hj
      obtain ⟨g0, _⟩ := ho a (List.mem_append_left _ ha)
      obtain ⟨_, o, e⟩ := r.out i a hi
      rw [keepH hj a hi o e] at g0; cases g0
end
/-! ### the promise of a def, where repr may be called -/
structure FnG (P : Program) (w : World) (K : PySem.W.Frag) (mg : Str → Option Value) (base : Heap) (CX : CXT) (k : Nat) (f : Addr) (fd : FuncData) (ps : List Str) (sp : Sp) : Prop where
  len : ∀ vs H Q E, sp vs H Q E → vs.length = ps.length
  run : ∀ (A : Around) (outer : List PySem.Env) (s : Shared) (H : Hp) (args : Args) (us : List Value) (vs : List V) (Q : VK) (E : XK), Room k A → A.guards = some [] → Env0 P w K mg base A outer s H →
    BindsTo s fd args (ps.zip us) → Vals vs us → sp vs H Q E → codeAny (model P w) A (.call (.ref f) args) (CR CX outer P w H s Q E) s
section
variable {X : Cx} {C : Ct} {CX : CXT} {k : Nat} {f : Addr} {fd : FuncData} {ps : List Str} {sp : Sp}
theorem FnG.mono {P : Program} {w : World} {K : PySem.W.Frag} {mg : Str → Option Value} {base : Heap} {j k : Nat} (F : FnG P w K mg base CX j f fd ps sp) (h : j ≤ k) : FnG P w K mg base CX k f fd ps sp :=
  ⟨F.len, fun A outer s H args us vs Q E hr => F.run A outer s H args us vs Q E (hr.mono h)⟩
/-- f(e, ..) -/
theorem pe_callG {x : Str} {p pos : Pos} {e : Expr} {es : List Expr} {t : TA} {E : L2.St → XK} (F : FnG X.prog X.w X.K X.mg X.base CX k f fd ps sp) (hr : Room k X.A) (hgd : X.A.guards = some []) (hg : Gl X x) (hm : X.mg x = some (.ref f))
    (hk : PySem.W.keepIn X.K (.ref f) = true) (hb : Binds X.K fd ps []) (hx : ∀ σ, PassesAt CX X σ (E σ)) (ha : PA X (e :: es) t) (hdb : (x == ("__debug__" : Str)) = false)
    (he : starEach (e :: es) X.env = (false, eval e X.env) :: starEach es X.env) (hpl : (backTo pos (starEach es X.env)).any (·.1) = false) : PE X (.Call (.Name x p) (e :: es) [] pos) (tCallSD sp [] E t) := by
  refine ⟨fun pins s σ H Q I h => ?_⟩
  refine wpAny_Call_Name_kw (ld_glob I hg hm ?_ hdb)
  refine PySem.W.callWith_K (h₀ := X.base) I.ok.mod.kin hk (thn (ha.run pos pins s σ H _ I h) fun us s1 ⟨vs, H1, I1, r, q⟩ => ⟨I1.kIn, ?_⟩) he hpl
  have q : sp (vs ++ []) H1 Q (E σ) := q
  rw [List.append_nil] at q
  have hl : us.length = ps.length := by rw [← r.length]; exact F.len _ _ _ _ q
  have hb' : BindsTo s1 fd ⟨us, []⟩ (ps.zip us) := by
    have z := hb s1 us I1.kIn (by rw [List.append_nil]; exact hl)
    rw [List.append_nil] at z
    exact z
  refine wpAny_call (codeAny_mono (F.run X.A X.stack s1 H1 ⟨us, []⟩ us vs Q (E σ) hr hgd I1.env0 hb' r q) fun rr s' hq => ?_)
  cases rr with
  | error e => exact hx σ pins H1 s1 e s' I1 hq
  | ok fl =>
    cases fl with
    | ret u => exact I1.after hq
    | next => exact False.elim hq
    | brk => exact False.elim hq
    | cont => exact False.elim hq
/-- arguments, read -/
def tAs (C : Ct) (ev : TV.Env → R (List Ar)) (pu : Bool) (ps : List Sh) : TA := fun σ => tEv C ev pu (fun (Q : List V → Hp → Prop) as B' _ H' _ _ => ∀ vs, ArV C.K C.κ σ B' ps as vs → Q vs H') σ
def rootsE : As → List Nat
  | .nil => []
  | .val _ r => rootsE r
  | .io i r => i :: rootsE r
  | .pk _ r => rootsE r
def pksE : As → List Nat
  | .nil => []
  | .val _ r => pksE r
  | .io _ r => pksE r
  | .pk i r => i :: pksE r
theorem evAs_roots {Γ : Nat → Fn} : ∀ {es : As} {ρ ρ' : TV.Env} {as : List Ar}, evAs Γ es ρ = .ok as ρ' → roots as = rootsE es ∧ pks as = pksE es
  | .nil, ρ, ρ', as, e => by simp only [evAs, R.ok.injEq] at e; obtain ⟨rfl, rfl⟩ := e; exact ⟨rfl, rfl⟩
  | .val a es, ρ, ρ', as, e => by
    simp only [evAs] at e
    cases q : evE Γ a ρ with
    | ok d ρ1 =>
      rw [q, R.bind_ok] at e
      cases q2 : evAs Γ es ρ1 with
      | ok ds ρ2 =>
        rw [q2, R.bind_ok] at e
        simp only [R.ok.injEq] at e
        obtain ⟨rfl, rfl⟩ := e
        simpa [roots, rootsE, pks, pksE] using evAs_roots (es := es) q2
      | err x ρ2 => rw [q2] at e; cases e
      | no => rw [q2] at e; cases e
    | err x ρ2 => rw [q] at e; cases e
    | no => rw [q] at e; cases e
  | .io i es, ρ, ρ', as, e => by
    simp only [evAs] at e
    cases q3 : gv ρ i with
    | none => rw [q3] at e; cases e
    | some _ =>
    rw [q3] at e
    dsimp only at e
    cases q2 : evAs Γ es ρ with
    | ok ds ρ2 =>
      rw [q2, R.bind_ok] at e
      simp only [R.ok.injEq] at e
      obtain ⟨rfl, rfl⟩ := e
      obtain ⟨h1, h2⟩ := evAs_roots (es := es) q2
      exact ⟨congrArg (i :: ·) h1, h2⟩
    | err x ρ2 => rw [q2] at e; cases e
    | no => rw [q2] at e; cases e
  | .pk i es, ρ, ρ', as, e => by
    simp only [evAs] at e
    cases q3 : gv ρ i with
    | none => rw [q3] at e; cases e
    | some _ =>
    rw [q3] at e
    dsimp only at e
    cases q2 : evAs Γ es ρ with
    | ok ds ρ2 =>
      rw [q2, R.bind_ok] at e
      simp only [R.ok.injEq] at e
      obtain ⟨rfl, rfl⟩ := e
      obtain ⟨h1, h2⟩ := evAs_roots (es := es) q2
      exact ⟨h1, congrArg (i :: ·) h2⟩
    | err x ρ2 => rw [q2] at e; cases e
    | no => rw [q2] at e; cases e
/-- a call, its arguments read -/
theorem call_core {C : Ct} {fi : FnI} {σ : L2.St} {B1 G1 H1 : Hp} {ρ1 : TV.Env} {fp1 : Nat → List Addr} {as : List Ar} {vs : List V} {Q : VK} (hret : fi.ret.noz = true) (nd : (roots as).Nodup) (hpk : ∀ i ∈ pks as, i ∉ roots as) (r1 : Rel C.K C.κ C.Z B1 G1 H1 ρ1 σ fp1) (hA : ArV C.K C.κ σ B1 fi.ps as vs)
    (k : Post C B1 G1 H1 σ false (callR fi.sem as ρ1) (kN C fi.ret Q)) : spOf C.K C.EX fi vs H1 Q fun cls dx H => C.W cls dx σ H := by
  unfold callR at k
  cases ed : argD ρ1 as with
  | none => rw [ed] at k; exact k.elim
  | some ds =>
    rw [ed] at k
    dsimp only at k
    obtain ⟨fs0, h1, h2⟩ := r1.args (S := (roots as).flatMap fp1) (fun a ha => by
      obtain ⟨i, _, ha⟩ := List.mem_flatMap.mp ha
      exact (r1.out i a ha).1) hA ed (fun i hi a ha z => by
      obtain ⟨j, hj, z⟩ := List.mem_flatMap.mp z
      exact r1.dj i j (fun e => hpk i hi (e ▸ hj)) a ha z)
    refine ⟨ds, B1, hide H1 ((roots as).flatMap fp1), fs0, fun a o e => ?_, fun a o e => ?_, h1, by rw [h2]; exact passed_nd nd r1.nd r1.dj, fun a ha => by rw [h2] at ha; exact hide_in ha, ?_⟩
    · have ha : a ∉ (roots as).flatMap fp1 := fun z => by
        obtain ⟨i, _, ha⟩ := List.mem_flatMap.mp z
        have := r1.bg.free (r1.out i a ha).1
        rw [e] at this; cases this
      rw [hide_out ha]
      exact r1.bh _ _ e
    · by_cases ha : a ∈ (roots as).flatMap fp1
      · rw [hide_in ha] at e; cases e
      · rw [hide_out ha] at e; exact e
    · cases ef : fi.sem ds with
      | no => rw [ef] at k; exact k.elim
      | err x os =>
        rw [ef] at k
        intro cls dx H2 B2 G2 fs u b2 g2 hO hn ho hx
        obtain ⟨fp2, r2, u2, _⟩ := r1.after (ar := []) nd hA u b2 g2 hO (by simpa using hn) (by simpa using ho)
        exact k cls dx B2 _ H2 fp2 u2 r2 hx
      | ok d os =>
        rw [ef] at k
        intro v H2 B2 G2 ar fs u b2 g2 ow hO hn ho
        obtain ⟨fp2, r2, u2, h3⟩ := r1.after nd hA u b2 g2 hO hn ho
        exact k B2 _ H2 fp2 u2 (fun z => by cases z) r2 v ar (ow.anyG hret) (List.nodup_append.mp hn).1 h3
/-- a call of a def -/
theorem te_call {e : Expr} {Γ : Nat → Fn} {es : As} {pu : Bool} {fi : FnI} (hret : fi.ret.noz = true) (hnd : (rootsE es).Nodup) (hpk : ∀ i ∈ pksE es, i ∉ rootsE es)
    (h : PE X e (tCallSD (spOf C.K C.EX fi) [] (fun σ cls dx H => C.W cls dx σ H) (tAs C (evAs Γ es) pu fi.ps))) : PE X e (tN C (fun ρ => (evAs Γ es ρ).bind fun as ρ => callR fi.sem as ρ) false fi.ret) := PE.imp h fun σ H Q ⟨ρ, B, G, fp, R0, q⟩ => by
  have q : Post C B G H σ false _ _ := q
  refine ⟨ρ, B, G, fp, R0, ?_⟩
  have q := q.bind (pu1 := pu) (pu2 := false) (by simp)
  cases ea : evAs Γ es ρ with
  | err x ρ1 => rw [ea] at q; exact q
  | no => rw [ea] at q; exact q
  | ok as ρ1 =>
    rw [ea] at q
    obtain ⟨er, ep⟩ := evAs_roots ea
    intro B1 G1 H1 fp1 u1 p1 r1 vs hA
    have k := q B1 G1 H1 fp1 u1 p1 r1
    dsimp only at k
    rw [List.append_nil]
    exact call_core hret (by rw [er]; exact hnd) (fun i hi z => hpk i (by rw [← ep]; exact hi) (by rw [← er]; exact z)) r1 hA k
/-! ### by keywords -/
structure KPat where
  n : Nat
  ks : List Str
  perm : List Nat
def KBd (K : PySem.W.Frag) (fd : FuncData) (pn : List Str) (kp : KPat) : Prop :=
  ∀ (s : Shared) (us ws : List Value), K.In s.heap → us.length = kp.n → ws.length = kp.ks.length → BindsTo s fd ⟨us, kp.ks.zip ws⟩ (pn.zip (kp.perm.map fun j => (us ++ ws).getD j .none))
theorem vals_perm {vs : List V} {us : List Value} (h : Vals vs us) (perm : List Nat) : Vals (perm.map fun j => vs.getD j .non) (perm.map fun j => us.getD j .none) := by
  induction perm with
  | nil => exact .nil
  | cons j perm ih =>
    refine .cons ?_ ih
    show RelV (vs.getD j .non) (us.getD j .none)
    rw [List.getD_eq_getElem?_getD, List.getD_eq_getElem?_getD]
    cases e : vs[j]? with
    | none => rw [h.none_of e]; rfl
    | some v =>
      obtain ⟨u, e2, r⟩ := h.get e
      rw [e2]; exact r
def tCallKS (sp : Sp) (perm : List Nat) (E : L2.St → XK) (t tk : TA) : TE := fun σ H Q => t σ H fun vs H1 => tk σ H1 fun zs H2 => sp (perm.map fun j => (vs ++ zs).getD j .non) H2 Q (E σ)
theorem run_fnGK {pins : List (Addr × Obj)} {σ : L2.St} {H : Hp} {s : Shared} {Q : VK} {us ws : List Value} {vs zs : List V} {kp : KPat} {E : L2.St → XK} (F : FnG X.prog X.w X.K X.mg X.base CX k f fd ps sp) (hr : Room k X.A) (hgd : X.A.guards = some []) (hb : KBd X.K fd ps kp)
    (hx : ∀ σ, PassesAt CX X σ (E σ)) (I : L2.Inv X pins σ H s) (r : Vals vs us) (rz : Vals zs ws) (h1 : us.length = kp.n) (h2 : ws.length = kp.ks.length) (h : sp (kp.perm.map fun j => (vs ++ zs).getD j .non) H Q (E σ)) : wpAny (model X.prog X.w) X.A (call (.ref f) us (kp.ks.zip ws)) (EP X pins σ Q) X.xe s := by
  refine wpAny_call (codeAny_mono (F.run X.A X.stack s H ⟨us, kp.ks.zip ws⟩ _ _ Q (E σ) hr hgd I.env0 (hb s us ws I.kIn h1 h2) (vals_perm (r.append rz) kp.perm) h) fun rr s' hq => ?_)
  cases rr with
  | error e => exact hx σ pins H s e s' I hq
  | ok fl =>
    cases fl with
    | ret u => exact I.after hq
    | next => exact False.elim hq
    | brk => exact False.elim hq
    | cont => exact False.elim hq
theorem pe_callGK {x : Str} {p pos : Pos} {es : List Expr} {kws : List Keyword} {t tk : TA} {E : L2.St → XK} {kp : KPat} (F : FnG X.prog X.w X.K X.mg X.base CX k f fd ps sp) (hr : Room k X.A) (hgd : X.A.guards = some []) (hg : Gl X x) (hm : X.mg x = some (.ref f)) (hk : PySem.W.keepIn X.K (.ref f) = true)
    (hb : KBd X.K fd ps kp) (hx : ∀ σ, PassesAt CX X σ (E σ)) (ha : PA X es t) (hkw : PK X kws tk) (hall : ∀ pos, (backToKw pos (keywordEach kws X.env)).all (·.1.isSome) = true) (hks : ∀ pos, (backToKw pos (keywordEach kws X.env)).filterMap (·.1) = kp.ks) (hdb : (x == ("__debug__" : Str)) = false)
    (hn : ∀ σ H (Q : List V → Hp → Prop), t σ H Q → t σ H fun vs H1 => vs.length = kp.n ∧ Q vs H1) (hn2 : ∀ σ H (Q : List V → Hp → Prop), tk σ H Q → tk σ H fun vs H1 => vs.length = kp.ks.length ∧ Q vs H1)
    (he : ∀ e r, es = e :: r → starEach es X.env = (false, eval e X.env) :: starEach r X.env) (hpl : ∀ pos, (backTo pos (starEach es X.env)).any (·.1) = false) (hnil : es = [] → ∀ σ H (Q : List V → Hp → Prop), t σ H Q → Q [] H) : PE X (.Call (.Name x p) es kws pos) (tCallKS sp kp.perm E t tk) := by
  have hpl2 : ((backTo pos (starEach es X.env)).any (·.1) || (backToKw pos (keywordEach kws X.env)).any (·.1.isNone)) = false := by
    rw [hpl pos, Bool.false_or]
    have := hall pos
    rw [List.all_eq_true] at this
    rw [List.any_eq_false]
    intro y hy
    have := this y hy
    cases z : y.1 with
    | none => rw [z] at this; cases this
    | some _ => simp
  refine ⟨fun pins s σ H Q I h => ?_⟩
  refine wpAny_Call_Name_kw (ld_glob I hg hm ?_ hdb)
  have h := hn _ _ _ h
  cases es with
  | nil =>
    obtain ⟨hl, q⟩ := hnil rfl _ _ _ h
    refine PySem.W.callWith_KW0 (h₀ := X.base) I.ok.mod.kin hk (hall pos) (thn (hkw.run pos pins s σ H _ I (hn2 _ _ _ q)) fun ws s2 ⟨zs, H2, I2, rz, hl2, q2⟩ => ⟨I2.kIn, ?_⟩) hpl2
    rw [hks]
    exact run_fnGK (us := []) F hr hgd hb hx I2 .nil rz hl (by rw [← rz.length]; exact hl2) q2
  | cons e r =>
    refine PySem.W.callWith_KW (h₀ := X.base) I.ok.mod.kin hk (hall pos) (thn (ha.run pos pins s σ H _ I h) fun us s1 ⟨vs, H1, I1, rv, hl, q⟩ => ?_) hpl2 (he e r rfl)
    refine thn (hkw.run pos pins s1 σ H1 _ I1 (hn2 _ _ _ q)) fun ws s2 ⟨zs, H2, I2, rz, hl2, q2⟩ => ⟨I2.kIn, ?_⟩
    rw [hks]
    exact run_fnGK (us := us) F hr hgd hb hx I2 rv rz (by rw [← rv.length]; exact hl) (by rw [← rz.length]; exact hl2) q2
end
end TV

/-! V8: places, displays, arguments. -/
namespace TV
open PySem PySem.Spec PyProof.Rows L2
section
variable {C : Ct} {K : PySem.W.Frag} {κ : List Sh} {Z B G H B' G' H' : Hp} {σ : L2.St} {ρ ρ' : Env} {fp fp' : Nat → List Addr}
def fSh (b : Bool) : Sh := if b then .l .s else .s
/-- one field of a record -/
theorem OwF.split : ∀ {ks : List (Str × Bool)} {ds : List D} {kvs : List (Key × V)} {as : List Addr} {j : Nat} {d : D}, OwF K B Z H ks ds kvs as → ds[j]? = some d →
    ∃ k b v l m r, ks[j]? = some (k, b) ∧ kvs[j]? = some (.inr k, v) ∧ as = l ++ m ++ r ∧ Ow K B Z H (fSh b) d v m ∧
      ∀ {B' H' : Hp} {d' : D} {v' : V} {m' : List Addr}, Same B B' → (∀ a ∈ l ++ r, ∀ o, H a = some o → H' a = some o) → Ow K B' Z H' (fSh b) d' v' m' → OwF K B' Z H' ks (ds.set j d') (kvs.set j (.inr k, v')) (l ++ m' ++ r)
  | _, _, _, _, _, _, .nil, e => by simp at e
  | _, _, _, _, 0, d, .cons (k := k) (b := b) (v := v) (as := as) (bs := bs) h t, e => by
    simp at e; subst e
    refine ⟨k, b, v, [], as, bs, rfl, rfl, by simp, h, fun b' kp h' => ?_⟩
    simpa using OwF.cons h' (OwF.mono b' (Same.refl _) (fun a ha o e => kp a (by simpa using ha) o e) t)
  | _, _, _, _, j + 1, d, .cons (k := k0) (b := b0) (as := as) h t, e => by
    obtain ⟨k, b, v, l, m, r, h1, h2, h3, h4, h5⟩ := OwF.split (j := j) (d := d) t (by simpa using e)
    refine ⟨k, b, v, as ++ l, m, r, by simpa using h1, by simpa using h2, by rw [h3]; simp, h4, fun b' kp h' => ?_⟩
    have z := OwF.cons (k := k0) (b := b0) (Ow.mono b' (Same.refl _) (fun a ha o e => kp a (by simp [ha]) o e) h) (h5 b' (fun a ha o e => kp a (by
      rcases List.mem_append.mp ha with q | q <;> simp [q]) o e) h')
    simpa using z
theorem OwF.keys : ∀ {ks : List (Str × Bool)} {ds : List D} {kvs : List (Key × V)} {as : List Addr}, OwF K B Z H ks ds kvs as → kvs.map (·.1) = ks.map (fun q => (.inr q.1 : Key)) ∧ ds.length = ks.length ∧ kvs.length = ks.length
  | _, _, _, _, .nil => ⟨rfl, rfl, rfl⟩
  | _, _, _, _, .cons h t => by
    obtain ⟨h1, h2, h3⟩ := OwF.keys t
    exact ⟨by simp [h1], by simp [h2], by simp [h3]⟩
theorem valV_at : ∀ {kvs : List (Key × V)} {j : Nat} {k : Key} {v : V}, (kvs.map (·.1)).Nodup → kvs[j]? = some (k, v) → valV kvs k = some v
  | [], _, _, _, _, e => by simp at e
  | (k0, v0) :: r, 0, k, v, _, e => by simp at e; obtain ⟨rfl, rfl⟩ := e; exact valV_pos rfl
  | (k0, v0) :: r, j + 1, k, v, nd, e => by
    simp only [List.map_cons, List.nodup_cons] at nd
    have e' : r[j]? = some (k, v) := by simpa using e
    rw [valV_neg (fun z => nd.1 (by
      simp only at z
      rw [z]
      exact List.mem_map.mpr ⟨(k, v), List.mem_of_getElem? e', rfl⟩))]
    exact valV_at nd.2 e'
theorem putK_at {kvs : List (Key × V)} {j : Nat} {k : Key} {v v' : V} (nd : (kvs.map (·.1)).Nodup) (e : kvs[j]? = some (k, v)) : putK kvs k v' = kvs.set j (k, v') := by
  have hany : (kvs.any fun kv => decide (kv.1 = k)) = true := by rw [valV_any, valV_at nd e]; rfl
  unfold putK
  rw [if_pos hany]
  clear hany
  induction kvs generalizing j with
  | nil => simp at e
  | cons p r ih =>
    obtain ⟨k0, v0⟩ := p
    simp only [List.map_cons, List.nodup_cons] at nd
    cases j with
    | zero =>
      simp at e; obtain ⟨rfl, rfl⟩ := e
      simp only [List.map_cons, if_true, List.set_cons_zero, List.cons.injEq, true_and]
      have : ∀ q ∈ r, (if q.1 = k0 then (q.1, v') else q) = q := fun q hq => if_neg fun z => nd.1 (by rw [← z]; exact List.mem_map.mpr ⟨q, hq, rfl⟩)
      rw [List.map_congr_left this]; simp
    | succ j =>
      have e' : r[j]? = some (k, v) := by simpa using e
      have hne : k0 ≠ k := fun z => nd.1 (by rw [z]; exact List.mem_map.mpr ⟨(k, v), List.mem_of_getElem? e', rfl⟩)
      simp only [List.map_cons, List.set_cons_succ]
      rw [if_neg hne, ih nd.2 e']
/-- a slot is laid anew, its own footprint may change -/
theorem Rel.put (r : Rel K κ Z B G H ρ σ fp) {i : Nat} {s : Sh} {v : V} {d : D} {as : List Addr} {B' G' H' : Hp} (hk : κ[i]? = some s) (hs : σ[i]? = some (some v)) (ow : Ow K B' Z H' s d v as) (nd : as.Nodup)
    (bb : Same B B') (bg : Same B' G') (gh : Same G' H') (zg : Same Z G') (keep : ∀ j, j ≠ i → ∀ a ∈ fp j, G' a = none ∧ a ∉ as ∧ ∀ o, H a = some o → H' a = some o) (out : ∀ a ∈ as, G' a = none ∧ ∃ o, H' a = some o) :
    Rel K κ Z B' G' H' (ρ.set i (some d)) σ (fun j => if j = i then as else fp j) := by
  refine ⟨bg, gh, zg, by rw [List.length_set]; exact r.len, fun j d' e => ?_, fun j => ?_, fun j k hjk a ha hb => ?_, fun j a ha => ?_⟩
  · by_cases hj : j = i
    · subst hj
      by_cases hl : j < ρ.length
      · rw [List.getElem?_set_self hl] at e
        cases e
        exact ⟨v, s, hs, hk, by rw [if_pos rfl]; exact ow⟩
      · rw [List.getElem?_eq_none (by simpa using hl)] at e; cases e
    · rw [List.getElem?_set_ne (Ne.symm hj)] at e
      obtain ⟨v', s', h1, h2, h3⟩ := r.at_ j d' e
      exact ⟨v', s', h1, h2, by rw [if_neg hj]; exact h3.mono bb (Same.refl _) fun a ha o e => (keep j hj a ha).2.2 o e⟩
  · try dsimp only
    split
    · exact nd
    · exact r.nd j
  · try dsimp only at ha hb
    split at ha
    · split at hb
      · omega
      · exact (keep k (by assumption) a hb).2.1 ha
    · split at hb
      · exact (keep j (by assumption) a ha).2.1 hb
      · exact r.dj j k hjk a ha hb
  · try dsimp only at ha
    split at ha
    · exact out a ha
    · obtain ⟨_, o, e⟩ := r.out j a ha
      obtain ⟨k1, _, k3⟩ := keep j (by assumption) a ha
      exact ⟨k1, o, k3 o e⟩
/-- where a place's list stands -/
def PlV (H : Hp) (σ : L2.St) (b : Addr) : Pl → Prop
  | .v i => σ[i]? = some (some (.ref b))
  | .f i j k => ∃ a kvs, σ[i]? = some (some (.ref a)) ∧ H a = some (.dK kvs) ∧ valV kvs (.inr k) = some (.ref b)
/-- a place that holds an owned list -/
def plOk (κ : List Sh) : Pl → Bool
  | .v i => decide (κ[i]? = some (.l .s))
  | .f i j k => match κ[i]? with
    | some (.r ks) => decide (ks[j]? = some (k, true)) && decide ((ks.map (·.1)).Nodup)
    | _ => false
theorem nodup_inr {l : List Str} (h : l.Nodup) : (l.map (fun x => (.inr x : Key))).Nodup := by
  induction l with
  | nil => simp
  | cons x l ih =>
    obtain ⟨h1, h2⟩ := List.nodup_cons.mp h
    simp only [List.map_cons, List.nodup_cons]
    refine ⟨fun z => ?_, ih h2⟩
    obtain ⟨y, hy, e⟩ := List.mem_map.mp z
    cases e
    exact h1 hy
theorem Rel.focus (r : Rel K κ Z B G H ρ σ fp) {p : Pl} {ds : List D} (hp : plOk κ p = true) (e : getPl ρ p = some (.list ds)) :
    ∃ b vs, PlV H σ b p ∧ H b = some (.lst vs) ∧ DvAll K B vs ds ∧ ∀ {vs' : List V} {ds' : List D}, DvAll K B vs' ds' → ∃ fp2, Rel K κ Z B G (upd H b (.lst vs')) (setPl ρ p (some (.list ds'))) σ fp2 := by
  cases p with
  | v i =>
    have hk : κ[i]? = some (.l .s) := of_decide_eq_true hp
    obtain ⟨v, s, h1, h2, ow⟩ := r.at_ i _ (gv_get e)
    rw [hk] at h2; cases h2
    generalize hf : fp i = as at ow
    cases ow with
    | l h t =>
      rename_i b vs as
      obtain ⟨t2, rfl⟩ := t.all
      have hb : G b = none := (r.out i b (by rw [hf]; simp)).1
      refine ⟨b, vs, h1, h, t2, fun {vs' ds'} t' => ⟨_, r.put (s := .l .s) (as := [b]) hk h1 (.l upd_same (.of t')) (by simp) (Same.refl _) r.bg (fun a o e => ?_) r.zg (fun j hj a ha => ⟨(r.out j a ha).1, ?_, fun o e => ?_⟩) (fun a ha => ?_)⟩⟩
      · rw [upd_ne fun z => by rw [z, hb] at e; cases e]; exact r.gh _ _ e
      · intro z
        have z : a = b := by simpa using z
        exact r.dj j i hj a ha (by rw [hf, z]; simp)
      · rw [upd_ne fun z => r.dj j i hj a ha (by rw [hf, z]; simp)]; exact e
      · have z : a = b := by simpa using ha
        subst z
        exact ⟨hb, _, upd_same⟩
  | f i j k =>
    have hp' : ∃ ks, κ[i]? = some (.r ks) ∧ ks[j]? = some (k, true) ∧ (ks.map (·.1)).Nodup := by
      unfold plOk at hp
      dsimp only at hp
      cases hk : κ[i]? with
      | none => rw [hk] at hp; cases hp
      | some sh =>
        rw [hk] at hp
        cases sh with
        | r ks =>
          simp only [Bool.and_eq_true, decide_eq_true_eq] at hp
          exact ⟨ks, rfl, hp.1, hp.2⟩
        | _ => cases hp
    · obtain ⟨ks, hk, hks, hnd⟩ := hp'
      simp only [getPl] at e
      split at e
      · rename_i dr hgv
        obtain ⟨v, s, h1, h2, ow⟩ := r.at_ i _ (gv_get hgv)
        rw [hk] at h2; cases h2
        have nd := r.nd i
        generalize hf : fp i = as at ow nd
        cases ow with
        | r h t =>
          rename_i a kvs as
          obtain ⟨k', b', w, l, m, rr, g1, g2, g3, g4, g5⟩ := t.split e
          rw [hks] at g1; cases g1
          have hkeys := t.keys.1
          have knd : (kvs.map (·.1)).Nodup := by
            rw [hkeys]
            have z := nodup_inr hnd
            rw [List.map_map] at z
            exact z
          have g4 : Ow K B Z H (.l .s) (.list ds) w m := g4
          cases g4 with
          | l hb tb0 =>
            rename_i b vs as'
            obtain ⟨tb, rfl⟩ := tb0.all
            subst g3
            have hG : ∀ x ∈ fp i, G x = none := fun x hx => (r.out i x hx).1
            rw [hf] at hG
            have hab : a ≠ b := fun z => by
              subst z
              simp at nd
            have hbl : ∀ x ∈ l ++ rr, x ≠ b := fun x hx z => by
              subst z
              simp only [List.nodup_cons, List.nodup_append, List.mem_append, List.mem_cons, List.not_mem_nil, or_false] at nd hx
              obtain ⟨_, ⟨_, _, n3⟩, _, n5⟩ := nd
              rcases hx with q | q
              · exact n3 x q x rfl rfl
              · exact n5 x (.inr rfl) x q rfl
            refine ⟨b, vs, ⟨a, kvs, h1, h, valV_at knd g2⟩, hb, tb, fun {vs' ds'} t' => ?_⟩
            have new := g5 (B' := B) (H' := upd H b (.lst vs')) (d' := .list ds') (v' := .ref b) (m' := [b]) (Same.refl _) (fun x hx o e => by rw [upd_ne (hbl x hx)]; exact e) (.l upd_same (.of t'))
            have hset : kvs.set j (.inr k, .ref b) = kvs := by
              apply List.ext_getElem?
              intro n
              by_cases hn : j = n
              · subst hn
                rw [List.getElem?_set_self (by exact (List.getElem?_eq_some_iff.mp g2).1), g2]
              · rw [List.getElem?_set_ne hn]
            rw [hset] at new
            have hgv' : setPl ρ (.f i j k) (some (.list ds')) = ρ.set i (some (.tuple (dr.set j (.list ds')))) := by simp only [setPl, hgv]
            rw [hgv']
            refine ⟨_, r.put (s := .r ks) (as := a :: (l ++ [b] ++ rr)) hk h1 (.r (by rw [upd_ne hab]; exact h) new) nd (Same.refl _) r.bg (fun x o e => ?_) r.zg (fun j' hj x hx => ⟨(r.out j' x hx).1, fun z => r.dj j' i hj x hx (by rw [hf]; exact z), fun o e => ?_⟩) (fun x hx => ⟨hG x hx, ?_⟩)⟩
            · rw [upd_ne fun z => by rw [z, hG b (by simp)] at e; cases e]; exact r.gh _ _ e
            · rw [upd_ne fun z => r.dj j' i hj x hx (by rw [hf, z]; simp)]; exact e
            · by_cases hx2 : x = b
              · subst hx2; exact ⟨_, upd_same⟩
              · rw [upd_ne hx2]
                obtain ⟨_, o, e⟩ := r.out i x (by rw [hf]; exact hx)
                exact ⟨o, e⟩
      · cases e
end
end TV

/-! V9: arguments, displays, methods of places; what is walked; statements. -/
namespace TV
open PySem PySem.Spec PyProof.Rows L2
section
variable {C : Ct} {K : PySem.W.Frag} {κ : List Sh} {Z B G H B' G' H' : Hp} {σ : L2.St} {ρ ρ' : Env} {fp fp' : Nat → List Addr}
variable {X : Cx} {a b c : Expr} {pos : Pos} {ev eva evb evc : Env → R D} {pa pb pc : Bool}
/-! ### argument lists -/
theorem PA.imp {es : List Expr} {t t' : TA} (h : PA X es t) (i : ∀ σ H Q, t' σ H Q → t σ H Q) : PA X es t' := ⟨fun p pins s σ H Q I q => h.run p pins s σ H Q I (i σ H Q q)⟩
/-- shared items -/
def tEs (C : Ct) (ev : Env → R (List D)) (pu : Bool) : TA := tEv C ev pu (fun (Q : List V → Hp → Prop) ds B' _ H' _ _ => ∀ vs, DvAll C.K B' vs ds → Q vs H')
theorem te_nil {es : List Expr} (h : PA X es L2.tNil) : PA X es (tEs C (fun ρ => .ok [] ρ) true) := PA.imp h fun σ H Q ⟨ρ, B, G, fp, r, q⟩ => q B G H fp .refl (fun _ => Same.refl _) r [] .nil
theorem rd_cons {evs : Env → R (List D)} (σ : L2.St) (H : Hp) (Q : List V → Hp → Prop) : tEs C (fun ρ => (eva ρ).bind fun d ρ => (evs ρ).bind fun ds ρ => .ok (d :: ds) ρ) (pa && pb) σ H Q → L2.tCons (tS C eva pa) (tEs C evs pb) σ H Q := fun ⟨ρ, B, G, fp, r, q⟩ => by
  have q : Post C B G H σ (pa && pb) _ _ := q
  refine ⟨ρ, B, G, fp, r, (q.bind (pu1 := pa) (pu2 := pb) rfl).mono fun d B1 G1 H1 fp1 ρ1 _ _ r1 k v hv => ?_⟩
  refine ⟨ρ1, B1, G1, fp1, r1, (k.bind (pu1 := pb) (pu2 := true) (by simp)).mono fun ds B2 G2 H2 fp2 ρ2 b2 _ r2 k vs hvs => ?_⟩
  exact k B2 G2 H2 fp2 .refl (fun _ => Same.refl _) r2 (v :: vs) (.cons (hv.mono b2.b) hvs)
theorem te_cons {es : List Expr} {evs : Env → R (List D)} (h : PA X es (L2.tCons (tS C eva pa) (tEs C evs pb))) : PA X es (tEs C (fun ρ => (eva ρ).bind fun d ρ => (evs ρ).bind fun ds ρ => .ok (d :: ds) ρ) (pa && pb)) := PA.imp h rd_cons
theorem items_pk {v : V} {d : D} {xs : List D} (h : Pk K B H v d) (e : Same B H) (hd : itemsD d = some xs) : ∃ p vs, v = .ref p ∧ (SqT K H p vs ∨ SqL K H p vs) ∧ DvAll K B vs xs := by
  cases d with
  | list ds =>
    simp only [itemsD, Option.some.injEq] at hd; subst hd
    obtain ⟨p, vs, rfl, h1, t⟩ := h.list e
    exact ⟨p, vs, rfl, .inr h1, t⟩
  | tuple ds =>
    simp only [itemsD, Option.some.injEq] at hd; subst hd
    obtain ⟨p, vs, rfl, h1, t⟩ := h.tuple e
    exact ⟨p, vs, rfl, .inl h1, t⟩
  | _ => simp [itemsD] at hd
theorem te_star {es : List Expr} {evs : Env → R (List D)} (h : PA X es (StX.tStar C.K (tZ C eva pa) (tEs C evs pb))) :
    PA X es (tEs C (fun ρ => (eva ρ).bind fun d ρ => match itemsD d with | some xs => (evs ρ).bind fun ds ρ => .ok (xs ++ ds) ρ | none => .no) (pa && pb)) := PA.imp h fun σ H Q ⟨ρ, B, G, fp, r, q⟩ => by
  have q : Post C B G H σ (pa && pb) _ _ := q
  refine ⟨ρ, B, G, fp, r, (q.bind (pu1 := pa) (pu2 := pb) rfl).mono fun d B1 G1 H1 fp1 ρ1 _ _ r1 k v hv => ?_⟩
  cases hd : itemsD d with
  | none => rw [hd] at k; exact k.elim
  | some xs =>
    rw [hd] at k
    dsimp only at k
    obtain ⟨p, vs, rfl, hs, t⟩ := items_pk hv r1.bh hd
    refine ⟨p, vs, rfl, hs, ρ1, B1, G1, fp1, r1, (k.bind (pu1 := pb) (pu2 := true) (by simp)).mono fun ds B2 G2 H2 fp2 ρ2 b2 _ r2 k ws hws => ?_⟩
    exact k B2 G2 H2 fp2 .refl (fun _ => Same.refl _) r2 (vs ++ ws) ((t.mono b2.b).append hws)
theorem te_tup {e : Expr} {evs : Env → R (List D)} (h : PE X e (L2.tTup (tEs C evs pb))) : PE X e (tS C (tupD evs) pb) := PE.imp h fun σ H Q ⟨ρ, B, G, fp, r, q⟩ => by
  have q : Post C B G H σ pb _ _ := q
  refine ⟨ρ, B, G, fp, r, (q.bind (pu1 := pb) (pu2 := true) (by simp)).mono fun ds B1 G1 H1 fp1 ρ1 _ _ r1 k vs hvs => ?_⟩
  try dsimp only at k
  split at k
  · rename_i hl
    have k2 : Post C B1 G1 H1 σ true (.ok (.tuple ds) ρ1) (kN C .s Q) := k.mono fun d B' G' H' fp' ρ' _ _ _ k v as ow _ _ => by
      cases ow with
      | s h => exact k v h
    exact ⟨lim_size (by rw [hvs.length]; exact hl), fun p hp => PostV.newT (k2.fin r1) r1.bh hvs hp⟩
  · exact k.elim
theorem te_lst {e : Expr} {evs : Env → R (List D)} (h : PE X e (L2.tLst (tEs C evs pb))) : PE X e (tN C (lstD evs) pb (.l .s)) := PE.imp h fun σ H Q ⟨ρ, B, G, fp, r, q⟩ => by
  have q : Post C B G H σ pb _ _ := q
  refine ⟨ρ, B, G, fp, r, (q.bind (pu1 := pb) (pu2 := true) (by simp)).mono fun ds B1 G1 H1 fp1 ρ1 _ _ r1 k vs hvs => ?_⟩
  try dsimp only at k
  split at k
  · rename_i hl
    exact ⟨lim_size (by rw [hvs.length]; exact hl), fun p hp => PostV.newL (k.fin r1) r1.bh hvs hp⟩
  · exact k.elim
/-- arguments of a def -/
theorem ta_nil {es : List Expr} (h : PA X es L2.tNil) : PA X es (tAs C (fun ρ => .ok [] ρ) true []) := PA.imp h fun σ H Q ⟨ρ, B, G, fp, r, q⟩ => q B G H fp .refl (fun _ => Same.refl _) r [] .nil
theorem ta_val {es : List Expr} {evs : Env → R (List Ar)} {ps : List Sh} (h : PA X es (L2.tCons (tS C eva pa) (tAs C evs pb ps))) :
    PA X es (tAs C (fun ρ => (eva ρ).bind fun d ρ => (evs ρ).bind fun ds ρ => .ok (.val d :: ds) ρ) (pa && pb) (.s :: ps)) := PA.imp h fun σ H Q ⟨ρ, B, G, fp, r, q⟩ => by
  have q : Post C B G H σ (pa && pb) _ _ := q
  refine ⟨ρ, B, G, fp, r, (q.bind (pu1 := pa) (pu2 := pb) rfl).mono fun d B1 G1 H1 fp1 ρ1 _ _ r1 k v hv => ?_⟩
  refine ⟨ρ1, B1, G1, fp1, r1, (k.bind (pu1 := pb) (pu2 := true) (by simp)).mono fun ds B2 G2 H2 fp2 ρ2 b2 _ r2 k vs hvs => ?_⟩
  exact k B2 G2 H2 fp2 .refl (fun _ => Same.refl _) r2 (v :: vs) (.s (hv.mono b2.b) hvs)
theorem ta_io {es : List Expr} {evs : Env → R (List Ar)} {ps : List Sh} {i : Nat} {p : Sh} (hm : p.isM = true) (hk : C.κ[i]? = some p) (h : PA X es (L2.tCons (tVar i) (tAs C evs pb ps))) :
    PA X es (tAs C (fun ρ => match gv ρ i with | some _ => (evs ρ).bind fun ds ρ => .ok (.io i :: ds) ρ | none => .no) pb (p :: ps)) := PA.imp h fun σ H Q ⟨ρ, B, G, fp, r, q⟩ => by
  dsimp only at q
  cases e : gv ρ i with
  | none => rw [e] at q; exact q.elim
  | some d =>
    rw [e] at q
    dsimp only at q
    obtain ⟨v, s, h1, h2, h3⟩ := r.at_ i d (gv_some e)
    have q : Post C B G H σ pb _ _ := q
    refine ⟨v, h1, ρ, B, G, fp, r, (q.bind (pu1 := pb) (pu2 := true) (by simp)).mono fun ds B2 G2 H2 fp2 ρ2 b2 _ r2 k vs hvs => ?_⟩
    exact k B2 G2 H2 fp2 .refl (fun _ => Same.refl _) r2 (v :: vs) (.m hm hk h1 hvs)
theorem ta_pk {es : List Expr} {evs : Env → R (List Ar)} {ps : List Sh} {i : Nat} {p : Sh} (hm : p = .z ∨ p = .l .s) (hk : C.κ[i]? = some p) (h : PA X es (L2.tCons (tVar i) (tAs C evs pb ps))) :
    PA X es (tAs C (fun ρ => match gv ρ i with | some _ => (evs ρ).bind fun ds ρ => .ok (.pk i :: ds) ρ | none => .no) pb (.z :: ps)) := PA.imp h fun σ H Q ⟨ρ, B, G, fp, r, q⟩ => by
  dsimp only at q
  cases e : gv ρ i with
  | none => rw [e] at q; exact q.elim
  | some d =>
    rw [e] at q
    dsimp only at q
    obtain ⟨v, s, h1, h2, h3⟩ := r.at_ i d (gv_some e)
    have q : Post C B G H σ pb _ _ := q
    refine ⟨v, h1, ρ, B, G, fp, r, (q.bind (pu1 := pb) (pu2 := true) (by simp)).mono fun ds B2 G2 H2 fp2 ρ2 b2 _ r2 k vs hvs => ?_⟩
    exact k B2 G2 H2 fp2 .refl (fun _ => Same.refl _) r2 (v :: vs) (.z hk hm h1 hvs)
/-! ### places -/
def tPl (p : Pl) : TE := fun σ H Q => ∃ b, PlV H σ b p ∧ Q (.ref b) H
theorem te_plV {e : Expr} {i : Nat} (h : PE X e (tVar i)) : PE X e (tPl (.v i)) := PE.imp h fun σ H Q ⟨b, h1, q⟩ => ⟨_, h1, q⟩
theorem te_plF {e o ix : Expr} {i j : Nat} {k : Str} (hu : X.A.units + 1 < cLine) (ho : PE X o (tVar i)) (hi : PE X ix (tC (.str k))) (hs : NoSl ix) : PE X (.Subscript o ix pos) (tPl (.f i j k)) := PE.imp (pe_dget hu ho hi hs) fun σ H Q ⟨b, ⟨a, kvs, h1, h2, h3⟩, q⟩ =>
  ⟨.ref a, h1, a, .ref b, rfl, by rw [← h3]; exact DGet.k (k := .inr k) h2, q⟩
theorem PlV.det {p : Pl} {b b' : Addr} (e : Same H H') (h : PlV H σ b p) (h' : PlV H' σ b' p) : b = b' := by
  cases p with
  | v i =>
    have h1 : σ[i]? = some (some (.ref b)) := h
    have h2 : σ[i]? = some (some (.ref b')) := h'
    rw [h1] at h2; cases h2; rfl
  | f i j k =>
    obtain ⟨a, kvs, h1, h2, h3⟩ := h
    obtain ⟨a', kvs', g1, g2, g3⟩ := h'
    rw [h1] at g1; cases g1
    rw [e _ _ h2] at g2; cases g2
    rw [h3] at g3; cases g3; rfl
theorem PlV.detV {i : Nat} {b b' : Addr} (h : PlV H σ b (.v i)) (h' : PlV H' σ b' (.v i)) : b = b' := by
  have h1 : σ[i]? = some (some (.ref b)) := h
  have h2 : σ[i]? = some (some (.ref b')) := h'
  rw [h1] at h2; cases h2; rfl
theorem te_pop {e : Expr} {p : Pl} (hp : plOk C.κ p = true) (h : PE X e (tBM0 C.K "list" rPop (tPl p))) : PE X e (tS C (popD p) false) := PE.imp h fun σ H Q ⟨ρ, B, G, fp, r, q⟩ => by
  unfold popD at q
  split at q
  · rename_i ds e1
    split at q
    · rename_i d e2
      obtain ⟨b, vs, hb, h1, t, h2⟩ := r.focus hp e1
      obtain ⟨fp2, r2⟩ := h2 t.dropLast
      have e3 : ds[ds.length - 1]? = some d := by rw [← List.getLast?_eq_getElem?]; exact e2
      obtain ⟨v, h3, h4⟩ := t.get e3
      exact ⟨b, hb, .inl ⟨rfl, vs, .of h1⟩, b, vs, v, rfl, rfl, h1, by rw [t.length]; exact h3, q B G _ fp2 .refl (fun z => by cases z) r2 v h4⟩
    · exact q.elim
  · exact q.elim
def Pl.isV : Pl → Bool
  | .v _ => true
  | .f _ _ _ => false
theorem PlV.same {p : Pl} {b b' : Addr} (hs : p.isV = true ∨ Same H H') (h : PlV H σ b p) (h' : PlV H' σ b' p) : b = b' := by
  rcases hs with hs | hs
  · cases p with
    | v i => exact PlV.detV h h'
    | f => cases hs
  · exact PlV.det hs h h'
theorem seq_of_ixN {n : Nat} {i : Int} {j : Nat} (h : ixN n i = some j) : seqIndex? i n = some j ∧ -(n : Int) ≤ i ∧ i < n := ⟨(ixN_seq h).1, (ixN_seq h).2.2.1, (ixN_seq h).2.2.2⟩
theorem te_popAt {e : Expr} {p : Pl} (hp : plOk C.κ p = true) (hs : p.isV = true ∨ pa = true) (h : PE X e (tBM C.K "list" rPopAt (tPl p) (L2.tCons (tS C eva pa) L2.tNil))) : PE X e (tS C (popAtD p eva) false) := PE.imp h fun σ H Q ⟨ρ, B, G, fp, r, q⟩ => by
  unfold popAtD at q
  split at q
  · rename_i ds0 e0
    obtain ⟨b0, vs0, hb0, h0, t0, _⟩ := r.focus hp e0
    refine ⟨b0, hb0, .inl ⟨rfl, vs0, .of h0⟩, ρ, B, G, fp, r, ?_⟩
    refine ((show Post C B G H σ false _ _ from q).bind (pu1 := pa) (pu2 := false) (by simp)).mono fun d B1 G1 H1 fp1 ρ1 _ p1 r1 k v hv => ?_
    try dsimp only at k
    split at k
    · rename_i ds i e1
      split at k
      · rename_i j e2
        split at k
        · rename_i hlim
          split at k
          · rename_i d e3
            obtain ⟨b, vs, hb, h1, t, h2⟩ := r1.focus hp e1
            have hbb : b0 = b := PlV.same (hs.imp id p1) hb0 hb
            subst hbb
            obtain ⟨fp2, r2⟩ := h2 (t.eraseIdx j)
            obtain ⟨v', h3, h4⟩ := t.get e3
            obtain rfl := hv.int'
            obtain ⟨g1, g2, g3⟩ := seq_of_ixN e2
            have hl := t.length
            unfold LIM at hlim
            exact ⟨b0, vs, i, j, v', rfl, rfl, h1, by omega, by omega, by rw [hl]; exact g1, h3, k B1 G1 _ fp2 .refl (fun z => by cases z) r2 v' h4⟩
          · exact k.elim
        · exact k.elim
      · exact k.elim
    · exact k.elim
  · exact q.elim
end
end TV

/-! V10: slices, chains, records; what is walked. -/
namespace TV
open PySem PySem.Spec PyProof.Rows L2
section
variable {C : Ct} {K : PySem.W.Frag} {κ : List Sh} {Z B G H B' G' H' : Hp} {σ : L2.St} {ρ ρ' : Env} {fp fp' : Nat → List Addr}
variable {X : Cx} {a b c : Expr} {pos : Pos} {ev eva evb evc : Env → R D} {pa pb pc : Bool}
/-- a[:b], a[b:] -/
theorem te_sl {e : Expr} {f : B2} {g : D → Option Int → Option Int → Option D} {sh : Sh} {up : Bool} (h : PE X e (L2.tSl (RS C.K sh g) (tZ C eva pa) (if up then tNoPart else tPart (tS C evb true)) (if up then tPart (tS C evb true) else tNoPart)))
    (hg : ∀ da db d, b2 f da db = some d → ∃ i, db = .int i ∧ g da (if up then none else some i) (if up then some i else none) = some d) :
    PE X e (tN C (fun ρ => (eva ρ).bind fun x ρ => (evb ρ).bind fun y ρ => R.of (b2 f x y) ρ) pa sh) := PE.imp h fun σ H Q ⟨ρ, B, G, fp, R0, q⟩ => by
  have q : Post C B G H σ pa _ _ := q
  refine ⟨ρ, B, G, fp, R0, (q.bind (pu1 := pa) (pu2 := true) (by simp)).mono fun d1 B1 G1 H1 fp1 ρ1 _ _ r1 k v1 hv1 => ?_⟩
  have k2 : Post C B1 G1 H1 σ true (evb ρ1) (kS C fun y H2 => ∃ i, y = .int i ∧ RS C.K sh g v1 (if up then none else some i) (if up then some i else none) H2 Q) := (k.bind (pu1 := true) (pu2 := true) rfl).mono fun d2 B2 G2 H2 fp2 ρ2 b2' p2 r2 k v2 hv2 => by
    obtain ⟨d', e1, k3⟩ := Post.of_some k
    obtain ⟨i, rfl, e2⟩ := hg _ _ _ e1
    obtain rfl := hv2.int'
    exact ⟨i, rfl, B2, d1, d', r2.bh, hv1.mono b2'.b (p2 rfl), e2, k3.fin r2⟩
  cases up with
  | true =>
    refine ⟨ρ1, B1, G1, fp1, r1, k2.mono fun d2 B2 G2 H2 fp2 ρ2 _ _ _ k v hv => ?_⟩
    obtain ⟨i, rfl, k⟩ := k v hv
    exact ⟨i, rfl, k⟩
  | false =>
    refine ⟨ρ1, B1, G1, fp1, r1, k2.mono fun d2 B2 G2 H2 fp2 ρ2 _ _ _ k v hv => ?_⟩
    obtain ⟨i, rfl, k⟩ := k v hv
    exact ⟨i, rfl, k⟩
/-- a f b g c -/
theorem rd_chain {f g : B2} {r r' : R2} (hf : f.sh = .s) (hg : g.sh = .s) (hr : ∀ x y H Q, RV2 C.K f.sh (b2 f) x y H Q → r x y H Q) (hr' : ∀ x y H Q, RV2 C.K g.sh (b2 g) x y H Q → r' x y H Q) (σ : L2.St) (H : Hp) (Q : VK) :
    tS C (chD (b2 f) (b2 g) eva evb evc) (pa && (pb && pc)) σ H Q → L2.tChain r r' (tS C eva pa) (tS C evb pb) (tS C evc pc) σ H Q := fun ⟨ρ, B, G, fp, R0, q⟩ => by
  have q : Post C B G H σ (pa && (pb && pc)) _ _ := q
  refine ⟨ρ, B, G, fp, R0, (q.bind (pu1 := pa) (pu2 := pb && pc) rfl).mono fun d1 B1 G1 H1 fp1 ρ1 _ _ r1 k v1 hv1 => ?_⟩
  refine ⟨ρ1, B1, G1, fp1, r1, (k.bind (pu1 := pb) (pu2 := pc) rfl).mono fun d2 B2 G2 H2 fp2 ρ2 b2' _ r2 k v2 hv2 => hr _ _ _ _ ?_⟩
  try dsimp only at k
  have step : ∀ b : Bool, b2 f d1 d2 = some (.bool b) → (∀ G3 B3 H3 fp3, Up B2 G2 B3 G3 → Same H2 H3 → Rel C.K C.κ C.Z B3 G3 H3 ρ2 σ fp3 → ∀ v : V, v = .bl b → ∃ k : Bool, v = .bl k ∧ (if k = true then tS C evc pc σ H3 (fun w' H4 => r' v2 w' H4 Q) else Q (.bl false) H3)) → RV2 C.K f.sh (b2 f) v1 v2 H2 fun z H3 => ∃ k : Bool, z = .bl k ∧ (if k = true then tS C evc pc σ H3 (fun w' H4 => r' v2 w' H4 Q) else Q (.bl false) H3) := fun b e1 fin => by
    refine ⟨B2, d1, d2, .bool b, r2.bh, .s (hv1.mono b2'.b), .s hv2, e1, fun v H3 B3 as x ow nd out => ?_⟩
    rw [hf] at ow
    obtain ⟨r3, u3⟩ := r2.ext x
    have ow := ow B3
    generalize as = as' at ow
    cases ow with
    | s hv => exact fin _ B3 H3 fp2 u3 x.h r3 v hv.bl'
  cases e1 : b2 f d1 d2 with
  | none => rw [e1] at k; exact k.elim
  | some d =>
    rw [e1] at k
    cases d with
    | bool bb =>
      cases bb with
      | true =>
        refine step true e1 fun G3 B3 H3 fp3 u3 s3 r3 v ev => ⟨true, ev, ?_⟩
        rw [if_pos rfl]
        have k' : Post C B2 G2 H2 σ pc ((evc ρ2).bind fun z ρ => R.of (b2 g d2 z) ρ) (kS C Q) := k
        have k3 : Post C B3 G3 H3 σ pc ((evc ρ2).bind fun z ρ => R.of (b2 g d2 z) ρ) (kS C Q) := by
          cases q3 : ((evc ρ2).bind fun z ρ => R.of (b2 g d2 z) ρ) with
          | ok d' ρ' =>
            rw [q3] at k'
            exact fun B' G' H' fp' u p r => k' B' G' H' fp' (u3.trans u) (fun z => s3.trans (p z)) r
          | err x' ρ' =>
            rw [q3] at k'
            exact fun cls dx B' G' H' fp' u r => k' cls dx B' G' H' fp' (u3.trans u) r
          | no => rw [q3] at k'; exact k'
        refine ⟨ρ2, B3, G3, fp3, r3, (k3.bind (pu1 := pc) (pu2 := true) (by simp)).mono fun d4 B4 G4 H4 fp4 ρ4 b4 _ r4 k v4 hv4 => hr' _ _ _ _ ?_⟩
        obtain ⟨d', e2, k⟩ := Post.of_some k
        refine ⟨B4, d2, d4, d', r4.bh, .s ((hv2.mono u3.b).mono b4.b), .s hv4, e2, ?_⟩
        rw [hg]
        have k4 : Post C B4 G4 H4 σ true (.ok d' ρ4) (kN C .s Q) := Post.mono (show Post C B4 G4 H4 σ true (.ok d' ρ4) (kS C Q) from k) fun d B' G' H' fp' ρ' _ _ _ k v as ow _ _ => by
          cases ow with
          | s h => exact k v h
        exact k4.fin r4
      | false =>
        refine step false e1 fun G3 B3 H3 fp3 u3 s3 r3 v ev => ⟨false, ev, ?_⟩
        rw [if_neg (by decide)]
        have k' : Post C B2 G2 H2 σ pc (.ok (.bool false) ρ2) (kS C Q) := k
        exact k' B3 G3 H3 fp3 u3 (fun _ => s3) r3 _ (.bl false)
    | _ => exact k.elim
/-! ### what is walked -/
/-- an iterator that yields these items, whatever is laid meanwhile -/
structure Walk (K : PySem.W.Frag) (B W : Hp) (J : It) (ds : List D) : Prop where
  go : ∀ i H, Same W H → i < ds.length → J.go i H
  stop : ∀ i H, Same W H → ds.length ≤ i → J.stop i H
  yld : ∀ i H x H' B1, Same B B1 → Same B1 H → Same W H → J.yld i H x H' → i < ds.length → ∃ d B', ds[i]? = some d ∧ Ext B1 H B' H' ∧ Dv K B' x d
def tW (C : Ct) (ev : Env → R (List D)) (pu : Bool) : TI := tEv C ev pu (fun (R : It → Hp → Prop) ds B' G' H' _ _ => ∀ J, Walk C.K B' B' J ds → R J H')
theorem SqL_eq {a : Addr} {vs : List V} (h : B a = some (.lst vs)) (e : Same B H) : SqL K H a vs := .of (e _ _ h)
theorem walk_lst {a : Addr} {vs : List V} {ds : List D} (h : B a = some (.lst vs)) (t : DvAll K B vs ds) : Walk K B B (Itl K a) ds where
  go := fun i H e hi => by
    obtain ⟨v, h1, _⟩ := t.get (List.getElem?_eq_getElem hi)
    exact ⟨vs, v, .of (e _ _ h), h1⟩
  stop := fun i H e hi => ⟨vs, .of (e _ _ h), by rw [t.length]; exact hi⟩
  yld := fun i H x H' B1 b1 e _ y hi => by
    obtain ⟨rfl, y⟩ := y
    have hx := y vs (.of (e _ _ (b1 _ _ h)))
    obtain ⟨d, h1, h2⟩ := t.get' hx
    exact ⟨d, B1, h1, Ext.refl e, h2.mono b1⟩
theorem walk_tup {a : Addr} {vs : List V} {ds : List D} (h : SqT K B a vs) (t : DvAll K B vs ds) : Walk K B B (Itt K a) ds where
  go := fun i H e hi => by
    obtain ⟨v, h1, _⟩ := t.get (List.getElem?_eq_getElem hi)
    exact ⟨vs, v, Le.tup e h, h1⟩
  stop := fun i H e hi => ⟨vs, Le.tup e h, by rw [t.length]; exact hi⟩
  yld := fun i H x H' B1 b1 e _ y hi => by
    obtain ⟨rfl, y⟩ := y
    have hx := y vs (Le.tup e (Le.tup b1 h))
    obtain ⟨d, h1, h2⟩ := t.get' hx
    exact ⟨d, B1, h1, Ext.refl e, h2.mono b1⟩
theorem rngD_get {lo : Int} {hi : Int} {i : Nat} (h : i < (hi - lo).toNat) : (rngD lo hi)[i]? = some (.int (lo + (i : Nat))) := by
  unfold rngD
  rw [List.getElem?_map, List.getElem?_range h]; rfl
theorem rngD_len {lo hi : Int} : (rngD lo hi).length = (hi - lo).toNat := by unfold rngD; simp
theorem walk_rng {lo hi : Int} {n : Nat} (e : n = (hi - lo).toNat) : Walk K B B (Itr lo n) (rngD lo hi) where
  go := fun i H _ hi => by rw [rngD_len] at hi; exact e ▸ hi
  stop := fun i H _ hi => by rw [rngD_len] at hi; exact e ▸ hi
  yld := fun i H x H' B1 b1 e' _ y hi => by
    rw [rngD_len] at hi
    obtain ⟨rfl, rfl⟩ := y
    exact ⟨_, B1, rngD_get hi, Ext.refl e', .int _⟩
theorem SqT.same {a : Addr} {xs ys : List V} {X : Cx} {pins : List (Addr × Obj)} {σ : L2.St} {s : Shared} (I : L2.Inv X pins σ H s) (h : SqT X.K H a xs) (h' : SqT X.K H a ys) : xs = ys := I.tuple_inj h h'
/-- a list or a tuple -/
def iSeq (K : PySem.W.Frag) (tl : TE) : TI := fun σ H R => tl σ H fun x H1 => ∃ a, x = .ref a ∧ ((∃ xs, SqL K H1 a xs ∧ R (Itl K a) H1) ∨ ∃ xs, SqT K H1 a xs ∧ R (Itt K a) H1)
theorem pi_seq {tg l : Expr} {tl : TE} (hl : PE X l tl) : PI X tg l (iSeq X.K tl) := by
  refine ⟨fun pins s σ H R I h => ?_⟩
  refine thn (hl.run pins s σ H _ I h) fun v s1 ⟨x, H1, I1, r1, q1⟩ => ?_
  obtain ⟨a, e, q1⟩ := q1
  subst e
  cases r1
  have fin : ∀ b ∈ [s1.heap.objs.size], FpOk X pins H1 b := fun b hb => by
    have e : b = s1.heap.objs.size := by simpa using hb
    subst e
    exact I1.fpOk (Nat.le_refl _) (I1.hok.fresh (Nat.le_refl _))
  rcases q1 with ⟨xs, hq, q⟩ | ⟨xs, hq, q⟩
  · obtain ⟨its, rv, p, hz⟩ := I1.list hq
    exact wpAny_pyIter_list p.isList ⟨s1.heap.objs.size, [s1.heap.objs.size], _, _, H1, rfl, I1.kept (t' := s1.toks) fun b o e => Heap.get?_push_of_some _ e, turn_list a _, ⟨_, Heap.get?_push_size _ rfl, rfl, rfl⟩, fin, q⟩
  · obtain ⟨its, rv, p, hz⟩ := I1.tuple hq
    exact wpAny_pyIter_tuple (show s1.heap.IsTuple a its.toArray from p) ⟨s1.heap.objs.size, [s1.heap.objs.size], _, _, H1, rfl, I1.kept (t' := s1.toks) fun b o e => Heap.get?_push_of_some _ e, turn_tuple a _, ⟨_, Heap.get?_push_size _ rfl, rfl, rfl⟩, fin, q⟩
theorem PI.imp {tg it : Expr} {t t' : TI} (h : PI X tg it t) (i : ∀ σ H Q, t' σ H Q → t σ H Q) : PI X tg it t' := ⟨fun pins s σ H Q I q => h.run pins s σ H Q I (i σ H Q q)⟩
theorem tw_seq {tg l : Expr} (h : PI X tg l (iSeq C.K (tS C eva pa))) : PI X tg l (tW C (fun ρ => (eva ρ).bind fun d ρ => R.of (itemsD d) ρ) pa) := PI.imp h fun σ H R ⟨ρ, B, G, fp, r, q⟩ => by
  have q : Post C B G H σ pa _ _ := q
  refine ⟨ρ, B, G, fp, r, (q.bind (pu1 := pa) (pu2 := true) (by simp)).mono fun d B1 G1 H1 fp1 ρ1 _ _ r1 k v hv => ?_⟩
  obtain ⟨ds, e1, k⟩ := Post.of_some k
  have k := k B1 G1 H1 fp1 .refl (fun _ => Same.refl _) r1
  cases d with
  | list xs =>
    simp only [itemsD, Option.some.injEq] at e1; subst e1
    cases hv with
    | lst h t => exact ⟨_, rfl, .inl ⟨_, .of (r1.bh _ _ h), k _ (walk_lst h t)⟩⟩
  | tuple xs =>
    simp only [itemsD, Option.some.injEq] at e1; subst e1
    cases hv with
    | tup h t => exact ⟨_, rfl, .inr ⟨_, Le.tup r1.bh h, k _ (walk_tup h t)⟩⟩
  | _ => simp [itemsD] at e1
/-! ranges -/
def tInts (C : Ct) (ev : Env → R (List D)) (pu : Bool) : TA := tEs C ev pu
theorem tw_rng1 {tg e : Expr} (h : PI X tg e (iRng1 (L2.tCons (tS C eva pa) L2.tNil))) : PI X tg e (tW C (fun ρ => (eva ρ).bind fun d ρ => match d with
    | .int n => if n ≤ LIM && decide (-LIM ≤ n) then .ok (rngD 0 n) ρ else .no
    | _ => .no) pa) := PI.imp h fun σ H R ⟨ρ, B, G, fp, r, q⟩ => by
  have q : Post C B G H σ pa _ _ := q
  refine ⟨ρ, B, G, fp, r, (q.bind (pu1 := pa) (pu2 := true) (by simp)).mono fun d B1 G1 H1 fp1 ρ1 _ _ r1 k v hv => ?_⟩
  cases d with
  | int n =>
    dsimp only at k
    split at k
    · rename_i hc
      simp only [Bool.and_eq_true, decide_eq_true_eq] at hc
      obtain rfl := hv.int'
      have h1 := hc.1
      have h2 := hc.2
      unfold LIM at h1 h2
      exact ⟨n, rfl, by omega, by omega, k B1 G1 H1 fp1 .refl (fun _ => Same.refl _) r1 _ (walk_rng (by simp))⟩
    · exact k.elim
  | _ => exact k.elim
theorem tw_rng2 {tg e : Expr} (h : PI X tg e (iRng2 (L2.tCons (tS C eva pa) (L2.tCons (tS C evb pb) L2.tNil)))) : PI X tg e (tW C (fun ρ => (eva ρ).bind fun x ρ => (evb ρ).bind fun y ρ => match x, y with
    | .int i, .int j => if decide (i ≤ LIM) && decide (-LIM ≤ i) && decide (j ≤ LIM) && decide (-LIM ≤ j) then .ok (rngD i j) ρ else .no
    | _, _ => .no) (pa && pb)) := PI.imp h fun σ H R ⟨ρ, B, G, fp, r, q⟩ => by
  have q : Post C B G H σ (pa && pb) _ _ := q
  refine ⟨ρ, B, G, fp, r, (q.bind (pu1 := pa) (pu2 := pb) rfl).mono fun d B1 G1 H1 fp1 ρ1 _ _ r1 k v hv => ?_⟩
  refine ⟨ρ1, B1, G1, fp1, r1, (k.bind (pu1 := pb) (pu2 := true) (by simp)).mono fun d2 B2 G2 H2 fp2 ρ2 _ _ r2 k v2 hv2 => ?_⟩
  cases d with
  | int i =>
    cases d2 with
    | int j =>
      dsimp only at k
      split at k
      · rename_i hc
        simp only [Bool.and_eq_true, decide_eq_true_eq] at hc
        obtain rfl := hv.int'
        obtain rfl := hv2.int'
        obtain ⟨⟨⟨h1, h2⟩, h3⟩, h4⟩ := hc
        unfold LIM at h1 h2 h3 h4
        exact ⟨i, j, rfl, ⟨by omega, by omega, by omega, by omega⟩, k B2 G2 H2 fp2 .refl (fun _ => Same.refl _) r2 _ (walk_rng rfl)⟩
      · exact k.elim
    | _ => exact k.elim
  | _ => exact k.elim
theorem walk_down {i : Int} {n : Nat} : Walk K B B (Itc i (-1) n) ((List.range n).map fun m => PyData.int (i - (m : Nat))) where
  go := fun k H _ hk => by
    have z : k < n := by simpa using hk
    exact z
  stop := fun k H _ hk => by
    have z : n ≤ k := by simpa using hk
    exact z
  yld := fun k H x H' B1 b1 e' _ y hk => by
    have hk' : k < n := by simpa using hk
    obtain ⟨rfl, rfl⟩ := y
    refine ⟨.int (i - (k : Nat)), B1, by rw [List.getElem?_map, List.getElem?_range hk']; rfl, Ext.refl e', ?_⟩
    have : i + (k : Nat) * (-1 : Int) = i - (k : Nat) := by omega
    rw [this]
    exact .int _
theorem tw_rng3 {tg e : Expr} (h : PI X tg e (iRng3 (L2.tCons (tS C eva pa) (L2.tCons (tS C evb pb) (L2.tCons (tS C evc pc) L2.tNil))))) : PI X tg e (tW C (fun ρ => (eva ρ).bind fun x ρ => (evb ρ).bind fun y ρ => (evc ρ).bind fun z ρ => R.of (rng3D x y z) ρ) (pa && (pb && pc))) := PI.imp h fun σ H R ⟨ρ, B, G, fp, r, q⟩ => by
  have q : Post C B G H σ (pa && (pb && pc)) _ _ := q
  refine ⟨ρ, B, G, fp, r, (q.bind (pu1 := pa) (pu2 := pb && pc) rfl).mono fun d B1 G1 H1 fp1 ρ1 _ _ r1 k v hv => ?_⟩
  refine ⟨ρ1, B1, G1, fp1, r1, (k.bind (pu1 := pb) (pu2 := pc) rfl).mono fun d2 B2 G2 H2 fp2 ρ2 b2' _ r2 k v2 hv2 => ?_⟩
  refine ⟨ρ2, B2, G2, fp2, r2, (k.bind (pu1 := pc) (pu2 := true) (by simp)).mono fun d3 B3 G3 H3 fp3 ρ3 _ _ r3 k v3 hv3 => ?_⟩
  obtain ⟨ds, e1, k⟩ := Post.of_some k
  cases d with
  | int i =>
    cases d2 with
    | int j =>
      cases d3 with
      | int c =>
        simp only [rng3D] at e1
        split at e1
        · rename_i hc
          simp only [Bool.and_eq_true, decide_eq_true_eq] at hc
          obtain ⟨⟨⟨⟨rfl, h1⟩, h2⟩, h3⟩, h4⟩ := hc
          unfold LIM at h1 h2 h3 h4
          simp only [Option.some.injEq] at e1
          subst e1
          obtain rfl := hv.int'
          obtain rfl := hv2.int'
          obtain rfl := hv3.int'
          exact ⟨i, j, -1, _, rfl, RgC.neg (by omega) (by omega) (by omega) (by omega), k B3 G3 H3 fp3 .refl (fun _ => Same.refl _) r3 _ walk_down⟩
        · cases e1
      | _ => simp [rng3D] at e1
    | _ => simp [rng3D] at e1
  | _ => simp [rng3D] at e1
end
end TV

/-! V11: stores, comprehensions, records. -/
namespace TV
open PySem PySem.Spec PyProof.Rows L2
mutual
def Tg.slots : Tg → List Nat
  | .v i => [i]
  | .t ts => Tgs.slots ts
def Tgs.slots : Tgs → List Nat
  | .nil => []
  | .cons t ts => Tg.slots t ++ Tgs.slots ts
end
section
variable {C : Ct} {K : PySem.W.Frag} {κ : List Sh} {Z B G H B' G' H' : Hp} {σ : L2.St} {ρ ρ' : Env} {fp fp' : Nat → List Addr}
variable {X : Cx} {a b c : Expr} {pos : Pos} {ev eva evb evc : Env → R D} {pa pb pc : Bool}
/-- a slot is stored -/
theorem Rel.store (r : Rel K κ Z B G H ρ σ fp) {i : Nat} {s : Sh} {v : V} {d : D} {as : List Addr} (hk : κ[i]? = some s) (ow : Ow K B Z H s d v as) (nd : as.Nodup) (out : ∀ a ∈ as, G a = none ∧ ∀ j, a ∉ fp j) :
    Rel K κ Z B G H (ρ.set i (some d)) (σ.set i (some v)) (fun j => if j = i then as else fp j) := by
  have r0 := r.drop i
  have r1 : Rel K κ Z B G H (ρ.set i none) (σ.set i (some v)) (fun j => if j = i then [] else fp j) := ⟨r0.bg, r0.gh, r0.zg, by rw [List.length_set, List.length_set]; exact r.len, fun j d' e => by
    have hj : j ≠ i := fun z => by
      subst z
      by_cases hl : j < ρ.length
      · rw [List.getElem?_set_self hl] at e; cases e
      · rw [List.getElem?_eq_none (by simpa using hl)] at e; cases e
    obtain ⟨v', s', h1, h2, h3⟩ := r0.at_ j d' e
    exact ⟨v', s', by rw [List.getElem?_set_ne (Ne.symm hj)]; exact h1, h2, h3⟩, r0.nd, r0.dj, r0.out⟩
  by_cases hl : i < σ.length
  · have r2 := r1.put (i := i) (s := s) (v := v) (d := d) (as := as) hk (by rw [List.getElem?_set_self hl]) ow nd (Same.refl _) r1.bg r1.gh r1.zg (fun j hj a ha => ?_) (fun a ha => ⟨(out a ha).1, ow.inH a ha⟩)
    · rw [List.set_set] at r2
      have e : (fun j => if j = i then as else (fun j => if j = i then [] else fp j) j) = fun j => if j = i then as else fp j := by
        funext j
        by_cases hj : j = i <;> simp [hj]
      rw [e] at r2
      exact r2
    · rw [if_neg hj] at ha
      exact ⟨(r.out j a ha).1, fun z => (out a z).2 j ha, fun o e => e⟩
  · have hl2 : ¬ i < ρ.length := by rw [r.len]; exact hl
    have e1 : σ.set i (some v) = σ := List.set_eq_of_length_le (by omega)
    have e2 : ρ.set i (some d) = ρ := List.set_eq_of_length_le (by omega)
    have e3 : ρ.set i none = ρ := List.set_eq_of_length_le (by omega)
    rw [e1, e2]
    refine ⟨r.bg, r.gh, r.zg, r.len, fun j d' e => ?_, fun j => ?_, fun j k hjk a ha hb => ?_, fun j a ha => ?_⟩
    · have hj : j ≠ i := fun z => by subst z; rw [List.getElem?_eq_none (by omega)] at e; cases e
      obtain ⟨v', s', h1, h2, h3⟩ := r.at_ j d' e
      exact ⟨v', s', h1, h2, by rw [if_neg hj]; exact h3⟩
    · try dsimp only
      split
      · exact nd
      · exact r.nd j
    · try dsimp only at ha hb
      split at ha
      · split at hb
        · omega
        · exact (out a ha).2 k hb
      · split at hb
        · exact (out a hb).2 j ha
        · exact r.dj j k hjk a ha hb
    · try dsimp only at ha
      split at ha
      · exact ⟨(out a ha).1, ow.inH a ha⟩
      · exact r.out j a ha
/-- a target takes shared data -/
def TgOk (C : Ct) (g : TG) (tg : Tg) : Prop := ∀ {v : V} {d : D} {ρ ρ' : Env} {σ : L2.St} {B G H : Hp} {fp : Nat → List Addr} {Q : L2.St → Hp → Prop}, Dv C.K B v d → Rel C.K C.κ C.Z B G H ρ σ fp → bindT tg d ρ = some ρ' →
  (∀ σ' fp', Rel C.K C.κ C.Z B G H ρ' σ' fp' → σ'.length = σ.length → (∀ j, j ∉ tg.slots → σ'[j]? = σ[j]?) → Q σ' H) → g v σ H Q
def TgsOk (C : Ct) (g : TGs) (tg : Tgs) : Prop := ∀ {vs : List V} {ds : List D} {ρ ρ' : Env} {σ : L2.St} {B G H : Hp} {fp : Nat → List Addr} {Q : L2.St → Hp → Prop}, DvAll C.K B vs ds → Rel C.K C.κ C.Z B G H ρ σ fp → bindTs tg ds ρ = some ρ' →
  (∀ σ' fp', Rel C.K C.κ C.Z B G H ρ' σ' fp' → σ'.length = σ.length → (∀ j, j ∉ tg.slots → σ'[j]? = σ[j]?) → Q σ' H) → g vs σ H Q
theorem tg_v {i : Nat} (hk : C.κ[i]? = some .s) : TgOk C (gName i) (.v i) := fun {v d ρ ρ' σ B G H fp Q} hv r e q => by
  simp only [bindT, Option.some.injEq] at e
  subst e
  refine q _ _ (r.store hk (.s hv) List.nodup_nil (fun a ha => by cases ha)) (by simp) fun j hj => ?_
  have hj : i ≠ j := fun z => hj (by simp [Tg.slots, z])
  exact List.getElem?_set_ne hj
theorem tgs_nil : TgsOk C gNil .nil := fun {vs ds ρ ρ' σ B G H fp Q} hv r e q => by
  cases hv with
  | nil =>
    simp only [bindTs, Option.some.injEq] at e
    subst e
    exact ⟨rfl, q σ fp r rfl fun _ _ => rfl⟩
  | cons _ _ => simp [bindTs] at e
theorem tgs_cons {g : TG} {gs : TGs} {t : Tg} {ts : Tgs} (h : TgOk C g t) (hs : TgsOk C gs ts) : TgsOk C (gCons g gs) (.cons t ts) := fun {vs ds ρ ρ' σ B G H fp Q} hv r e q => by
  cases hv with
  | nil => simp [bindTs] at e
  | cons h1 h2 =>
    simp only [bindTs] at e
    split at e
    · rename_i ρ1 e1
      refine ⟨_, _, rfl, h h1 r e1 fun σ1 fp1 r1 l1 k1 => hs h2 r1 e fun σ2 fp2 r2 l2 k2 => q σ2 fp2 r2 (l2.trans l1) fun j hj => ?_⟩
      simp only [Tgs.slots, List.mem_append, not_or] at hj
      rw [k2 j hj.2, k1 j hj.1]
    · cases e
def Tgs.len : Tgs → Nat
  | .nil => 0
  | .cons _ ts => ts.len + 1
theorem bindTs_len : ∀ {ts : Tgs} {ds : List D} {ρ ρ' : Env}, bindTs ts ds ρ = some ρ' → ds.length = ts.len
  | .nil, [], _, _, _ => rfl
  | .nil, _ :: _, _, _, e => by simp [bindTs] at e
  | .cons t ts, [], _, _, e => by simp [bindTs] at e
  | .cons t ts, d :: ds, ρ, ρ', e => by
    simp only [bindTs] at e
    split at e
    · simp [Tgs.len, bindTs_len e]
    · cases e
theorem tg_t {gs : TGs} {ts : Tgs} {n : Nat} (hn : n = ts.len) (hs : TgsOk C gs ts) : TgOk C (gTup C.K n gs) (.t ts) := fun {v d ρ ρ' σ B G H fp Q} hv r e q => by
  cases d with
  | tuple ds =>
    simp only [bindT] at e
    cases hv with
    | tup h t => exact ⟨_, _, rfl, Le.tup r.bh h, by rw [t.length, bindTs_len e, hn], hs t r e q⟩
  | _ => simp [bindT] at e
/-! ### comprehensions -/
theorem Rel.wipe (r : Rel K κ Z B G H ρ σ fp) : ∀ vs : List Nat, ∃ fp', Rel K κ Z B G H (wipeE ρ vs) (L2.wipe σ vs) fp' ∧ ∀ i a, a ∈ fp' i → a ∈ fp i
  | [] => ⟨fp, r, fun _ _ h => h⟩
  | v :: vs => by
    obtain ⟨fp1, r1, h1⟩ := Rel.wipe r vs
    have r2 := r1.drop v
    refine ⟨fun j => if j = v then [] else fp1 j, ⟨r2.bg, r2.gh, r2.zg, ?_, fun j d e => ?_, r2.nd, r2.dj, r2.out⟩, fun i a ha => ?_⟩
    · show ((wipeE ρ vs).set v none).length = ((L2.wipe σ vs).set v none).length
      rw [List.length_set, List.length_set]; exact r1.len
    · have e : ((wipeE ρ vs).set v none)[j]? = some (some d) := e
      have hj : j ≠ v := fun z => by
        subst z
        by_cases hl : j < (wipeE ρ vs).length
        · rw [List.getElem?_set_self hl] at e; cases e
        · rw [List.getElem?_eq_none (by simpa using hl)] at e; cases e
      obtain ⟨v', s', g1, g2, g3⟩ := r2.at_ j d e
      exact ⟨v', s', by show ((L2.wipe σ vs).set v none)[j]? = _; rw [List.getElem?_set_ne (Ne.symm hj)]; exact g1, g2, g3⟩
    · try dsimp only at ha
      split at ha
      · cases ha
      · exact h1 i a ha
theorem wipeE_len : ∀ vs : List Nat, (wipeE ρ vs).length = ρ.length
  | [] => rfl
  | v :: vs => by show ((wipeE ρ vs).set v none).length = _; rw [List.length_set, wipeE_len vs]
theorem backE_len {ρ0 : Env} : ∀ vs : List Nat, (backE ρ0 ρ vs).length = ρ.length
  | [] => rfl
  | v :: vs => by show ((backE ρ0 ρ vs).set v _).length = _; rw [List.length_set, backE_len vs]
theorem backE_in {ρ0 : Env} {j : Nat} : ∀ {vs : List Nat}, j ∈ vs → j < ρ.length → (backE ρ0 ρ vs)[j]? = some (ρ0[j]?.join)
  | v :: vs, hj, hl => by
    show ((backE ρ0 ρ vs).set v (ρ0[v]?.join))[j]? = _
    by_cases e : v = j
    · subst e; rw [List.getElem?_set_self (by rw [backE_len]; exact hl)]
    · rw [List.getElem?_set_ne e]
      exact backE_in ((List.mem_cons.mp hj).resolve_left fun z => e z.symm) hl
theorem backE_out {ρ0 : Env} {j : Nat} : ∀ {vs : List Nat}, j ∉ vs → (backE ρ0 ρ vs)[j]? = ρ[j]?
  | [], _ => rfl
  | v :: vs, hj => by
    simp only [List.mem_cons, not_or] at hj
    show ((backE ρ0 ρ vs).set v _)[j]? = _
    rw [List.getElem?_set_ne (fun z => hj.1 z.symm)]
    exact backE_out hj.2
theorem wipe_in {j : Nat} : ∀ {vs : List Nat}, j ∈ vs → (L2.wipe σ vs)[j]? ≠ none → (L2.wipe σ vs)[j]? = some none
  | v :: vs, hj, hn => by
    by_cases e : v = j
    · subst e
      have h : (L2.wipe σ (v :: vs)) = (L2.wipe σ vs).set v none := rfl
      rw [h] at hn ⊢
      by_cases hl : v < (L2.wipe σ vs).length
      · rw [List.getElem?_set_self hl]
      · rw [List.getElem?_eq_none (by simpa using hl)] at hn; exact absurd rfl hn
    · have h : (L2.wipe σ (v :: vs)) = (L2.wipe σ vs).set v none := rfl
      rw [h, List.getElem?_set_ne e] at hn ⊢
      exact wipe_in ((List.mem_cons.mp hj).resolve_left fun z => e z.symm) hn
/-- the block is left: the slots outside as it left them, its own as they were -/
theorem Rel.back {ρ0 : Env} {B0 G0 H0 : Hp} {fp0 : Nat → List Addr} {vs : List Nat} (r0 : Rel K κ Z B0 G0 H0 ρ0 σ fp0) (b : Same B0 B) (hvs : ∀ v ∈ vs, κ[v]? = some .s) (r : Rel K κ Z B G H ρ (L2.wipe σ vs) fp) :
    Rel K κ Z B G H (backE ρ0 ρ vs) σ (fun j => if j ∈ vs then [] else fp j) := by
  have lw : (L2.wipe σ vs).length = σ.length := wipe_length σ vs
  refine ⟨r.bg, r.gh, r.zg, by rw [backE_len, r.len, lw], fun j d e => ?_, fun j => ?_, fun i j hij a ha hb => ?_, fun j a ha => ?_⟩
  · by_cases hj : j ∈ vs
    · have hl : j < ρ.length := by
        have := (List.getElem?_eq_some_iff.mp e).1
        rw [backE_len] at this; exact this
      rw [backE_in hj hl] at e
      have e : ρ0[j]?.join = some d := Option.some.inj e
      have e2 : ρ0[j]? = some (some d) := by
        cases q : ρ0[j]? with
        | none => rw [q] at e; cases e
        | some o => rw [q] at e; cases o with
          | none => cases e
          | some d' => cases e; rfl
      obtain ⟨v, s, h1, h2, h3⟩ := r0.at_ j d e2
      rw [hvs j hj] at h2; cases h2
      refine ⟨v, .s, h1, hvs j hj, ?_⟩
      rw [if_pos hj]
      generalize fp0 j = as at h3
      cases h3 with
      | s h3 => exact .s (h3.mono b)
    · rw [backE_out hj] at e
      obtain ⟨v, s, h1, h2, h3⟩ := r.at_ j d e
      refine ⟨v, s, ?_, h2, by rw [if_neg hj]; exact h3⟩
      have := wipe_out (σ := σ) hj
      rw [this] at h1
      exact h1
  · try dsimp only
    split
    · exact List.nodup_nil
    · exact r.nd j
  · try dsimp only at ha hb
    split at ha
    · cases ha
    · split at hb
      · cases hb
      · exact r.dj i j hij a ha hb
  · try dsimp only at ha
    split at ha
    · cases ha
    · exact r.out j a ha
/-- a new list is held beside -/
theorem Rel.beside (r : Rel K κ Z B G H ρ σ fp) {D : Addr} {o : HO} (hG : G D = none) (hf : ∀ i, D ∉ fp i) : Rel K κ Z B G (upd H D o) ρ σ fp := by
  refine ⟨r.bg, fun a u e => ?_, r.zg, r.len, fun j d e => ?_, r.nd, r.dj, fun i a ha => ?_⟩
  · rw [upd_ne fun z => by rw [z, hG] at e; cases e]; exact r.gh _ _ e
  · obtain ⟨v, s, h1, h2, h3⟩ := r.at_ j d e
    exact ⟨v, s, h1, h2, h3.mono (Same.refl _) (Same.refl _) fun a ha u e => by rw [upd_ne fun z => hf j (by rw [← z]; exact ha)]; exact e⟩
  · obtain ⟨g, u, e⟩ := r.out i a ha
    exact ⟨g, u, by rw [upd_ne fun z => hf i (by rw [← z]; exact ha)]; exact e⟩
/-- D guarded -/
theorem Rel.guard (r : Rel K κ Z B G H ρ σ fp) {D : Addr} (hG : G D = none) (hf : ∀ i, D ∉ fp i) : Rel K κ Z B (ovr G H [D]) H ρ σ fp := by
  refine ⟨r.bg.trans (same_ovr fun a ha => by simp at ha; subst ha; exact hG), ovr_le r.gh, r.zg.trans (same_ovr fun a ha => by simp at ha; subst ha; exact hG), r.len, r.at_, r.nd, r.dj, fun i a ha => ?_⟩
  obtain ⟨g, o⟩ := r.out i a ha
  exact ⟨by rw [ovr_out fun z => hf i (by simp at z; subst z; exact ha)]; exact g, o⟩
/-- .. and let go -/
theorem Rel.unguard (r : Rel K κ Z B G H ρ σ fp) {D : Addr} (hB : B D = none) (hZ : Z D = none) : Rel K κ Z B (hide G [D]) H ρ σ fp := by
  refine ⟨fun a o e => ?_, fun a o e => ?_, fun a o e => ?_, r.len, r.at_, r.nd, r.dj, fun i a ha => ?_⟩
  · rw [hide_out fun z => by simp at z; subst z; rw [hB] at e; cases e]; exact r.bg _ _ e
  · by_cases hd : a ∈ [D]
    · rw [hide_in hd] at e; cases e
    · rw [hide_out hd] at e; exact r.gh _ _ e
  · rw [hide_out fun z => by simp at z; subst z; rw [hZ] at e; cases e]; exact r.zg _ _ e
  · obtain ⟨g, o⟩ := r.out i a ha
    refine ⟨?_, o⟩
    by_cases hd : a ∈ [D]
    · exact hide_in hd
    · rw [hide_out hd]; exact g
/-- within a comprehension nothing is raised -/
def Ct.blk (C : Ct) : Ct := { C with W := fun _ _ _ _ => False }
/-- a turn's tests: none, or one -/
structure Body (C : Ct) (tt : TT) (te : TE) (body : Env → R (Option D)) (pu : Bool) : Prop where
  run : ∀ {ρ ρ' : Env} {o : Option D} {σ : L2.St} {B G H : Hp} {fp : Nat → List Addr} {Qy : V → Hp → Prop} {Qn : Hp → Prop}, Rel C.K C.κ C.Z B G H ρ σ fp → body ρ = .ok o ρ' →
    (∀ B' G' H' fp', Up B G B' G' → (pu = true → Same H H') → Rel C.K C.κ C.Z B' G' H' ρ' σ fp' → match o with
      | some d => ∀ v, Dv C.K B' v d → Qy v H'
      | none => Qn H') → tt σ H fun b H3 => if b = true then te σ H3 Qy else Qn H3
theorem body_all : Body C tYes (tS C eva pa) (allD eva) pa where
  run := fun {ρ ρ' o σ B G H fp Qy Qn} r e q => by
    show (if true = true then tS C eva pa σ H Qy else Qn H)
    rw [if_pos rfl]
    refine ⟨ρ, B, G, fp, r, ?_⟩
    unfold allD at e
    cases q1 : eva ρ with
    | ok x ρ1 =>
      rw [q1, R.bind_ok] at e
      simp only [R.ok.injEq] at e
      obtain ⟨rfl, rfl⟩ := e
      exact fun B' G' H' fp' u p r' => q B' G' H' fp' u p r'
    | err x ρ1 => rw [q1] at e; cases e
    | no => rw [q1] at e; cases e
theorem body_if : Body C (tBo C evc pc) (tS C eva pa) (ifD evc eva) (pc && pa) where
  run := fun {ρ ρ' o σ B G H fp Qy Qn} r e q => by
    refine ⟨ρ, B, G, fp, r, ?_⟩
    unfold ifD at e
    cases q1 : evc ρ with
    | ok x ρ1 =>
      rw [q1, R.bind_ok] at e
      cases x with
      | bool b =>
        cases b with
        | true =>
          dsimp only at e
          intro B1 G1 H1 fp1 u1 p1 r1
          refine ⟨true, rfl, ?_⟩
          show (if true = true then tS C eva pa σ H1 Qy else Qn H1)
          rw [if_pos rfl]
          refine ⟨ρ1, B1, G1, fp1, r1, ?_⟩
          cases q2 : eva ρ1 with
          | ok y ρ2 =>
            rw [q2, R.bind_ok] at e
            simp only [R.ok.injEq] at e
            obtain ⟨rfl, rfl⟩ := e
            exact fun B' G' H' fp' u p r' => q B' G' H' fp' (u1.trans u) (fun z => by
              rw [Bool.and_eq_true] at z
              exact (p1 z.1).trans (p z.2)) r'
          | err x ρ2 => rw [q2] at e; cases e
          | no => rw [q2] at e; cases e
        | false =>
          dsimp only at e
          simp only [R.ok.injEq] at e
          obtain ⟨rfl, rfl⟩ := e
          intro B1 G1 H1 fp1 u1 p1 r1
          refine ⟨false, rfl, ?_⟩
          show (if false = true then tS C eva pa σ H1 Qy else Qn H1)
          rw [if_neg (by decide)]
          exact q B1 G1 H1 fp1 u1 (fun z => by
            rw [Bool.and_eq_true] at z
            exact p1 z.1) r1
      | _ => cases e
    | err x ρ1 => rw [q1] at e; cases e
    | no => rw [q1] at e; cases e
theorem lcF_len {body : D → Env → R (Option D)} : ∀ {ds : List D} {ρ ρ' : Env} {r : List D}, lcF body ds ρ = .ok r ρ' → r.length ≤ ds.length
  | [], ρ, ρ', r, e => by simp only [lcF, R.ok.injEq] at e; obtain ⟨rfl, _⟩ := e; simp
  | d :: ds, ρ, ρ', r, e => by
    simp only [lcF] at e
    cases q : body d ρ with
    | ok o ρ1 =>
      rw [q, R.bind_ok] at e
      cases q2 : lcF body ds ρ1 with
      | ok r1 ρ2 =>
        rw [q2, R.bind_ok] at e
        simp only [R.ok.injEq] at e
        obtain ⟨rfl, _⟩ := e
        have := lcF_len q2
        cases o <;> simp <;> omega
      | err x ρ2 => rw [q2] at e; cases e
      | no => rw [q2] at e; cases e
    | err x ρ2 => rw [q] at e; cases e
    | no => rw [q] at e; cases e
theorem lc_turns {vs : List Nat} {tg : Tg} {g : TG} {tt : TT} {te : TE} {body : Env → R (Option D)} {pb : Bool} (hvs : ∀ v ∈ vs, C.κ[v]? = some .s) (htg : ∀ j ∈ tg.slots, j ∈ vs) (hg : TgOk C.blk g tg) (hb : Body C.blk tt te body pb)
    {σ : L2.St} {Q : VK} {ds : List D} {B1 G1 W1 H1 : Hp} {fp1 : Nat → List Addr} {ρ1 : Env} {J : It} (r1 : Rel C.K C.κ C.Z B1 G1 H1 ρ1 σ fp1) (k : Post C B1 G1 H1 σ pb (lcB vs tg body ds ρ1) (kN C (.l .s) Q)) (hW : Same W1 G1) (wk : Walk C.K B1 W1 J ds) {D : Addr} (hD : H1 D = none) :
    ∃ W : Nat → Nat → Hp → Prop, (∃ m, W 0 m (upd H1 D (.lst []))) ∧ ∀ i m H, W i m H →
  (J.stop i H ∧ Q (.ref D) H) ∨ (J.go i H ∧ ∃ Nx : Hp → Prop, (∀ H', Nx H' → ∃ m', m' < m ∧ W (i + 1) m' H') ∧ ∀ x H', J.yld i H x H' → g x (L2.wipe σ vs) H' fun σ2 H2 => L2.wipe σ2 vs = L2.wipe σ vs ∧ tt σ2 H2 fun b H3 =>
    if b = true then te σ2 H3 fun y H4 => ∃ acc, H4 D = some (.lst acc) ∧ acc.length < sizeLine ∧ Nx (upd H4 D (.lst (acc ++ [y]))) else Nx H3) := by
  unfold lcB at k
  split at k
  case isFalse => exact k.elim
  rename_i hlim
  cases ef : lcF (lcT vs tg body) ds (wipeE ρ1 vs) with
  | err x ρx => rw [ef] at k; exact k.elim
  | no => rw [ef] at k; exact k.elim
  | ok res ρe =>
  rw [ef] at k
  have k : Post C B1 G1 H1 σ pb (.ok (.list res) (backE ρ1 ρe vs)) (kN C (.l .s) Q) := k
  generalize hF : lcT vs tg body = F at ef
  obtain ⟨fpw, rw0, hfpw⟩ := r1.wipe vs
  have D0 : G1 D = none := r1.gh.free hD
  have Z0 : C.Z D = none := r1.zg.free D0
  have Df : ∀ i, D ∉ fp1 i := fun i z => by obtain ⟨_, o, e⟩ := r1.out i D z; rw [hD] at e; cases e
  refine ⟨fun i m H => ∃ ρc B2 G2 fp2 ra ri acc, m = ds.length - i ∧ i ≤ ds.length ∧ Up B1 G1 B2 G2 ∧ (pb = true → Same H1 H) ∧ Rel C.K C.κ C.Z B2 G2 H ρc (L2.wipe σ vs) fp2 ∧ H D = some (.lst acc) ∧ DvAll C.K B2 acc ra ∧ G2 D = none ∧ (∀ i, D ∉ fp2 i) ∧
    lcF F (ds.drop i) ρc = .ok ri ρe ∧ res = ra ++ ri ∧ ra.length ≤ i, ⟨ds.length, wipeE ρ1 vs, B1, G1, fpw, [], res, [], by simp, Nat.zero_le _, .refl, fun _ => same_upd hD _, rw0.beside D0 (fun i z => Df i (hfpw i _ z)), upd_same, .nil, D0, fun i z => Df i (hfpw i _ z), by simpa using ef, by simp, by simp⟩, ?_⟩
  rintro i m H2 ⟨ρc, B2, G2, fp2, ra, ri, acc, rfl, hi, u2, p2, r2, hacc, tacc, gD, fD, eF, eres, hra⟩
  have bD : B2 D = none := r2.bg.free gD
  by_cases hlt : i < ds.length
  · refine .inr ⟨wk.go i H2 ((hW.trans u2.g).trans r2.gh) hlt, fun H' => ∃ m', m' < ds.length - i ∧ ∃ ρc B2 G2 fp2 ra ri acc, m' = ds.length - (i + 1) ∧ i + 1 ≤ ds.length ∧ Up B1 G1 B2 G2 ∧ (pb = true → Same H1 H') ∧ Rel C.K C.κ C.Z B2 G2 H' ρc (L2.wipe σ vs) fp2 ∧ H' D = some (.lst acc) ∧ DvAll C.K B2 acc ra ∧ G2 D = none ∧ (∀ i, D ∉ fp2 i) ∧
      lcF F (ds.drop (i + 1)) ρc = .ok ri ρe ∧ res = ra ++ ri ∧ ra.length ≤ i + 1, fun H' hN => hN, fun x H' y => ?_⟩
    obtain ⟨d, B3, hd, x3, hx⟩ := wk.yld i H2 x H' B2 u2.b r2.bh ((hW.trans u2.g).trans r2.gh) y hlt
    have edrop : ds.drop i = d :: ds.drop (i + 1) := by
      have hd2 : ds[i] = d := by
        have := List.getElem?_eq_getElem hlt
        rw [hd] at this
        exact (Option.some.inj this).symm
      rw [← hd2]
      exact List.drop_eq_getElem_cons hlt
    rw [edrop] at eF
    simp only [lcF] at eF
    cases eb : F d ρc with
    | err x ρx => rw [eb] at eF; cases eF
    | no => rw [eb] at eF; cases eF
    | ok o ρ4 =>
    rw [eb, R.bind_ok] at eF
    cases er : lcF F (ds.drop (i + 1)) ρ4 with
    | err x ρx => rw [er] at eF; cases eF
    | no => rw [er] at eF; cases eF
    | ok rj ρ5 =>
    rw [er, R.bind_ok] at eF
    simp only [R.ok.injEq] at eF
    obtain ⟨eri, e5⟩ := eF
    subst e5
    rw [← hF] at eb
    unfold lcT at eb
    cases et : bindT tg d ρc with
    | none => rw [et] at eb; cases eb
    | some ρt =>
    rw [et] at eb
    dsimp only at eb
    cases ey : body ρt with
    | err x ρx => rw [ey] at eb; cases eb
    | no => rw [ey] at eb; cases eb
    | ok o' ρ6 =>
    rw [ey, R.bind_ok] at eb
    simp only [R.ok.injEq] at eb
    obtain ⟨rfl, rfl⟩ := eb
    obtain ⟨r3, u3⟩ := r2.ext x3
    have h3D : H' D = some (.lst acc) := x3.h _ _ hacc
    have b3D : B3 D = none := by
      cases z : B3 D with
      | none => rfl
      | some w =>
        rcases x3.new _ _ z with z | z
        · rw [bD] at z; cases z
        · rw [hacc] at z; cases z
    have g3D : gext G2 B3 D = none := by unfold gext; rw [b3D]; exact gD
    have rg3 := r3.guard g3D fD
    refine hg hx rg3 et fun σt fpt rt lt kt => ?_
    have hwipe : L2.wipe σt vs = L2.wipe σ vs := by
      apply List.ext_getElem?
      intro n
      by_cases hj : n ∈ vs
      · have l1 : (L2.wipe σt vs).length = (L2.wipe σ vs).length := by rw [wipe_length, lt]
        by_cases hjl : n < (L2.wipe σt vs).length
        · rw [wipe_in hj (by rw [List.getElem?_eq_getElem hjl]; simp), wipe_in hj (by rw [List.getElem?_eq_getElem (by omega)]; simp)]
        · rw [List.getElem?_eq_none (by omega), List.getElem?_eq_none (by omega)]
      · rw [wipe_out hj]
        exact kt n fun z => hj (htg n z)
    refine ⟨hwipe, hb.run rt ey fun B4 G4 H4 fp4 u4 p4 r4 => ?_⟩
    have gD4 : ovr (gext G2 B3) H' [D] D = some (.lst acc) := by rw [ovr_in (by simp)]; exact h3D
    have hG4 : G4 D = some (.lst acc) := u4.g _ _ gD4
    have hH4 : H4 D = some (.lst acc) := r4.gh _ _ hG4
    have hB4 : B4 D = none := by
      cases z : B4 D with
      | none => rfl
      | some w => exact absurd b3D (u4.gd D (by rw [gD4]; simp) (by rw [z]; simp))
    have fD4 : ∀ n, D ∉ fp4 n := fun n z => by
      have := (r4.out n D z).1
      rw [hG4] at this; cases this
    have r5 := r4.unguard hB4 Z0
    have u5 : Up B3 (gext G2 B3) B4 (hide G4 [D]) := by
      have ne : ∀ a, gext G2 B3 a ≠ none → a ∉ [D] := fun a h z => by
        simp at z; subst z; exact h g3D
      refine ⟨u4.b, fun a o e => ?_, fun a h1 h2 => u4.gd a ?_ h2⟩
      · have ha := ne a (by rw [e]; simp)
        rw [hide_out ha]
        exact u4.g _ _ (by rw [ovr_out ha]; exact e)
      · rw [ovr_out (ne a h1)]; exact h1
    have u6 : Up B1 G1 B4 (hide G4 [D]) := (u2.trans u3).trans u5
    obtain ⟨fp6, r6, h6⟩ := r5.wipe vs
    rw [hwipe] at r6
    have fD6 : ∀ n, D ∉ fp6 n := fun n z => fD4 n (h6 n _ z)
    have hd0 : hide G4 [D] D = none := hide_in (by simp)
    cases o' with
    | none =>
      dsimp only at eri
      subst eri
      exact ⟨_, by omega, _, B4, _, fp6, ra, rj, acc, rfl, hlt, u6, fun z => (p2 z).trans (x3.h.trans (p4 z)), r6, hH4, (tacc.mono x3.b).mono u4.b, hd0, fD6, er, eres, by omega⟩
    | some dy =>
      dsimp only at eri
      subst eri
      intro y hy
      refine ⟨acc, hH4, ?_, ⟨_, by omega, _, B4, _, fp6, ra ++ [dy], rj, acc ++ [y], rfl, hlt, u6, fun z => ?_, r6.beside hd0 fD6, upd_same, ((tacc.mono x3.b).mono u4.b).append (.cons hy .nil), hd0, fD6, er, by rw [eres]; simp, by simp; omega⟩⟩
      · rw [tacc.length, sizeLine_eq]
        unfold LIM at hlim
        omega
      · intro a w e
        rw [upd_ne fun q => by rw [q, hD] at e; cases e]
        exact ((p2 z).trans (x3.h.trans (p4 z))) a w e
  · have hie : i = ds.length := by omega
    subst hie
    rw [List.drop_length] at eF
    simp only [lcF, R.ok.injEq] at eF
    obtain ⟨rfl, rfl⟩ := eF
    rw [List.append_nil] at eres
    subst eres
    refine .inl ⟨wk.stop _ H2 ((hW.trans u2.g).trans r2.gh) (Nat.le_refl _), ?_⟩
    have rb := r1.back u2.b hvs r2
    refine k B2 G2 H2 _ u2 p2 rb (.ref D) [D] (.l hacc (.of tacc)) (by simp) fun a ha => ?_
    have ha : a = D := by simpa using ha
    subst ha
    refine ⟨gD, fun j hj => ?_⟩
    try dsimp only at hj
    split at hj
    · cases hj
    · exact fD j hj
/-- [e for tg in w if c] -/
theorem rd_lc {vs : List Nat} {evw : Env → R (List D)} {tg : Tg} {g : TG} {tt : TT} {te : TE} {body : Env → R (Option D)} {pb : Bool} (hvs : ∀ v ∈ vs, C.κ[v]? = some .s) (htg : ∀ j ∈ tg.slots, j ∈ vs) (hg : TgOk C.blk g tg) (hb : Body C.blk tt te body pb)
    (σ : L2.St) (H : Hp) (Q : VK) : tN C (lcD vs tg evw body) (pa && pb) (.l .s) σ H Q → L2.tLc (tW C evw pa) g tt te vs σ H Q := fun ⟨ρ, B, G, fp, r, q⟩ => by
  have q : Post C B G H σ (pa && pb) _ _ := q
  refine ⟨ρ, B, G, fp, r, (q.bind (pu1 := pa) (pu2 := pb) rfl).mono fun ds B1 G1 H1 fp1 ρ1 _ _ r1 k J wk D hD => ?_⟩
  exact lc_turns hvs htg hg hb r1 k r1.bg wk hD
theorem te_lc {e : Expr} {vs : List Nat} {evw : Env → R (List D)} {tg : Tg} {g : TG} {tt : TT} {te : TE} {body : Env → R (Option D)} {pb : Bool} (hvs : ∀ v ∈ vs, C.κ[v]? = some .s) (htg : ∀ j ∈ tg.slots, j ∈ vs) (hg : TgOk C.blk g tg) (hb : Body C.blk tt te body pb)
    (h : PE X e (L2.tLc (tW C evw pa) g tt te vs)) : PE X e (tN C (lcD vs tg evw body) (pa && pb) (.l .s)) := PE.imp h (rd_lc hvs htg hg hb)
theorem te_lcp {e : Expr} {i : Nat} {vs : List Nat} {tg : Tg} {g : TG} {tt : TT} {te : TE} {body : Env → R (Option D)} {pb : Bool} (hk : C.κ[i]? = some (.l .s)) (hvs : ∀ v ∈ vs, C.κ[v]? = some .s) (htg : ∀ j ∈ tg.slots, j ∈ vs) (hg : TgOk C.blk g tg) (hb : Body C.blk tt te body pb)
    (h : PE X e (L2.tLc (iSeq C.K (tVar i)) g tt te vs)) : PE X e (tN C (lcpD i vs tg body) pb (.l .s)) := PE.imp h fun σ H Q ⟨ρ, B, G, fp, r, q⟩ => by
  have q : Post C B G H σ pb (lcpD i vs tg body ρ) (kN C (.l .s) Q) := q
  unfold lcpD at q
  cases e1 : gv ρ i with
  | none => rw [e1] at q; exact q.elim
  | some d =>
    rw [e1] at q
    obtain ⟨v, s, h1, h2, h3⟩ := r.at_ i d (gv_some e1)
    rw [hk] at h2; cases h2
    have rd := r.drop i
    have outi := r.out i
    have dji := r.dj i
    generalize fp i = as at h3 outi dji
    cases h3 with
    | l hH t =>
      obtain ⟨tv, rfl⟩ := t.all
      rename_i ds a vals
      dsimp only at q
      have Ga : G a = none := (outi a (by simp)).1
      have Ba : B a = none := r.bg.free Ga
      have Za : C.Z a = none := r.zg.free Ga
      have fa : ∀ j, a ∉ (fun j => if j = i then [] else fp j) j := fun j hj => by
        try dsimp only at hj
        split at hj
        · cases hj
        · rename_i hji
          exact dji j (fun z => hji z.symm) a (by simp) hj
      have r1 := rd.guard Ga fa
      refine ⟨.ref a, h1, a, rfl, .inl ⟨vals, .of hH, fun D hD => ?_⟩⟩
      refine lc_turns (ds := ds) (W1 := fun b => if b = a then some (.lst vals) else none) hvs htg hg hb r1 ?_ ?_ ?_ hD
      · cases hlc : lcB vs tg body ds (ρ.set i none) with
        | err x ρx =>
          exfalso
          unfold lcB at hlc
          split at hlc
          · cases hx : (lcF (lcT vs tg body) ds (wipeE (ρ.set i none) vs)) with
            | ok a b => rw [hx] at hlc; cases hlc
            | err a b => rw [hx] at hlc; cases hlc
            | no => rw [hx] at hlc; cases hlc
          · cases hlc
        | no => rw [hlc] at q; exact q.elim
        | ok res ρe =>
          rw [hlc] at q
          intro B' G' H' fp' u p r'
          have hG' : G' a = some (.lst vals) := u.g _ _ (by rw [ovr_in (by simp)]; exact hH)
          have hB' : B' a = none := by
            cases z : B' a with
            | none => rfl
            | some w => exact absurd Ba (u.gd a (by rw [ovr_in (by simp), hH]; simp) (by rw [z]; simp))
          have hH' : H' a = some (.lst vals) := r'.gh _ _ hG'
          have fa' : ∀ j, a ∉ fp' j := fun j z => by
            have := (r'.out j a z).1
            rw [hG'] at this; cases this
          have r2 := r'.unguard hB' Za
          have u2 : Up B G B' (hide G' [a]) := by
            have ne : ∀ b, G b ≠ none → b ∉ [a] := fun b hn z => by
              simp at z; subst z; exact hn Ga
            refine ⟨u.b, fun b o e => ?_, fun b hn hm => u.gd b ?_ hm⟩
            · have hb := ne b (by rw [e]; simp)
              rw [hide_out hb]
              exact u.g _ _ (by rw [ovr_out hb]; exact e)
            · rw [ovr_out (ne b hn)]; exact hn
          have hide0 : ∀ b, G' b = none → hide G' [a] b = none := fun b hb => by
            by_cases hm : b ∈ [a]
            · exact hide_in hm
            · rw [hide_out hm]; exact hb
          have r3 := r2.put (i := i) (s := .l .s) (v := .ref a) (d := .list ds) (as := [a]) hk h1 (.l hH' (.of (tv.mono u.b))) (by simp) (Same.refl _) r2.bg r2.gh r2.zg
            (fun j hj b hb => ⟨(r2.out j b hb).1, fun z => by simp at z; subst z; exact fa' j hb, fun o e => e⟩) (fun b hb => by simp at hb; subst hb; exact ⟨hide_in (by simp), _, hH'⟩)
          intro v as ow nd out
          refine q B' (hide G' [a]) H' _ u2 p r3 v as ow nd fun b hb => ⟨hide0 b (out b hb).1, fun j hj => ?_⟩
          try dsimp only at hj
          split at hj
          · simp at hj; subst hj
            have := (out _ hb).1
            rw [hG'] at this; cases this
          · exact (out b hb).2 j hj
      · intro b o e
        try dsimp only at e
        split at e
        · rename_i hb
          subst hb; cases e
          rw [ovr_in (by simp)]; exact hH
        · cases e
      · have at_ : ∀ {H : Hp}, Same (fun b => if b = a then some (HO.lst vals) else none) H → H a = some (.lst vals) := fun e => e _ _ (by simp)
        refine ⟨fun k H e hk => ?_, fun k H e hk => ?_, fun k H x H' B1 b1 e w y hk => ?_⟩
        · obtain ⟨v, z, _⟩ := tv.get (List.getElem?_eq_getElem hk)
          exact ⟨vals, v, .of (at_ e), z⟩
        · exact ⟨vals, .of (at_ e), by rw [tv.length]; exact hk⟩
        · obtain ⟨rfl, y⟩ := y
          obtain ⟨d, z1, z2⟩ := tv.get' (y vals (.of (at_ w)))
          exact ⟨d, B1, z1, Ext.refl e, z2.mono b1⟩
end
end TV

/-! V12: records; statements. -/
namespace TV
open PySem PySem.Spec PyProof.Rows L2
section
variable {C : Ct} {K : PySem.W.Frag} {κ : List Sh} {Z B G H B' G' H' : Hp} {σ : L2.St} {ρ ρ' : Env} {fp fp' : Nat → List Addr}
variable {X : Cx} {a b c : Expr} {pos : Pos} {ev eva evb evc : Env → R D} {pa pb pc pu : Bool}
theorem Rel.guardL (r : Rel K κ Z B G H ρ σ fp) {as : List Addr} (h : ∀ a ∈ as, G a = none ∧ ∀ i, a ∉ fp i) : Rel K κ Z B (ovr G H as) H ρ σ fp := by
  have hs : Same G (ovr G H as) := same_ovr fun a ha => (h a ha).1
  refine ⟨r.bg.trans hs, ovr_le r.gh, r.zg.trans hs, r.len, r.at_, r.nd, r.dj, fun i a ha => ?_⟩
  obtain ⟨g, o⟩ := r.out i a ha
  exact ⟨by rw [ovr_out fun z => (h a z).2 i ha]; exact g, o⟩
theorem Rel.unguardL (r : Rel K κ Z B G H ρ σ fp) {as : List Addr} (hB : ∀ a ∈ as, B a = none) (hZ : ∀ a ∈ as, Z a = none) : Rel K κ Z B (hide G as) H ρ σ fp := by
  refine ⟨fun a o e => ?_, fun a o e => ?_, fun a o e => ?_, r.len, r.at_, r.nd, r.dj, fun i a ha => ?_⟩
  · rw [hide_out fun z => by rw [hB a z] at e; cases e]; exact r.bg _ _ e
  · by_cases hd : a ∈ as
    · rw [hide_in hd] at e; cases e
    · rw [hide_out hd] at e; exact r.gh _ _ e
  · rw [hide_out fun z => by rw [hZ a z] at e; cases e]; exact r.zg _ _ e
  · obtain ⟨g, o⟩ := r.out i a ha
    refine ⟨?_, o⟩
    by_cases hd : a ∈ as
    · exact hide_in hd
    · rw [hide_out hd]; exact g
/-- behind something held: what is held is as it was -/
structure Held (B G H : Hp) (fp : Nat → List Addr) (H0 : Hp) (as : List Addr) : Prop where
  h : ∀ a ∈ as, H a = H0 a
  g : ∀ a ∈ as, G a ≠ none
  b : ∀ a ∈ as, B a = none
  f : ∀ a ∈ as, ∀ i, a ∉ fp i
theorem held_of {as : List Addr} (hG : ∀ a ∈ as, G a = none) (hH : ∀ a ∈ as, ∃ o, H a = some o) (bg : Same B G) (u : Up B (ovr G H as) B' G') (r : Rel K κ Z B' G' H' ρ σ fp) : Held B' G' H' fp H as ∧ Up B G B' (hide G' as) := by
  have key : ∀ a ∈ as, ∃ o, H a = some o ∧ G' a = some o := fun a ha => by
    obtain ⟨o, e⟩ := hH a ha
    exact ⟨o, e, u.g _ _ (by rw [ovr_in ha]; exact e)⟩
  have hB : ∀ a ∈ as, B' a = none := fun a ha => by
    cases z : B' a with
    | none => rfl
    | some w =>
      obtain ⟨o, e, _⟩ := key a ha
      have := u.gd a (by rw [ovr_in ha, e]; simp) (by rw [z]; simp)
      exact absurd (bg.free (hG a ha)) this
  refine ⟨⟨fun a ha => ?_, fun a ha => ?_, hB, fun a ha i z => ?_⟩, u.b, fun a o e => ?_, fun a h1 h2 => u.gd a ?_ h2⟩
  · obtain ⟨o, e, g⟩ := key a ha
    rw [e]; exact r.gh _ _ g
  · obtain ⟨o, e, g⟩ := key a ha
    rw [g]; simp
  · obtain ⟨o, e, g⟩ := key a ha
    have := (r.out i a z).1
    rw [g] at this; cases this
  · have ha : a ∉ as := fun z => by rw [hG a z] at e; cases e
    rw [hide_out ha]
    exact u.g _ _ (by rw [ovr_out ha]; exact e)
  · have ha : a ∉ as := fun z => h1 (hG a z)
    rw [ovr_out ha]; exact h1
theorem Post.hold {α : Type} {r : R α} {k : α → Hp → Hp → Hp → (Nat → List Addr) → Env → Prop} {as : List Addr} (h : Post C B G H σ pu r k) (hG : ∀ a ∈ as, G a = none) (hH : ∀ a ∈ as, ∃ o, H a = some o) (bg : Same B G) (zg : Same C.Z G) :
    Post C B (ovr G H as) H σ pu r fun x B' G' H' fp' ρ' => k x B' (hide G' as) H' fp' ρ' ∧ Held B' G' H' fp' H as := by
  have hZ : ∀ a ∈ as, C.Z a = none := fun a ha => zg.free (hG a ha)
  cases r with
  | ok x ρ' =>
    intro B' G' H' fp' u p r'
    obtain ⟨hd, u'⟩ := held_of hG hH bg u r'
    exact ⟨h B' _ H' fp' u' p (r'.unguardL hd.b hZ), hd⟩
  | err x ρ' =>
    intro cls dx B' G' H' fp' u r'
    obtain ⟨hd, u'⟩ := held_of hG hH bg u r'
    exact h cls dx B' _ H' fp' u' (r'.unguardL hd.b hZ)
  | no => exact h
theorem Post.bigger {α : Type} {r : R α} {k : α → Hp → Hp → Hp → (Nat → List Addr) → Env → Prop} (h : Post C B G H σ pu r k) (s : Same H H') : Post C B G H' σ pu r k := by
  cases r with
  | ok x ρ' => exact fun B' G' H2 fp' u p r' => h B' G' H2 fp' u (fun z => s.trans (p z)) r'
  | err x ρ' => exact h
  | no => exact h
/-- the pairs of a record's display -/
inductive RecR (C : Ct) : List (Str × Bool) → (Env → R (List D)) → Bool → List (TE × TE) → Prop where
  | nil : RecR C [] (fun ρ => .ok [] ρ) true []
  | cons {k : Str} {b : Bool} {ks : List (Str × Bool)} {eva : Env → R D} {evs : Env → R (List D)} {pa pb : Bool} {trs : List (TE × TE)} : RecR C ks evs pb trs →
      RecR C ((k, b) :: ks) (fun ρ => (eva ρ).bind fun d ρ => (evs ρ).bind fun ds ρ => .ok (d :: ds) ρ) (pa && pb) ((tC (.str k), tN C eva pa (fSh b)) :: trs)
theorem rec_run {ks : List (Str × Bool)} {evs : Env → R (List D)} {trs : List (TE × TE)} (h : RecR C ks evs pu trs) : ∀ {σ : L2.St} {B G H : Hp} {ρ : Env} {fp : Nat → List Addr} {Q : List (V × V) → Hp → Prop}, Rel C.K C.κ C.Z B G H ρ σ fp →
    Post C B G H σ pu (evs ρ) (fun ds B' G' H' fp' _ => ∀ kvs as, OwF C.K B' C.Z H' ks ds kvs as → as.Nodup → (∀ a ∈ as, G' a = none ∧ ∀ i, a ∉ fp' i) → Q (kvs.map fun kv => (kV kv.1, kv.2)) H') → tPairs trs σ H Q := by
  induction h with
  | nil => exact fun {σ B G H ρ fp Q} r q => q B G H fp .refl (fun _ => Same.refl _) r [] [] .nil List.nodup_nil (fun _ ha => by cases ha)
  | cons _ ih =>
    rename_i k b ks eva evs pa pb trs _
    intro σ B G H ρ fp Q r q
    show tN C eva pa (fSh b) σ H fun y H2 => tPairs trs σ H2 fun ps H3 => Q ((.str k, y) :: ps) H3
    refine ⟨ρ, B, G, fp, r, (q.bind (pu1 := pa) (pu2 := pb) rfl).mono fun d B1 G1 H1 fp1 ρ1 _ _ r1 kk v as1 ow1 nd1 out1 => ?_⟩
    have hin := ow1.inH
    have kk := ((kk.bind (pu1 := pb) (pu2 := true) (by simp)).hold (as := as1) (fun a ha => (out1 a ha).1) hin r1.bg r1.zg)
    refine ih (r1.guardL out1) (kk.mono fun ds B2 G2 H2 fp2 ρ2 u2 _ r2 ⟨k2, hd⟩ kvs as ow nd out => ?_)
    have r3 := r2.unguardL hd.b (fun a ha => r1.zg.free (out1 a ha).1)
    have k3 := k2 B2 _ H2 fp2 .refl (fun _ => Same.refl _) r3
    refine k3 ((.inr k, v) :: kvs) (as1 ++ as) (.cons (ow1.mono u2.b (Same.refl _) fun a ha o e => by rw [hd.h a ha]; exact e) ow) ?_ fun a ha => ?_
    · rw [List.nodup_append]
      exact ⟨nd1, nd, fun x hx y hy z => hd.g x hx (by rw [z]; exact (out y hy).1)⟩
    · rcases List.mem_append.mp ha with ha | ha
      · exact ⟨hide_in ha, hd.f a ha⟩
      · exact ⟨by rw [hide_out fun z => hd.g a z (out a ha).1]; exact (out a ha).1, (out a ha).2⟩
theorem mergeK_new : ∀ {more kvs : List (Key × V)}, ((kvs ++ more).map (·.1)).Nodup → mergeK kvs more = kvs ++ more
  | [], kvs, _ => by simp [mergeK]
  | (k, v) :: r, kvs, h => by
    have hn : valV kvs k = none := by
      have hk : ∀ q ∈ kvs, q.1 ≠ k := fun q hq e => by
        rw [List.map_append, List.nodup_append] at h
        exact h.2.2 q.1 (List.mem_map.mpr ⟨q, hq, rfl⟩) k (by simp) e
      unfold valV
      rw [List.find?_eq_none.mpr (fun q hq => by simpa using hk q hq)]
      rfl
    show mergeK (putK kvs k v) r = _
    rw [putK_new v hn]
    rw [mergeK_new (by simpa using h)]
    simp
theorem te_rec {e : Expr} {ks : List (Str × Bool)} {evs : Env → R (List D)} {trs : List (TE × TE)} (h15 : ks.length ≤ 15) (hnd : (ks.map (·.1)).Nodup) (hR : RecR C ks evs pu trs) (h : PE X e (L2.tDisp trs)) :
    PE X e (tN C (fun ρ => (evs ρ).bind fun ds ρ => .ok (.tuple ds) ρ) false (.r ks)) := PE.imp h fun σ H Q ⟨ρ, B, G, fp, r, q⟩ => by
  have q : Post C B G H σ false _ _ := q
  intro p hp
  have hGp : G p = none := r.gh.free hp
  have hfp : ∀ i, p ∉ fp i := fun i z => by obtain ⟨_, o, e⟩ := r.out i p z; rw [hp] at e; cases e
  have r1 := r.beside (o := .dK []) hGp hfp
  have q1 := ((q.bind (pu1 := pu) (pu2 := false) (by simp)).bigger (H' := upd H p (.dK [])) (same_upd hp _)).hold (as := [p]) (fun a ha => by simp at ha; subst ha; exact hGp) (fun a ha => by simp at ha; subst ha; exact ⟨_, upd_same⟩) r.bg r.zg
  refine rec_run hR (r1.guardL (as := [p]) fun a ha => by simp at ha; subst ha; exact ⟨hGp, hfp⟩) (q1.mono fun ds B2 G2 H2 fp2 ρ2 u2 _ r2 ⟨k2, hd⟩ kvs as ow nd out => ?_)
  have hpp : p ∈ [p] := by simp
  have hkeys := ow.keys
  have knd : (kvs.map (·.1)).Nodup := by
    rw [hkeys.1]
    have z := nodup_inr hnd
    rw [List.map_map] at z
    exact z
  refine ⟨by rw [hd.h p hpp]; exact upd_same, kvs, rfl, by rw [hkeys.2.2]; exact h15, ?_⟩
  rw [mergeK_new (kvs := []) (by simpa using knd), List.nil_append]
  have pas : p ∉ as := fun z => hd.g p hpp (out p z).1
  have r3 := (r2.unguardL hd.b (fun a ha => by simp at ha; subst ha; exact r.zg.free hGp)).beside (o := .dK kvs) (hide_in hpp) (fun i => hd.f p hpp i)
  refine k2 B2 _ _ fp2 .refl (fun z => by cases z) r3 (.ref p) (p :: as) (.r upd_same (ow.mono (Same.refl _) (Same.refl _) fun a ha o e => by rw [upd_ne fun z => pas (by rw [← z]; exact ha)]; exact e)) (List.nodup_cons.mpr ⟨pas, nd⟩) fun a ha => by
    rcases List.mem_cons.mp ha with e | ha2
    · rw [e]; exact ⟨hide_in hpp, hd.f p hpp⟩
    · exact ⟨by
        rw [hide_out fun z => pas (by rw [← List.mem_singleton.mp z]; exact ha2)]
        exact (out a ha2).1, (out a ha2).2⟩
end
end TV

/-! V13: statements. -/
namespace TV
open PySem PySem.Spec PyProof.Rows L2
/-- the slots that are never stored to -/
def Fx (C : Ct) (σ : L2.St) : Prop := ∀ p ∈ C.fix, σ[p.1]? = some (some p.2)
/-- what a statement is to reach -/
def PostX (C : Ct) (B G H : Hp) (f : Fl) (D : Ends) : Prop := match f with
  | .nx ρ' => ∀ σ' B' G' H' fp', Up B G B' G' → Rel C.K C.κ C.Z B' G' H' ρ' σ' fp' → Fx C σ' → D.nx σ' H'
  | .ct ρ' => ∀ σ' B' G' H' fp', Up B G B' G' → Rel C.K C.κ C.Z B' G' H' ρ' σ' fp' → Fx C σ' → D.ct σ' H'
  | .brk ρ' => ∀ σ' B' G' H' fp', Up B G B' G' → Rel C.K C.κ C.Z B' G' H' ρ' σ' fp' → Fx C σ' → D.bk σ' H'
  | .ret d ρ' => ∀ v σ' B' G' H' fp' as, Up B G B' G' → Rel C.K C.κ C.Z B' G' H' ρ' σ' fp' → Fx C σ' → Ow C.K B' C.Z H' C.ret d v as → as.Nodup → (∀ a ∈ as, G' a = none ∧ ∀ i, a ∉ fp' i) → D.rt v H'
  | .err x ρ' => ∀ cls dx σ' B' G' H' fp', Up B G B' G' → Rel C.K C.κ C.Z B' G' H' ρ' σ' fp' → Fx C σ' → C.EX x cls dx B' H' → C.W cls dx σ' H'
  | .no => False
/-- a statement's reading -/
def tX (C : Ct) (ex : Env → Fl) : TS := fun D σ H => ∃ ρ B G fp, Rel C.K C.κ C.Z B G H ρ σ fp ∧ Fx C σ ∧ PostX C B G H (ex ρ) D
section
variable {C : Ct} {K : PySem.W.Frag} {κ : List Sh} {Z B G H B' G' H' : Hp} {σ : L2.St} {ρ ρ' : Env} {fp fp' : Nat → List Addr}
variable {X : Cx} {a b c : Expr} {pos : Pos} {ev eva evb evc : Env → R PyData} {pa pb pc pu : Bool} {D : Ends} {ex exa exb : Env → Fl}
theorem PS.imp {st : Stmt} {t t' : TS} (h : PS X st t) (i : ∀ D σ H, t' D σ H → t D σ H) : PS X st t' := ⟨fun pins s σ H D I q => h.run pins s σ H D I (i D σ H q)⟩
theorem PSs.imp {st : List Stmt} {t t' : TS} (h : PSs X st t) (i : ∀ D σ H, t' D σ H → t D σ H) : PSs X st t' := ⟨fun pins s σ H D I q => h.run pins s σ H D I (i D σ H q)⟩
/-- from an expression on -/
theorem PostX.fl {α : Type} {r : R α} {g : α → Env → Fl} (h : PostX C B G H (r.fl g) D) (fx : Fx C σ) (pu : Bool) : Post C B G H σ pu r fun a B1 G1 H1 _ ρ1 => PostX C B1 G1 H1 (g a ρ1) D := by
  cases r with
  | ok a ρ1 =>
    intro B1 G1 H1 fp1 u p r1
    have h : PostX C B G H (g a ρ1) D := h
    cases q : g a ρ1 with
    | nx ρ2 => rw [q] at h; exact fun σ' B' G' H' fp' u' => h σ' B' G' H' fp' (u.trans u')
    | ct ρ2 => rw [q] at h; exact fun σ' B' G' H' fp' u' => h σ' B' G' H' fp' (u.trans u')
    | brk ρ2 => rw [q] at h; exact fun σ' B' G' H' fp' u' => h σ' B' G' H' fp' (u.trans u')
    | ret d ρ2 => rw [q] at h; exact fun v σ' B' G' H' fp' as u' => h v σ' B' G' H' fp' as (u.trans u')
    | err x ρ2 => rw [q] at h; exact fun cls dx σ' B' G' H' fp' u' => h cls dx σ' B' G' H' fp' (u.trans u')
    | no => rw [q] at h; exact h
  | err x ρ1 => exact fun cls dx B' G' H' fp' u r' e => h cls dx σ B' G' H' fp' u r' fx e
  | no => exact h
theorem PostX.up {B1 G1 H1 : Hp} {f : Fl} (h : PostX C B G H f D) (u : Up B G B1 G1) : PostX C B1 G1 H1 f D := by
  cases f with
  | nx ρ2 => exact fun σ' B' G' H' fp' u' => h σ' B' G' H' fp' (u.trans u')
  | ct ρ2 => exact fun σ' B' G' H' fp' u' => h σ' B' G' H' fp' (u.trans u')
  | brk ρ2 => exact fun σ' B' G' H' fp' u' => h σ' B' G' H' fp' (u.trans u')
  | ret d ρ2 => exact fun v σ' B' G' H' fp' as u' => h v σ' B' G' H' fp' as (u.trans u')
  | err x ρ2 => exact fun cls dx σ' B' G' H' fp' u' => h cls dx σ' B' G' H' fp' (u.trans u')
  | no => exact h
/-- one statement behind another -/
theorem PostX.thn {f : Fl} {g : Env → Fl} (h : PostX C B G H (f.thn g) D) : PostX C B G H f { D with nx := fun σ' H' => tX C g D σ' H' } := by
  cases f with
  | nx ρ1 => exact fun σ' B' G' H' fp' u r fx => ⟨ρ1, B', G', fp', r, fx, (show PostX C B G H (g ρ1) D from h).up u⟩
  | ct ρ2 => exact h
  | brk ρ2 => exact h
  | ret d ρ2 => exact h
  | err x ρ2 => exact h
  | no => exact h
theorem tx_seq {sts : List Stmt} (h : PSs X sts (tSeq (tX C exa) (tX C exb))) : PSs X sts (tX C fun ρ => (exa ρ).thn exb) := PSs.imp h fun D σ H ⟨ρ, B, G, fp, r, fx, q⟩ => ⟨ρ, B, G, fp, r, fx, q.thn⟩
theorem tx_nil {sts : List Stmt} (h : PSs X sts tNext) : PSs X sts (tX C .nx) := PSs.imp h fun D σ H ⟨ρ, B, G, fp, r, fx, q⟩ => q σ B G H fp .refl r fx
theorem tx_pass {st : Stmt} (h : PS X st tNext) : PS X st (tX C .nx) := PS.imp h fun D σ H ⟨ρ, B, G, fp, r, fx, q⟩ => q σ B G H fp .refl r fx
theorem tx_brk {st : Stmt} (h : PS X st tBreak) : PS X st (tX C .brk) := PS.imp h fun D σ H ⟨ρ, B, G, fp, r, fx, q⟩ => q σ B G H fp .refl r fx
theorem tx_ct {st : Stmt} (h : PS X st tCont) : PS X st (tX C .ct) := PS.imp h fun D σ H ⟨ρ, B, G, fp, r, fx, q⟩ => q σ B G H fp .refl r fx
theorem tx_retN {st : Stmt} (hr : C.ret = .s) (h : PS X st tRetN) : PS X st (tX C fun ρ => .ret .none ρ) := PS.imp h fun D σ H ⟨ρ, B, G, fp, r, fx, q⟩ =>
  q .non σ B G H fp [] .refl r fx (by rw [hr]; exact .s .non) List.nodup_nil (fun _ ha => by cases ha)
theorem tx_ret {st : Stmt} {sh : Sh} (hr : C.ret = sh) (h : PS X st (L2.tRet (tN C ev pu sh))) : PS X st (tX C fun ρ => (ev ρ).fl .ret) := PS.imp h fun D σ H ⟨ρ, B, G, fp, r, fx, q⟩ =>
  ⟨ρ, B, G, fp, r, (q.fl fx pu).mono fun d B' G' H' fp' ρ' u _ r' k v as ow nd out => k v σ B' G' H' fp' as .refl r' fx (by rw [hr]; exact ow) nd out⟩
theorem tx_ex {st : Stmt} (h : PS X st (L2.tDrop (tS C ev pu))) : PS X st (tX C fun ρ => (ev ρ).fl fun _ ρ => .nx ρ) := PS.imp h fun D σ H ⟨ρ, B, G, fp, r, fx, q⟩ =>
  ⟨ρ, B, G, fp, r, (q.fl fx pu).mono fun d B' G' H' fp' ρ' u _ r' k v hv => k σ B' G' H' fp' .refl r' fx⟩
theorem tx_if {st : Stmt} (h : PS X st (L2.tIfS (tBo C evc pc) (tX C exa) (tX C exb))) : PS X st (tX C fun ρ => (evc ρ).fl fun x ρ => match x with
    | .bool true => exa ρ
    | .bool false => exb ρ
    | _ => .no) := PS.imp h fun D σ H ⟨ρ, B, G, fp, r, fx, q⟩ =>
  ⟨ρ, B, G, fp, r, (q.fl fx pc).mono fun d B' G' H' fp' ρ' u _ r' k => by
    cases d with
    | bool b =>
      refine ⟨b, rfl, ?_⟩
      cases b with
      | true => exact ⟨ρ', B', G', fp', r', fx, k⟩
      | false => exact ⟨ρ', B', G', fp', r', fx, k⟩
    | _ => exact k.elim⟩
theorem Fx.keep {σ' : L2.St} {ss : List Nat} (fx : Fx C σ) (h : ∀ p ∈ C.fix, p.1 ∉ ss) (k : ∀ j, j ∉ ss → σ'[j]? = σ[j]?) : Fx C σ' := fun p hp => by rw [k p.1 (h p hp)]; exact fx p hp
/-- target = shared -/
theorem tx_asg {st : Stmt} {g : TG} {tg : Tg} (hf : ∀ p ∈ C.fix, p.1 ∉ tg.slots) (hg : TgOk C g tg) (h : PS X st (L2.tAsg (tS C ev pu) g)) : PS X st (tX C fun ρ => (ev ρ).fl fun d ρ => Fl.of (bindT tg d ρ)) := PS.imp h fun D σ H ⟨ρ, B, G, fp, r, fx, q⟩ =>
  ⟨ρ, B, G, fp, r, (q.fl fx pu).mono fun d B' G' H' fp' ρ' u _ r' k v hv => by
    cases e : bindT tg d ρ' with
    | none => rw [e] at k; exact k.elim
    | some ρ2 =>
      rw [e] at k
      exact hg hv r' e fun σ2 fp2 r2 _ k2 => k σ2 B' G' H' fp2 .refl r2 (fx.keep hf k2)⟩
/-- name = natural -/
theorem tx_set {st : Stmt} {i : Nat} {sh : Sh} (hf : ∀ p ∈ C.fix, p.1 ≠ i) (hk : C.κ[i]? = some sh) (h : PS X st (L2.tAsg (tN C ev pu sh) (gName i))) : PS X st (tX C fun ρ => (ev ρ).fl fun d ρ => Fl.of (bindT (.v i) d ρ)) := PS.imp h fun D σ H ⟨ρ, B, G, fp, r, fx, q⟩ =>
  ⟨ρ, B, G, fp, r, (q.fl fx pu).mono fun d B' G' H' fp' ρ' u _ r' k v as ow nd out => k _ B' G' H' _ .refl (r'.store hk ow nd out) (fx.keep (ss := [i]) (fun p hp => by simpa using hf p hp) fun j hj => List.getElem?_set_ne (fun z => hj (by simp [z])))⟩
/-- several names, several naturals: their footprints beside one another -/
inductive ParR (C : Ct) : List Sh → (Env → R (List PyData)) → TA → Prop where
  | nil : ParR C [] (fun ρ => .ok [] ρ) L2.tNil
  | cons {sh : Sh} {shs : List Sh} {eva : Env → R PyData} {evs : Env → R (List PyData)} {pa : Bool} {t : TA} : ParR C shs evs t → ParR C (sh :: shs) (fun ρ => (eva ρ).bind fun d ρ => (evs ρ).bind fun ds ρ => .ok (d :: ds) ρ) (L2.tCons (tN C eva pa sh) t)
/-- values beside one another -/
inductive OwL (K : PySem.W.Frag) (B Z H : Hp) : List Sh → List PyData → List V → List (List Addr) → Prop where
  | nil : OwL K B Z H [] [] [] []
  | cons {s : Sh} {d : PyData} {v : V} {as : List Addr} {ss : List Sh} {ds : List PyData} {vs : List V} {fs : List (List Addr)} : Ow K B Z H s d v as → OwL K B Z H ss ds vs fs → OwL K B Z H (s :: ss) (d :: ds) (v :: vs) (as :: fs)
theorem par_run {shs : List Sh} {evs : Env → R (List PyData)} {t : TA} (h : ParR C shs evs t) : ∀ {σ : L2.St} {B G H : Hp} {ρ : Env} {fp : Nat → List Addr} {Q : List V → Hp → Prop}, Rel C.K C.κ C.Z B G H ρ σ fp →
    Post C B G H σ false (evs ρ) (fun ds B' G' H' fp' _ => ∀ vs fs, OwL C.K B' C.Z H' shs ds vs fs → fs.flatten.Nodup → (∀ a ∈ fs.flatten, G' a = none ∧ ∀ i, a ∉ fp' i) → Q vs H') → t σ H Q := by
  induction h with
  | nil => exact fun {σ B G H ρ fp Q} r q => q B G H fp .refl (fun z => by cases z) r [] [] .nil List.nodup_nil (fun _ ha => by cases ha)
  | cons _ ih =>
    rename_i sh shs eva evs pa t _
    intro σ B G H ρ fp Q r q
    refine ⟨ρ, B, G, fp, r, (q.bind (pu1 := pa) (pu2 := false) (by simp)).mono fun d B1 G1 H1 fp1 ρ1 _ _ r1 kk v as1 ow1 nd1 out1 => ?_⟩
    have kk := ((kk.bind (pu1 := false) (pu2 := true) (by simp)).hold (as := as1) (fun a ha => (out1 a ha).1) ow1.inH r1.bg r1.zg)
    refine ih (r1.guardL out1) (kk.mono fun ds B2 G2 H2 fp2 ρ2 u2 _ r2 ⟨k2, hd⟩ vs fs ow nd out => ?_)
    have r3 := r2.unguardL hd.b (fun a ha => r1.zg.free (out1 a ha).1)
    have k3 := k2 B2 _ H2 fp2 .refl (fun _ => Same.refl _) r3
    refine k3 (v :: vs) (as1 :: fs) (.cons (ow1.mono u2.b (Same.refl _) fun a ha o e => by rw [hd.h a ha]; exact e) ow) ?_ fun a ha => ?_
    · rw [List.flatten_cons, List.nodup_append]
      exact ⟨nd1, nd, fun x hx y hy z => hd.g x hx (by rw [z]; exact (out y hy).1)⟩
    · rw [List.flatten_cons] at ha
      rcases List.mem_append.mp ha with ha | ha
      · exact ⟨hide_in ha, hd.f a ha⟩
      · exact ⟨by rw [hide_out fun z => hd.g a z (out a ha).1]; exact (out a ha).1, (out a ha).2⟩
/-- names stored from the left -/
theorem store_all : ∀ {is : List Nat} {shs : List Sh} {ds : List PyData} {vs : List V} {fs : List (List Addr)} {σ : L2.St} {ρ ρ' : Env} {fp : Nat → List Addr}, is.map (fun i => C.κ[i]?) = shs.map some → OwL C.K B C.Z H shs ds vs fs → fs.flatten.Nodup →
    (∀ a ∈ fs.flatten, G a = none ∧ ∀ i, a ∉ fp i) → Rel C.K C.κ C.Z B G H ρ σ fp → bindL is ds ρ = some ρ' → ∃ σ' fp', Rel C.K C.κ C.Z B G H ρ' σ' fp' ∧ σ' = (is.zip vs).foldl (fun s q => s.set q.1 (some q.2)) σ ∧ is.length = vs.length
  | [], [], _, _, _, σ, ρ, ρ', fp, _, .nil, _, _, r, e => by
    simp only [bindL, Option.some.injEq] at e; subst e
    exact ⟨σ, fp, r, rfl, rfl⟩
  | i :: is, sh :: shs, d :: ds, v :: vs, as :: fs, σ, ρ, ρ', fp, hk, .cons ow t, nd, out, r, e => by
    simp only [List.map_cons, List.cons.injEq] at hk
    rw [List.flatten_cons, List.nodup_append] at nd
    simp only [bindL] at e
    have r1 := r.store hk.1 ow nd.1 (fun a ha => out a (by rw [List.flatten_cons]; exact List.mem_append_left _ ha))
    obtain ⟨σ', fp', h1, h2, h3⟩ := store_all hk.2 t nd.2.1 (fun a ha => ⟨(out a (by rw [List.flatten_cons]; exact List.mem_append_right _ ha)).1, fun j hj => by
      try dsimp only at hj
      split at hj
      · exact nd.2.2 a hj a ha rfl
      · exact (out a (by rw [List.flatten_cons]; exact List.mem_append_right _ ha)).2 j hj⟩) r1 e
    exact ⟨σ', fp', h1, by rw [h2]; rfl, by simp [h3]⟩
  | [], _ :: _, _, _, _, _, _, _, _, hk, _, _, _, _, _ => by simp at hk
  | _ :: _, [], _, _, _, _, _, _, _, hk, _, _, _, _, _ => by simp at hk
theorem fold_keep : ∀ {is : List Nat} {vs : List V} {σ : L2.St} {j : Nat}, j ∉ is → ((is.zip vs).foldl (fun s q => s.set q.1 (some q.2)) σ)[j]? = σ[j]?
  | [], _, _, _, _ => rfl
  | _ :: _, [], _, _, _ => rfl
  | i :: is, v :: vs, σ, j, h => by
    simp only [List.mem_cons, not_or] at h
    simp only [List.zip_cons_cons, List.foldl_cons]
    rw [fold_keep h.2, List.getElem?_set_ne (fun z => h.1 z.symm)]
theorem tx_par {st : Stmt} {is : List Nat} {shs : List Sh} {evs : Env → R (List PyData)} {t : TA} (hf : ∀ p ∈ C.fix, p.1 ∉ is) (hk : is.map (fun i => C.κ[i]?) = shs.map some) (hp : ParR C shs evs t)
    (h : PS X st fun D σ H => t σ H fun vs H1 => is.length = vs.length → (is.zip vs).length = is.length → D.nx ((is.zip vs).foldl (fun s q => s.set q.1 (some q.2)) σ) H1) :
    PS X st (tX C fun ρ => (evs ρ).fl fun ds ρ => Fl.of (bindL is ds ρ)) := PS.imp h fun D σ H ⟨ρ, B, G, fp, r, fx, q⟩ =>
  par_run hp r ((q.fl fx false).mono fun ds B' G' H' fp' ρ' u _ r' k vs fs ow nd out hl _ => by
    cases e : bindL is ds ρ' with
    | none => rw [e] at k; exact k.elim
    | some ρ2 =>
      rw [e] at k
      obtain ⟨σ2, fp2, h1, h2, _⟩ := store_all hk ow nd out r' e
      subst h2
      exact k _ B' G' H' fp2 .refl h1 (fx.keep hf fun j hj => fold_keep hj))
end
end TV

/-! V14: loops; what is done to places. -/
namespace TV
open PySem PySem.Spec PyProof.Rows L2
section
variable {C : Ct} {K : PySem.W.Frag} {κ : List Sh} {Z B G H B' G' H' : Hp} {σ : L2.St} {ρ ρ' : Env} {fp fp' : Nat → List Addr}
variable {X : Cx} {a b c : Expr} {pos : Pos} {ev eva evb evc : Env → R PyData} {pa pb pc pu : Bool} {exa exb : Env → Fl}
theorem tx_for {st : Stmt} {evw : Env → R (List PyData)} {g : TG} {tg : Tg} (hf : ∀ p ∈ C.fix, p.1 ∉ tg.slots) (hg : TgOk C g tg) (h : PS X st (L2.tFor (tW C evw pa) g (tX C exb))) :
    PS X st (tX C fun ρ => (evw ρ).fl fun ds ρ => forF (forT tg exb) ds ρ) := PS.imp h fun DE σ H ⟨ρ, B, G, fp, r, fx, q⟩ => by
  refine ⟨ρ, B, G, fp, r, (q.fl fx pa).mono fun ds B1 G1 H1 fp1 ρ1 u1 _ r1 k J wk => ?_⟩
  refine ⟨fun i m σ H => ∃ ρ B G fp, m = ds.length - i ∧ i ≤ ds.length ∧ Up B1 G1 B G ∧ Rel C.K C.κ C.Z B G H ρ σ fp ∧ Fx C σ ∧ PostX C B G H (forF (forT tg exb) (ds.drop i) ρ) DE, ⟨ds.length, ρ1, B1, G1, fp1, by simp, Nat.zero_le _, .refl, r1, fx, by simpa using k⟩, ?_⟩
  rintro i m σ2 H2 ⟨ρ2, B2, G2, fp2, rfl, hi, u2, r2, fx2, k2⟩
  by_cases hlt : i < ds.length
  · refine .inr ⟨wk.go i H2 (u2.b.trans r2.bh) hlt, fun σ' H' => ∃ m', m' < ds.length - i ∧ ∃ ρ B G fp, m' = ds.length - (i + 1) ∧ i + 1 ≤ ds.length ∧ Up B1 G1 B G ∧ Rel C.K C.κ C.Z B G H' ρ σ' fp ∧ Fx C σ' ∧ PostX C B G H' (forF (forT tg exb) (ds.drop (i + 1)) ρ) DE, fun σ' H' hN => hN, fun x H' y => ?_⟩
    obtain ⟨d, B3, hd, x3, hx⟩ := wk.yld i H2 x H' B2 u2.b r2.bh (u2.b.trans r2.bh) y hlt
    have edrop : ds.drop i = d :: ds.drop (i + 1) := by
      have hd2 : ds[i] = d := by
        have := List.getElem?_eq_getElem hlt
        rw [hd] at this
        exact (Option.some.inj this).symm
      rw [← hd2]
      exact List.drop_eq_getElem_cons hlt
    rw [edrop] at k2
    obtain ⟨r3, u3⟩ := r2.ext x3
    have k3 := k2.up (B1 := B3) (G1 := gext G2 B3) (H1 := H') u3
    simp only [forF] at k3
    cases et : bindT tg d ρ2 with
    | none => unfold forT at k3; rw [et] at k3; exact k3.elim
    | some ρt =>
      have e1 : forT tg exb d ρ2 = exb ρt := by unfold forT; rw [et]
      rw [e1] at k3
      refine hg hx r3 et fun σt fpt rt _ kt => ⟨ρt, B3, _, fpt, rt, fx2.keep hf kt, ?_⟩
      have again : ∀ {ρ4 : Env}, PostX C B3 (gext G2 B3) H' (forF (forT tg exb) (ds.drop (i + 1)) ρ4) DE → ∀ σ' B' G' H5 fp', Up B3 (gext G2 B3) B' G' → Rel C.K C.κ C.Z B' G' H5 ρ4 σ' fp' → Fx C σ' →
          ∃ m', m' < ds.length - i ∧ ∃ ρ B G fp, m' = ds.length - (i + 1) ∧ i + 1 ≤ ds.length ∧ Up B1 G1 B G ∧ Rel C.K C.κ C.Z B G H5 ρ σ' fp ∧ Fx C σ' ∧ PostX C B G H5 (forF (forT tg exb) (ds.drop (i + 1)) ρ) DE :=
        fun {ρ4} k4 σ' B' G' H5 fp' u4 r4 fx4 => ⟨_, by omega, ρ4, B', G', fp', rfl, hlt, (u2.trans u3).trans u4, r4, fx4, k4.up u4⟩
      cases eb : exb ρt with
      | nx ρ4 => rw [eb] at k3; exact again k3
      | ct ρ4 => rw [eb] at k3; exact again k3
      | brk ρ4 => rw [eb] at k3; exact k3
      | ret d ρ4 => rw [eb] at k3; exact k3
      | err x ρ4 => rw [eb] at k3; exact k3
      | no => rw [eb] at k3; exact k3
  · have hie : i = ds.length := by omega
    subst hie
    rw [List.drop_length] at k2
    exact .inl ⟨wk.stop _ H2 (u2.b.trans r2.bh) (Nat.le_refl _), k2 σ2 B2 G2 H2 fp2 .refl r2 fx2⟩
theorem tx_whl {st : Stmt} {n : Nat} (h : PS X st (L2.tWhile (tBo C evc pc) (tX C exb))) : PS X st (tX C (whlF evc exb n)) := PS.imp h fun DE σ H ⟨ρ, B, G, fp, r, fx, q⟩ => by
  refine ⟨fun m σ H => ∃ ρ B G fp, Rel C.K C.κ C.Z B G H ρ σ fp ∧ Fx C σ ∧ PostX C B G H (whlF evc exb m ρ) DE, ⟨n, ρ, B, G, fp, r, fx, q⟩, ?_⟩
  rintro m σ2 H2 ⟨ρ2, B2, G2, fp2, r2, fx2, k2⟩
  cases m with
  | zero => exact k2.elim
  | succ m =>
    simp only [whlF] at k2
    refine ⟨ρ2, B2, G2, fp2, r2, (k2.fl fx2 pc).mono fun d B3 G3 H3 fp3 ρ3 _ _ r3 k => ?_⟩
    cases d with
    | bool bb =>
      refine ⟨bb, rfl, ?_⟩
      cases bb with
      | false => exact k σ2 B3 G3 H3 fp3 .refl r3 fx2
      | true =>
        refine ⟨fun σ' H' => ∃ m', m' < m + 1 ∧ ∃ ρ B G fp, Rel C.K C.κ C.Z B G H' ρ σ' fp ∧ Fx C σ' ∧ PostX C B G H' (whlF evc exb m' ρ) DE, fun σ' H' hN => hN, ρ3, B3, G3, fp3, r3, fx2, ?_⟩
        dsimp only at k
        have again : ∀ {ρ4 : Env}, PostX C B3 G3 H3 (whlF evc exb m ρ4) DE → ∀ σ' B' G' H5 fp', Up B3 G3 B' G' → Rel C.K C.κ C.Z B' G' H5 ρ4 σ' fp' → Fx C σ' →
            ∃ m', m' < m + 1 ∧ ∃ ρ B G fp, Rel C.K C.κ C.Z B G H5 ρ σ' fp ∧ Fx C σ' ∧ PostX C B G H5 (whlF evc exb m' ρ) DE := fun {ρ4} k4 σ' B' G' H5 fp' u4 r4 fx4 => ⟨m, by omega, ρ4, B', G', fp', r4, fx4, k4.up u4⟩
        cases eb : exb ρ3 with
        | nx ρ4 => rw [eb] at k; exact again k
        | ct ρ4 => rw [eb] at k; exact again k
        | brk ρ4 => rw [eb] at k; exact k
        | ret d ρ4 => rw [eb] at k; exact k
        | err x ρ4 => rw [eb] at k; exact k
        | no => rw [eb] at k; exact k
    | _ => exact k.elim
/-! ### append, extend, stores -/
theorem tx_app {st : Stmt} {p : Pl} (hp : plOk C.κ p = true) (hs : p.isV = true ∨ pa = true) (h : PS X st (L2.tDrop (tBM C.K "list" rAppend (tPl p) (L2.tCons (tS C eva pa) L2.tNil)))) : PS X st (tX C (appD p eva)) := PS.imp h fun DE σ H ⟨ρ, B, G, fp, r, fx, q⟩ => by
  unfold appD at q
  split at q
  · rename_i ds0 e0
    obtain ⟨b0, vs0, hb0, h0, t0, _⟩ := r.focus hp e0
    refine ⟨b0, hb0, .inl ⟨rfl, vs0, .of h0⟩, ρ, B, G, fp, r, ?_⟩
    refine (q.fl fx pa).mono fun d B1 G1 H1 fp1 ρ1 _ p1 r1 k v hv => ?_
    try dsimp only at k
    split at k
    · rename_i ds e1
      split at k
      · rename_i hlim
        obtain ⟨b, vs, hb, h1, t, h2⟩ := r1.focus hp e1
        have hbb : b0 = b := PlV.same (hs.imp id p1) hb0 hb
        subst hbb
        obtain ⟨fp2, r2⟩ := h2 (t.append (.cons hv .nil))
        exact ⟨b0, vs, v, rfl, rfl, h1, by rw [t.length, sizeLine_eq]; unfold LIM at hlim; omega, k σ B1 G1 _ fp2 .refl r2 fx⟩
      · exact k.elim
    · exact k.elim
  · exact q.elim
theorem tx_ext {st : Stmt} {p : Pl} (hp : plOk C.κ p = true) (hs : p.isV = true ∨ pa = true) (h : PS X st (L2.tDrop (tBM C.K "list" rExtend (tPl p) (L2.tCons (tP C eva pa) L2.tNil)))) : PS X st (tX C (extD p eva)) := PS.imp h fun DE σ H ⟨ρ, B, G, fp, r, fx, q⟩ => by
  unfold extD at q
  split at q
  · rename_i ds0 e0
    obtain ⟨b0, vs0, hb0, h0, t0, _⟩ := r.focus hp e0
    refine ⟨b0, hb0, .inl ⟨rfl, vs0, .of h0⟩, ρ, B, G, fp, r, ?_⟩
    refine (q.fl fx pa).mono fun d B1 G1 H1 fp1 ρ1 _ p1 r1 k v hv => ?_
    try dsimp only at k
    split at k
    · rename_i ds xs e1
      split at k
      · rename_i hlim
        obtain ⟨b, vs, hb, h1, t, h2⟩ := r1.focus hp e1
        have hbb : b0 = b := PlV.same (hs.imp id p1) hb0 hb
        subst hbb
        obtain ⟨c, us, rfl, h3, t3⟩ := hv.list r1.bh
        obtain ⟨fp2, r2⟩ := h2 (t.append t3)
        exact ⟨b0, c, vs, us, rfl, rfl, h1, h3, by rw [t.length, t3.length, sizeLine_eq]; unfold LIM at hlim; omega, k σ B1 G1 _ fp2 .refl r2 fx⟩
      · exact k.elim
    · exact k.elim
  · exact q.elim
theorem tx_setI {st : Stmt} {p : Pl} (hp : plOk C.κ p = true) (hs : p.isV = true ∨ pa = true) (h : PS X st (L2.tAsg (tS C ev pu) (L2.gSub (tPl p) (tS C eva pa) rSetL))) : PS X st (tX C (setID p eva ev)) := PS.imp h fun DE σ H ⟨ρ, B, G, fp, r, fx, q⟩ => by
  unfold setID at q
  refine ⟨ρ, B, G, fp, r, (q.fl fx pu).mono fun dv B0 G0 H0 fp0 ρ0 _ _ r0 k v hv => ?_⟩
  try dsimp only at k
  split at k
  · rename_i ds0 e0
    obtain ⟨b0, vs0, hb0, h0, t0, _⟩ := r0.focus hp e0
    refine ⟨b0, hb0, ρ0, B0, G0, fp0, r0, ?_⟩
    refine (k.fl fx pa).mono fun d B1 G1 H1 fp1 ρ1 u1 p1 r1 k w hw => ?_
    try dsimp only at k
    split at k
    · rename_i ds i e1
      split at k
      · rename_i j ej
        obtain ⟨b, vs, hb, h1, t, h2⟩ := r1.focus hp e1
        have hbb : b0 = b := PlV.same (hs.imp id p1) hb0 hb
        subst hbb
        obtain rfl := hw.int'
        obtain ⟨fp2, r2⟩ := h2 (DvAll.set (hv.mono u1.b) j t)
        exact ⟨b0, vs, i, j, rfl, rfl, h1, by rw [t.length]; exact ej, k σ B1 G1 _ fp2 .refl r2 fx⟩
      · exact k.elim
    · exact k.elim
  · exact k.elim
theorem tx_setF {st : Stmt} {i j : Nat} {k : Str} {b : Bool} {ks : List (Str × Bool)} (hk : C.κ[i]? = some (.r ks)) (hj : ks[j]? = some (k, b)) (hnd : (ks.map (·.1)).Nodup) (h15 : ks.length ≤ 15)
    (h : PS X st (L2.sDPut (tVar i) (tC (.str k)) (tN C ev pu (fSh b)))) : PS X st (tX C (setFD i j ev)) := PS.imp h fun DE σ H ⟨ρ, B, G, fp, r, fx, q⟩ => by
  unfold setFD at q
  refine ⟨ρ, B, G, fp, r, (q.fl fx pu).mono fun d B1 G1 H1 fp1 ρ1 _ _ r1 kk v as ow nd out => ?_⟩
  try dsimp only at kk
  split at kk
  case h_2 => exact kk.elim
  rename_i dr hgv
  split at kk
  case isFalse => exact kk.elim
  rename_i hjl
  obtain ⟨w, s, h1, h2, ow1⟩ := r1.at_ i _ (gv_get hgv)
  rw [hk] at h2; cases h2
  have nd1 := r1.nd i
  have ho := r1.out i
  have hdj := r1.dj
  generalize hfp : fp1 i = fi at ow1 nd1 ho
  cases ow1 with
  | r hd t =>
    rename_i a kvs as0
    obtain ⟨k', b', v0, l, m, rr, g1, g2, g3, g4, g5⟩ := t.split (List.getElem?_eq_getElem hjl)
    rw [hj] at g1; cases g1
    have hkeys := t.keys
    have knd : (kvs.map (·.1)).Nodup := by
      rw [hkeys.1]
      have z := nodup_inr hnd
      rw [List.map_map] at z
      exact z
    subst g3
    have aas : a ∉ as := fun z => (out a z).2 i (by rw [hfp]; simp)
    have alr : ∀ x ∈ l ++ rr, x ≠ a := fun x hx z => by
      subst z
      rw [List.nodup_cons] at nd1
      exact nd1.1 (by rcases List.mem_append.mp hx with q | q <;> simp [q])
    have new := g5 (B' := B1) (H' := upd H1 a (.dK (kvs.set j (.inr k, v)))) (d' := d) (v' := v) (m' := as) (Same.refl _) (fun x hx o e => by rw [upd_ne (alr x hx)]; exact e)
      (ow.mono (Same.refl _) (Same.refl _) fun x hx o e => by rw [upd_ne fun z => aas (by rw [← z]; exact hx)]; exact e)
    have asl : ∀ x ∈ as, x ∉ a :: (l ++ m ++ rr) := fun x hx z => (out x hx).2 i (by rw [hfp]; exact z)
    refine ⟨.ref a, h1, a, _, rfl, DPut.k (k := .inr k) hd (by rw [hkeys.2.2, sizeLine_eq]; omega), ?_⟩
    rw [putK_at knd g2]
    have hGa : ∀ x ∈ a :: (l ++ m ++ rr), G1 x = none ∧ ∃ o, H1 x = some o := ho
    refine kk σ B1 G1 _ _ .refl (r1.put (s := .r ks) (as := a :: (l ++ as ++ rr)) hk h1 (.r upd_same new) ?_ (Same.refl _) r1.bg (fun x o e => ?_) r1.zg (fun j' hj' x hx => ⟨(r1.out j' x hx).1, fun z => ?_, fun o e => ?_⟩) (fun x hx => ?_)) fx
    · simp only [List.nodup_cons, List.nodup_append, List.mem_append, not_or] at nd1 ⊢
      obtain ⟨⟨⟨n1, _⟩, n2⟩, ⟨n3, n4, n5⟩, n6, n7⟩ := nd1
      refine ⟨⟨⟨n1, aas⟩, n2⟩, ⟨n3, nd, fun x hx y hy z => ?_⟩, n6, fun x hx y hy z => ?_⟩
      · subst z; exact asl x hy (by simp [hx])
      · subst z
        rcases hx with hx | hx
        · exact n7 x (.inl hx) x hy rfl
        · exact asl x hx (by simp [hy])
    · rw [upd_ne fun z => by rw [z, (hGa a (by simp)).1] at e; cases e]; exact r1.gh _ _ e
    · rcases List.mem_cons.mp z with z | z
      · exact hdj j' i hj' x hx (by rw [hfp, z]; simp)
      · simp only [List.mem_append] at z
        rcases z with (z | z) | z
        · exact hdj j' i hj' x hx (by rw [hfp]; simp [z])
        · exact (out x z).2 j' hx
        · exact hdj j' i hj' x hx (by rw [hfp]; simp [z])
    · rw [upd_ne fun z => hdj j' i hj' x hx (by rw [hfp, z]; simp)]; exact e
    · by_cases hxa : x = a
      · subst hxa; exact ⟨(hGa x (by simp)).1, _, upd_same⟩
      · rw [upd_ne hxa]
        have hx := (List.mem_cons.mp hx).resolve_left hxa
        simp only [List.mem_append] at hx
        rcases hx with (z | z) | z
        · exact hGa x (by simp [z])
        · exact ⟨(out x z).1, ow.inH x z⟩
        · exact hGa x (by simp [z])
/-! ### dicts with ints as keys -/
theorem isK_kD {q : Key} {d : D} {k : Int} : isK k (kD q, d) = decide (q = .inl k) := by
  cases q with
  | inl j => simp [isK, kD]
  | inr x => simp [isK, kD]
theorem OwD.find {K : PySem.W.Frag} {B : Hp} {kvs : List (Key × V)} {ps : List (D × D)} (h : OwD K B kvs ps) (k : Int) :
    (∃ v d, valV kvs (.inl k) = some v ∧ dfindD ps k = some d ∧ Dv K B v d) ∨ (valV kvs (.inl k) = none ∧ dfindD ps k = none) := by
  induction h with
  | nil => exact .inr ⟨rfl, rfl⟩
  | cons hv _ ih =>
    rename_i q v d kvs ps _
    unfold dfindD
    rw [isK_kD]
    by_cases e : q = .inl k
    · exact .inl ⟨v, d, valV_pos (p := (q, v)) e, by rw [decide_eq_true e]; rfl, hv⟩
    · rw [valV_neg (p := (q, v)) e, decide_eq_false e]
      exact ih
theorem OwD.put {K : PySem.W.Frag} {B : Hp} {kvs : List (Key × V)} {ps : List (D × D)} (h : OwD K B kvs ps) (k : Int) {v : V} {d : D} (hv : Dv K B v d) : OwD K B (putK kvs (.inl k) v) (dputD ps k d) := by
  have ha : (kvs.any fun kv => decide (kv.1 = .inl k)) = ps.any (isK k) := by
    induction h with
    | nil => rfl
    | cons _ _ ih => rw [List.any_cons, List.any_cons, ih, isK_kD]
  unfold putK dputD
  rw [ha]
  split
  · rename_i hc
    clear hc
    clear ha
    induction h with
    | nil => exact .nil
    | cons h1 _ ih =>
      rename_i q v1 d1 kvs ps _
      rw [List.map_cons, List.map_cons, isK_kD]
      by_cases e : q = .inl k
      · rw [decide_eq_true e]
        simp only [e, if_true]
        exact .cons hv ih
      · rw [decide_eq_false e]
        simp only [e, if_false]
        exact .cons h1 ih
  · rename_i hc
    clear hc
    clear ha
    induction h with
    | nil => exact .cons (k := .inl k) hv .nil
    | cons h1 _ ih => exact .cons h1 ih
theorem gdict_at {C : Ct} {B G H : Hp} {ρ : Env} {σ : L2.St} {fp : Nat → List Addr} (r : Rel C.K C.κ C.Z B G H ρ σ fp) {i : Nat} {ps : List (D × D)} (hk : C.κ[i]? = some (.r [])) (e : gdict ρ i = some ps) :
    ∃ a kvs, σ[i]? = some (some (.ref a)) ∧ H a = some (.dK kvs) ∧ OwD C.K B kvs ps ∧ fp i = [a] := by
  unfold gdict at e
  obtain ⟨d, e1, e2⟩ := Option.bind_eq_some_iff.mp e
  obtain ⟨v, s, h1, h2, h3⟩ := r.at_ i d (gv_some e1)
  rw [hk] at h2; cases h2
  generalize hfp : fp i = as at h3
  cases h3 with
  | r hd t =>
    cases t with
    | nil =>
      cases e2
      exact ⟨_, _, h1, hd, .nil, rfl⟩
  | d hd t =>
    cases e2
    exact ⟨_, _, h1, hd, t, rfl⟩
theorem te_dget {e : Expr} {i : Nat} {eva evb : Env → R D} {pa pb : Bool} (hk : C.κ[i]? = some (.r [])) (h : PE X e (L2.tDGet2 (tVar i) (tS C eva pa) (tS C evb pb))) : PE X e (tS C (dgetD i eva evb) (pa && pb)) := PE.imp h fun σ H Q ⟨ρ, B, G, fp, r, q⟩ => by
  have q : Post C B G H σ (pa && pb) (dgetD i eva evb ρ) (kS C Q) := q
  unfold dgetD at q
  cases e0 : gdict ρ i with
  | none => rw [e0] at q; exact q.elim
  | some ps0 =>
    rw [e0] at q
    obtain ⟨a, kvs0, h1, h2, _, _⟩ := gdict_at r hk e0
    refine ⟨.ref a, h1, a, rfl, .inl ⟨kvs0, .inl h2⟩, ρ, B, G, fp, r, ?_⟩
    refine (Post.bind (pu1 := pa) (pu2 := pb) q rfl).mono fun d1 B1 G1 H1 fp1 ρ1 _ _ r1 k v1 hv1 => ?_
    refine ⟨ρ1, B1, G1, fp1, r1, (k.bind (pu1 := pb) (pu2 := true) (by simp)).mono fun d2 B2 G2 H2 fp2 ρ2 b2 _ r2 k v2 hv2 => ?_⟩
    cases e2 : gdict ρ2 i with
    | none => rw [e2] at k; exact k.elim
    | some ps =>
    rw [e2] at k
    cases d1 with
    | int key =>
      dsimp only at k
      obtain ⟨a', kvs, g1, g2, g3, _⟩ := gdict_at r2 hk e2
      rw [h1] at g1; cases g1
      obtain rfl := hv1.int'
      refine ⟨_, DGet.k (k := .inl key) g2, ?_⟩
      rcases g3.find key with ⟨v, d, z1, z2, z3⟩ | ⟨z1, z2⟩
      · rw [z1]
        rw [z2] at k
        exact k B2 G2 H2 fp2 .refl (fun _ => Same.refl _) r2 v z3
      · rw [z1]
        rw [z2] at k
        exact k B2 G2 H2 fp2 .refl (fun _ => Same.refl _) r2 v2 hv2
    | _ => exact k.elim
theorem tx_dset {st : Stmt} {i : Nat} (hk : C.κ[i]? = some (.r [])) (h : PS X st (L2.sDPut (tVar i) (tS C eva pa) (tS C ev pu))) : PS X st (tX C (dsetD i eva ev)) := PS.imp h fun DE σ H ⟨ρ, B, G, fp, r, fx, q⟩ => by
  unfold dsetD at q
  refine ⟨ρ, B, G, fp, r, (q.fl fx pu).mono fun dv B0 G0 H0 fp0 ρ0 _ _ r0 k v hv => ?_⟩
  try dsimp only at k
  split at k
  · rename_i ps0 e0
    obtain ⟨a, kvs0, h1, h2, _, _⟩ := gdict_at r0 hk e0
    refine ⟨.ref a, h1, ρ0, B0, G0, fp0, r0, ?_⟩
    refine (k.fl fx pa).mono fun d B1 G1 H1 fp1 ρ1 u1 p1 r1 k w hw => ?_
    try dsimp only at k
    split at k
    · rename_i ps key e1
      split at k
      · rename_i hlim
        obtain ⟨a', kvs, g1, g2, g3, g4⟩ := gdict_at r1 hk e1
        rw [h1] at g1; cases g1
        obtain rfl := hw.int'
        have Ga := (r1.out i a (by rw [g4]; simp)).1
        refine ⟨a, _, rfl, DPut.k (k := .inl key) g2 (by rw [g3.length, sizeLine_eq]; unfold LIM at hlim; omega), ?_⟩
        refine k σ B1 G1 _ _ .refl (r1.put (s := .r []) (as := [a]) hk h1 (.d upd_same (g3.put key (hv.mono u1.b))) (by simp) (Same.refl _) r1.bg (fun x o e => ?_) r1.zg (fun j hj x hx => ⟨(r1.out j x hx).1, fun z => ?_, fun o e => ?_⟩) (fun x hx => ?_)) fx
        · rw [upd_ne fun z => by rw [z, Ga] at e; cases e]; exact r1.gh _ _ e
        · simp at z; subst z; exact r1.dj j i hj _ hx (by rw [g4]; simp)
        · rw [upd_ne fun z => r1.dj j i hj x hx (by rw [g4, z]; simp)]; exact e
        · simp at hx; subst hx; exact ⟨Ga, _, upd_same⟩
      · exact k.elim
    · exact k.elim
  · exact k.elim
theorem te_dnew {e : Expr} (h : PE X e L2.tDNewK) : PE X e (tN C (fun ρ => .ok (.dict []) ρ) true (.r [])) := PE.imp h fun σ H Q ⟨ρ, B, G, fp, r, q⟩ p hp => by
  have q : Post C B G H σ true (.ok (.dict []) ρ) (kN C (.r []) Q) := q
  have hG : G p = none := r.gh.free hp
  have hf : ∀ i, p ∉ fp i := fun i z => by obtain ⟨_, o, e⟩ := r.out i p z; rw [hp] at e; cases e
  exact q B G _ fp .refl (fun _ => same_upd hp _) (r.beside hG hf) (.ref p) [p] (.d upd_same .nil) (by simp) (fun a ha => by simp at ha; subst ha; exact ⟨hG, hf⟩)
theorem te_addO {e : Expr} {i : Nat} {f : D → D → Option D} {sh : Sh} {r : R2} {evb : Env → R D} {pb : Bool} (hk : C.κ[i]? = some (.l .s)) (h : PE X e (tOp r (tVar i) (tP C evb pb))) (hr : ∀ x y H Q, RX2 C.K sh f x y H Q → r x y H Q) :
    PE X e (tN C (addOD f i evb) pb sh) := PE.imp h fun σ H Q ⟨ρ, B, G, fp, R0, q⟩ => by
  have q : Post C B G H σ pb (addOD f i evb ρ) (kN C sh Q) := q
  unfold addOD at q
  cases e0 : gv ρ i with
  | none => rw [e0] at q; exact q.elim
  | some d0 =>
    rw [e0] at q
    cases d0 with
    | list ds0 =>
      dsimp only at q
      obtain ⟨v0, s0, h1, _, _⟩ := R0.at_ i _ (gv_some e0)
      refine ⟨v0, h1, ρ, B, G, fp, R0, (Post.bind (pu1 := pb) (pu2 := true) q (by simp)).mono fun d2 B2 G2 H2 fp2 ρ2 _ _ r2 k v2 hv2 => hr _ _ _ _ ?_⟩
      cases e2 : gv ρ2 i with
      | none => rw [e2] at k; exact k.elim
      | some d =>
        rw [e2] at k
        cases d with
        | list ds =>
          dsimp only at k
          obtain ⟨v, s, g1, g2, g3⟩ := r2.at_ i _ (gv_some e2)
          rw [h1] at g1; cases g1
          rw [hk] at g2; cases g2
          generalize fp2 i = as at g3
          cases g3 with
          | l hH t =>
            obtain ⟨d', e1, k⟩ := Post.of_some k
            exact ⟨B2, .list ds, d2, d', r2.bh, .inr ⟨_, _, _, rfl, rfl, hH, t.all.1⟩, hv2, e1, k.fin r2⟩
        | _ => exact k.elim
    | _ => exact q.elim
end
end TV

/-! V15: fields; ranges as lists; reversed lists. -/
namespace TV
open PySem PySem.Spec PyProof.Rows L2
section
variable {X : Cx} {C : Ct} {a b c : Expr} {pos : Pos} {ev eva evb evc : Env → R D} {pa pb pc : Bool}
variable {K : PySem.W.Frag} {κ : List Sh} {Z B G H B' G' H' : Hp} {σ : L2.St} {ρ ρ' : Env} {fp fp' : Nat → List Addr}
/-- where a field stands -/
theorem Rel.fld (r : Rel K κ Z B G H ρ σ fp) {i j : Nat} {k : Str} {b : Bool} {ks : List (Str × Bool)} {d : D} (hk : κ[i]? = some (.r ks)) (hj : ks[j]? = some (k, b)) (hnd : (ks.map (·.1)).Nodup) (e : getPl ρ (.f i j k) = some d) :
    ∃ a v as, σ[i]? = some (some (.ref a)) ∧ DGet H a (.str k) (some v) ∧ Ow K B Z H (fSh b) d v as := by
  simp only [getPl] at e
  split at e
  · rename_i dr hgv
    obtain ⟨v, s, h1, h2, ow⟩ := r.at_ i _ (gv_get hgv)
    rw [hk] at h2; cases h2
    generalize hf : fp i = as at ow
    cases ow with
    | r h t =>
      rename_i a kvs as
      obtain ⟨k', b', w, l, m, rr, g1, g2, g3, g4, _⟩ := t.split e
      rw [hj] at g1; cases g1
      have hkeys := t.keys.1
      have knd : (kvs.map (·.1)).Nodup := by
        rw [hkeys]
        have z := nodup_inr hnd
        rw [List.map_map] at z
        exact z
      refine ⟨a, w, m, h1, ?_, g4⟩
      have hv : valV kvs (.inr k) = some w := valV_at knd g2
      rw [← hv]
      exact DGet.k (k := .inr k) h
  · cases e
theorem te_fldS {o ix : Expr} {i j : Nat} {k : Str} {ks : List (Str × Bool)} (hu : X.A.units + 1 < cLine) (ho : PE X o (tVar i)) (hi : PE X ix (tC (.str k))) (hs : NoSl ix) (hk : C.κ[i]? = some (.r ks)) (hj : ks[j]? = some (k, false)) (hnd : (ks.map (·.1)).Nodup) :
    PE X (.Subscript o ix pos) (tS C (fun ρ => R.of (getPl ρ (.f i j k)) ρ) true) := PE.imp (pe_dget hu ho hi hs) fun σ H Q ⟨ρ, B, G, fp, r, q⟩ => by
  obtain ⟨d, e1, q⟩ := Post.of_some q
  obtain ⟨a, v, as, h1, h2, ow⟩ := r.fld hk hj hnd e1
  cases ow with
  | s h3 => exact ⟨.ref a, h1, a, v, rfl, h2, q B G H fp .refl (fun _ => Same.refl _) r v h3⟩
theorem te_fldP {o ix : Expr} {i j : Nat} {k : Str} {ks : List (Str × Bool)} (hu : X.A.units + 1 < cLine) (ho : PE X o (tVar i)) (hi : PE X ix (tC (.str k))) (hs : NoSl ix) (hk : C.κ[i]? = some (.r ks)) (hj : ks[j]? = some (k, true)) (hnd : (ks.map (·.1)).Nodup) :
    PE X (.Subscript o ix pos) (tP C (fun ρ => R.of (getPl ρ (.f i j k)) ρ) true) := PE.imp (pe_dget hu ho hi hs) fun σ H Q ⟨ρ, B, G, fp, r, q⟩ => by
  obtain ⟨d, e1, q⟩ := Post.of_some q
  obtain ⟨a, v, as, h1, h2, ow⟩ := r.fld hk hj hnd e1
  refine ⟨.ref a, h1, a, v, rfl, h2, q B G H fp .refl (fun _ => Same.refl _) r v ?_⟩
  have ow : Ow C.K B C.Z H (.l .s) d v as := ow
  cases ow with
  | l h t => exact .inr ⟨_, _, _, rfl, rfl, h, t.all.1⟩
/-! ### list(range(e)), tuple(range(e)) -/
theorem rgV_dv {lo hi : Int} : DvAll K B (rgV lo hi) (rngD lo hi) := by
  have key : ∀ l : List Nat, DvAll K B (l.map fun i => V.int (lo + (i : Nat))) (l.map fun i => PyData.int (lo + (i : Nat))) := fun l => by
    induction l with
    | nil => exact .nil
    | cons x l ih => exact .cons (.int _) ih
  exact key _
theorem te_lRng {e : Expr} (h : PE X e (tLstRg (tRg1 (tS C eva pa)))) : PE X e (tN C (fun ρ => (eva ρ).bind fun d ρ => R.of (b1 .lRng d) ρ) pa (.l .s)) := PE.imp h fun σ H Q ⟨ρ, B, G, fp, R0, q⟩ => by
  have q : Post C B G H σ pa _ _ := q
  refine ⟨ρ, B, G, fp, R0, (q.bind (pu1 := pa) (pu2 := true) (by simp)).mono fun d B1 G1 H1 fp1 ρ1 _ _ r1 k v hv => ?_⟩
  obtain ⟨d', e1, k⟩ := Post.of_some k
  cases d with
  | int n =>
    simp only [b1] at e1
    split at e1
    · rename_i hc
      simp only [Bool.and_eq_true, decide_eq_true_eq] at hc
      cases e1
      obtain rfl := hv.int'
      have h1 := hc.1
      have h2 := hc.2
      unfold LIM at h1 h2
      refine ⟨n, rfl, ⟨by omega, by omega, by omega, by omega, by omega⟩, fun q hq => ?_⟩
      exact PostV.newL (k.fin r1) r1.bh rgV_dv hq
    · cases e1
  | _ => simp [b1] at e1
theorem te_tRng {e : Expr} (h : PE X e (tTupRg (tRg1 (tS C eva pa)))) : PE X e (tN C (fun ρ => (eva ρ).bind fun d ρ => R.of (b1 .tRng d) ρ) pa .s) := PE.imp h fun σ H Q ⟨ρ, B, G, fp, R0, q⟩ => by
  have q : Post C B G H σ pa _ _ := q
  refine ⟨ρ, B, G, fp, R0, (q.bind (pu1 := pa) (pu2 := true) (by simp)).mono fun d B1 G1 H1 fp1 ρ1 _ _ r1 k v hv => ?_⟩
  obtain ⟨d', e1, k⟩ := Post.of_some k
  cases d with
  | int n =>
    simp only [b1] at e1
    split at e1
    · rename_i hc
      simp only [Bool.and_eq_true, decide_eq_true_eq] at hc
      cases e1
      obtain rfl := hv.int'
      have h1 := hc.1
      have h2 := hc.2
      unfold LIM at h1 h2
      refine ⟨n, rfl, ⟨by omega, by omega, by omega, by omega, by omega⟩, fun q hq => ?_⟩
      exact PostV.newT (k.fin r1) r1.bh rgV_dv hq
    · cases e1
  | _ => simp [b1] at e1
/-- xs[-2::-1] -/
theorem rv2_bounds (n : Nat) : sliceBounds (some (-2)) none (some (-1)) n = (max (-1) (min (-2 + (n : Int)) ((n : Int) - 1)), -1, -1) := rfl
theorem pick_rv2 (its : List Value) : slicePick its.toArray (some (-2)) none (some (-1)) = its.dropLast.reverse.toArray := by
  have hb : sliceBounds (some (-2)) none (some (-1)) its.toArray.size = (if its.length = 0 then -1 else (its.length : Int) - 2, -1, -1) := by
    rw [rv2_bounds, List.size_toArray]
    refine Prod.ext ?_ rfl
    show max (-1) (min (-2 + (its.length : Int)) ((its.length : Int) - 1)) = if its.length = 0 then -1 else (its.length : Int) - 2
    split <;> omega
  unfold slicePick
  rw [hb]
  show ((sliceRange (if its.length = 0 then -1 else (its.length : Int) - 2) (-1) (-1)).filterMap (its.toArray[·]?)).toArray = _
  have hr : sliceRange (if its.length = 0 then -1 else (its.length : Int) - 2) (-1) (-1) = (List.range (its.length - 1)).reverse := by
    rw [← PySem.W.krv_range, ← PySem.W.krv_sliceRange]
    congr 1
    split <;> omega
  rw [hr, List.filterMap_reverse]
  congr 2
  have ha : (List.range (its.length - 1)).filterMap (its.dropLast.toArray[·]?) = its.dropLast := by
    have h := PySem.W.krv_all its.dropLast.toArray
    rw [List.size_toArray, List.length_dropLast] at h
    exact h
  conv => rhs; rw [← ha]
  have key : ∀ l : List Nat, (∀ i ∈ l, i < its.length - 1) → l.filterMap (its.toArray[·]?) = l.filterMap (its.dropLast.toArray[·]?) := fun l => by
    induction l with
    | nil => intro _; rfl
    | cons i l ih =>
      intro h
      have hi := h i List.mem_cons_self
      have e : its.toArray[i]? = its.dropLast.toArray[i]? := by rw [List.getElem?_toArray, List.getElem?_toArray, List.dropLast_eq_take, List.getElem?_take_of_lt hi]
      simp only [List.filterMap_cons, e, ih fun j hj => h j (List.mem_cons_of_mem _ hj)]
  exact key _ fun i hi => List.mem_range.mp hi
def tRv2 (K : PySem.W.Frag) (te : TE) : TE := fun σ H Q => te σ H fun x H1 => ∃ a xs, x = .ref a ∧ SqL K H1 a xs ∧ ∀ p, H1 p = none → Q (.ref p) (upd H1 p (.lst xs.dropLast.reverse))
theorem dropLast_rel : ∀ {vs : List V} {us : List Value}, Vals vs us → Vals vs.dropLast us.dropLast
  | _, _, .nil => .nil
  | _, _, .cons _ .nil => .nil
  | _, _, .cons h (.cons h2 t) => .cons h (dropLast_rel (.cons h2 t))
theorem pe_rv2 {e : Expr} {te : TE} {k k0 : Nat} {p1 p2 p3 q1 q2 pos : Pos} (he : PE X e te) : PE X (.Subscript e (.Slice (some (.UnaryOp .USub (.Constant (.int 2) k0 q1) q2)) none (some (.UnaryOp .USub (.Constant (.int 1) k p1) p2)) p3) pos) (tRv2 X.K te) := ⟨fun pins s σ H Q I h => by
  refine Subscript_ (thn (he.run pins s σ H _ I h) fun v s1 ⟨x, H1, I1, r1, b, xs, ex, hx, q⟩ => ?_)
  subst ex; cases r1
  have neg : ∀ (n : Int) {k : Nat} {p1 p2 : Pos}, PO X (some (.UnaryOp .USub (.Constant (.int n) k p1) p2)) (tPart (tUn (rU fun i => .int (-i)) (tC (.int n)))) := fun n {_ _ _} => po_some (pe_un un_neg pe_int)
  refine wpAny_Slice (thn ((neg 2).run pins s1 σ H1 (fun o H2 => o = some (-2) ∧ H2 = H1) I1 ⟨2, rfl, -2, rfl, rfl, rfl⟩) fun vl s2 ⟨l, H2, I2, pl, el, e2⟩ => ?_)
  subst el; subst e2
  refine thn (po_none.run pins s2 σ H2 (fun o H3 => o = none ∧ H3 = H2) I2 ⟨rfl, rfl⟩) fun vu s3 ⟨u, H3, I3, pu, eu, e3⟩ => ?_
  subst eu; subst e3
  refine thn ((neg 1).run pins s3 σ H3 (fun o H4 => o = some (-1) ∧ H4 = H3) I3 ⟨1, rfl, -1, rfl, rfl, rfl⟩) fun vs s4 ⟨o, H4, I4, ps, eo, e4⟩ => ?_
  subst eo; subst e4
  have I5 : Inv X pins σ H4 { s4 with heap := s4.heap.push { cls := .type "slice", data := .fields #[vl, vu, vs] } } := I4.kept (t' := s4.toks) fun _ _ z => Heap.get?_push_of_some _ z
  obtain ⟨its, r, ht, hz⟩ := I5.list hx
  have hlen := r.length
  refine tail_any (ops := [.ref b, .ref s4.heap.objs.size]) ht.isList.typeIs (PySem.slot_list_getitem.lookup) ?_ (by with_unfolding_all rfl)
  refine wpAny_getItem_list_slice ht.isList (Heap.IsSliceOf.new _ vl vu vs) pl pu ps (by decide) ?_ (by rw [List.size_toArray]; omega)
  rw [pick_rv2]
  exact ⟨.ref _, _, I5.laid (t' := s4.toks) (o := .lst xs.dropLast.reverse) (fun _ _ z => Heap.get?_push_of_some _ z) (Nat.le_refl _) ⟨by rw [List.length_reverse, List.length_dropLast]; omega, _, 0, (dropLast_rel r).reverse, Heap.get?_push_size _ rfl⟩, rfl, q _ (I5.hok.fresh (Nat.le_refl _))⟩⟩
/-- xs[::-1] -/
theorem te_rev {e : Expr} (h : PE X e (tRevL C.K (tZ C eva pa))) : PE X e (tN C (fun ρ => (eva ρ).bind fun d ρ => R.of (b1 .rev d) ρ) pa (.l .s)) := PE.imp h fun σ H Q ⟨ρ, B, G, fp, R0, q⟩ => by
  have q : Post C B G H σ pa _ _ := q
  refine ⟨ρ, B, G, fp, R0, (q.bind (pu1 := pa) (pu2 := true) (by simp)).mono fun d B1 G1 H1 fp1 ρ1 _ _ r1 k v hv => ?_⟩
  obtain ⟨d', e1, k⟩ := Post.of_some k
  cases d with
  | list ds =>
    simp only [b1, Option.some.injEq] at e1
    subst e1
    obtain ⟨a, vs, rfl, h1, t⟩ := hv.list r1.bh
    refine ⟨a, vs, rfl, h1, fun p hp => ?_⟩
    exact PostV.newL (k.fin r1) r1.bh t.reverse hp
  | _ => simp [b1] at e1
theorem te_rv2 {e : Expr} (h : PE X e (tRv2 C.K (tZ C eva pa))) : PE X e (tN C (fun ρ => (eva ρ).bind fun d ρ => R.of (b1 .rv2 d) ρ) pa (.l .s)) := PE.imp h fun σ H Q ⟨ρ, B, G, fp, R0, q⟩ => by
  have q : Post C B G H σ pa _ _ := q
  refine ⟨ρ, B, G, fp, R0, (q.bind (pu1 := pa) (pu2 := true) (by simp)).mono fun d B1 G1 H1 fp1 ρ1 _ _ r1 k v hv => ?_⟩
  obtain ⟨d', e1, k⟩ := Post.of_some k
  cases d with
  | list ds =>
    simp only [b1, Option.some.injEq] at e1
    subst e1
    obtain ⟨a, vs, rfl, h1, t⟩ := hv.list r1.bh
    refine ⟨a, vs, rfl, h1, fun p hp => ?_⟩
    exact PostV.newL (k.fin r1) r1.bh t.dropLast.reverse hp
  | _ => simp [b1] at e1
end
end TV
/-! V15 goes on: sorted(set(..)) of tuples of ints. -/
namespace TV
open PySem PySem.Spec PyProof.Rows L2
theorem code_inj {Bd : Int} : ∀ {x y : List Int}, x.length = y.length → TS.Bd Bd x → TS.Bd Bd y → TS.code Bd x = TS.code Bd y → x = y
  | [], [], _, _, _, _ => rfl
  | a :: x, b :: y, hl, hx, hy, e => by
    have hl2 : x.length = y.length := by simpa using hl
    clear hl
    rcases Int.lt_trichotomy a b with h | h | h
    · have := TS.code_lt hl2 hx.tail hy.tail h
      omega
    · subst h
      have e2 : a * Bd ^ x.length + TS.code Bd x = a * Bd ^ y.length + TS.code Bd y := e
      rw [hl2] at e2
      rw [code_inj hl2 hx.tail hy.tail (by omega)]
    · have := TS.code_lt hl2.symm hy.tail hx.tail h
      omega
  | [], _ :: _, hl, _, _, _ => by simp at hl
  | _ :: _, [], hl, _, _, _ => by simp at hl
/-- strictly rising lists of the same members are equal -/
theorem rising_eq {α : Type} (c : α → Int) : ∀ {xs ys : List α}, xs.Pairwise (fun a b => c a < c b) → ys.Pairwise (fun a b => c a < c b) → (∀ a, a ∈ xs ↔ a ∈ ys) → xs = ys
  | [], [], _, _, _ => rfl
  | [], y :: ys, _, _, h => by have := (h y).mpr List.mem_cons_self; cases this
  | x :: xs, [], _, _, h => by have := (h x).mp List.mem_cons_self; cases this
  | x :: xs, y :: ys, hx, hy, h => by
    rw [List.pairwise_cons] at hx hy
    have exy : x = y := by
      rcases List.mem_cons.mp ((h x).mp List.mem_cons_self) with e | h1
      · exact e
      · rcases List.mem_cons.mp ((h y).mpr List.mem_cons_self) with e | h2
        · exact e.symm
        · have := hx.1 y h2
          have := hy.1 x h1
          omega
    subst exy
    refine congrArg (x :: ·) (rising_eq c hx.2 hy.2 fun a => ⟨fun ha => ?_, fun ha => ?_⟩)
    · rcases List.mem_cons.mp ((h a).mp (List.mem_cons_of_mem _ ha)) with e | z
      · subst e; have := hx.1 a ha; omega
      · exact z
    · rcases List.mem_cons.mp ((h a).mpr (List.mem_cons_of_mem _ ha)) with e | z
      · subst e; have := hy.1 a ha; omega
      · exact z
theorem insT_mem {x a : List Int} : ∀ {ys : List (List Int)}, a ∈ insT x ys ↔ a = x ∨ a ∈ ys
  | [] => by simp [insT]
  | y :: ys => by
    unfold insT
    split
    · rename_i e
      subst e
      simp
    · split
      · simp
      · rw [List.mem_cons, insT_mem, List.mem_cons]
        constructor
        · rintro (h | h | h)
          · exact .inr (.inl h)
          · exact .inl h
          · exact .inr (.inr h)
        · rintro (h | h | h)
          · exact .inr (.inl h)
          · exact .inl h
          · exact .inr (.inr h)
theorem setT_mem {a : List Int} : ∀ {xs : List (List Int)}, a ∈ setT xs ↔ a ∈ xs
  | [] => by simp [setT]
  | x :: xs => by unfold setT; rw [insT_mem, setT_mem, List.mem_cons]
theorem insT_rise {x : List Int} {d : Nat} (hx : x.length = d ∧ TS.Bd SB x) : ∀ {ys : List (List Int)}, (∀ y ∈ ys, y.length = d ∧ TS.Bd SB y) → ys.Pairwise (fun a b => TS.code SB a < TS.code SB b) → (insT x ys).Pairwise fun a b => TS.code SB a < TS.code SB b
  | [], _, _ => by simp [insT]
  | y :: ys, hm, h => by
    unfold insT
    split
    · exact h
    · rename_i hne
      have hy := hm y List.mem_cons_self
      split
      · rename_i hlt
        rw [List.pairwise_cons] at h ⊢
        refine ⟨fun a ha => ?_, List.pairwise_cons.mpr h⟩
        rcases List.mem_cons.mp ha with e | ha
        · subst e; exact hlt
        · exact Int.lt_trans hlt (h.1 a ha)
      · rename_i hnl
        have hlt : TS.code SB y < TS.code SB x := by
          rcases Int.lt_trichotomy (TS.code SB x) (TS.code SB y) with z | z | z
          · exact absurd z hnl
          · exact absurd (code_inj (hx.1.trans hy.1.symm) hx.2 hy.2 z) hne
          · exact z
        rw [List.pairwise_cons] at h ⊢
        refine ⟨fun a ha => ?_, insT_rise hx (fun z hz => hm z (List.mem_cons_of_mem _ hz)) h.2⟩
        rcases insT_mem.mp ha with e | ha
        · subst e; exact hlt
        · exact h.1 a ha
theorem setT_rise {d : Nat} : ∀ {xs : List (List Int)}, (∀ y ∈ xs, y.length = d ∧ TS.Bd SB y) → (setT xs).Pairwise fun a b => TS.code SB a < TS.code SB b
  | [], _ => by simp [setT]
  | x :: xs, h => by
    unfold setT
    exact insT_rise (h x List.mem_cons_self) (fun y hy => h y (List.mem_cons_of_mem _ (setT_mem.mp hy))) (setT_rise fun y hy => h y (List.mem_cons_of_mem _ hy))
theorem okT_ok {d : Nat} {xs : List (List Int)} (h : okT d xs = true) : 1 ≤ d ∧ ∀ x ∈ xs, x.length = d ∧ TS.Bd SB x := by
  unfold okT at h
  rw [Bool.and_eq_true, decide_eq_true_eq] at h
  refine ⟨h.1, fun x hx => ?_⟩
  have := List.all_eq_true.mp h.2 x hx
  rw [Bool.and_eq_true, decide_eq_true_eq] at this
  refine ⟨this.1, fun m hm => ?_⟩
  have := List.all_eq_true.mp this.2 m hm
  simpa using this
theorem Ext.trans {B H B1 H1 B2 H2 : Hp} (x : Ext B H B1 H1) (y : Ext B1 H1 B2 H2) : Ext B H B2 H2 := ⟨x.b.trans y.b, x.h.trans y.h, y.bh, fun a o e => by
  rcases y.new a o e with z | z
  · exact x.new a o z
  · exact .inr (x.h.free z)⟩
theorem PostV.later {K : PySem.W.Frag} {B H B1 H1 : Hp} {sh : Sh} {d : D} {Q : VK} (h : PostV K B H sh d Q) (x : Ext B H B1 H1) : PostV K B1 H1 sh d Q := fun v H' B' as y ow nd out =>
  h v H' B' as (x.trans y) ow nd fun a ha => ⟨x.h.free (out a ha).1, (out a ha).2⟩
theorem dv_ints {K : PySem.W.Frag} {B : Hp} : ∀ {vs : List V} {ds : List D} {is : List Int}, DvAll K B vs ds → intsD ds = some is → vs = is.map V.int ∧ ds = is.map .int
  | [], [], is, .nil, e => by simp [intsD] at e; subst e; exact ⟨rfl, rfl⟩
  | v :: vs, d :: ds, is, .cons h t, e => by
    cases d with
    | int i =>
      simp only [intsD] at e
      cases q : intsD ds with
      | none => rw [q] at e; cases e
      | some r =>
        rw [q] at e
        cases e
        obtain ⟨h1, h2⟩ := dv_ints t q
        obtain rfl := h.int'
        exact ⟨by rw [h1]; rfl, by rw [h2]; rfl⟩
    | _ => simp [intsD] at e
theorem dv_intss {K : PySem.W.Frag} {B : Hp} : ∀ {vs : List V} {ds : List D} {xs : List (List Int)}, DvAll K B vs ds → intssD ds = some xs → ∃ ks : List (Addr × List Int), vs = ks.map (fun p => V.ref p.1) ∧ ks.map (·.2) = xs ∧ ∀ p ∈ ks, SqT K B p.1 (p.2.map V.int)
  | [], [], xs, .nil, e => by simp [intssD] at e; subst e; exact ⟨[], rfl, rfl, fun _ h => by cases h⟩
  | v :: vs, d :: ds, xs, .cons h t, e => by
    cases d with
    | tuple ys =>
      simp only [intssD] at e
      cases q1 : intsD ys with
      | none => rw [q1] at e; cases e
      | some is =>
        rw [q1] at e
        dsimp only at e
        cases q : intssD ds with
        | none => rw [q] at e; cases e
        | some r =>
          rw [q] at e
          cases e
          obtain ⟨ks, h1, h2, h3⟩ := dv_intss t q
          cases h with
          | tup hs ht =>
            rename_i a ws
            obtain ⟨w1, _⟩ := dv_ints ht q1
            refine ⟨(a, is) :: ks, by rw [h1]; rfl, by simp [h2], fun p hp => ?_⟩
            rcases List.mem_cons.mp hp with z | hp
            · subst z; rw [← w1]; exact hs
            · exact h3 p hp
    | _ => simp [intssD] at e
section
variable {X : Cx} {C : Ct} {ev : Env → R D} {pu : Bool}
theorem te_setT {e : Expr} {Pg : Program} {w : World} (h : PE X e (tCB (rSortedT C.K Pg w) (L2.tCons (tCB (rSetOfT C.K Pg w) (L2.tCons (tZ C ev pu) L2.tNil)) L2.tNil))) : PE X e (tN C (fun ρ => (ev ρ).bind fun d ρ => R.of (b1 .setT d) ρ) pu (.l .s)) := PE.imp h fun σ H Q ⟨ρ, B, G, fp, R0, q⟩ => by
  have q : Post C B G H σ pu _ _ := q
  refine ⟨ρ, B, G, fp, R0, (q.bind (pu1 := pu) (pu2 := true) (by simp)).mono fun d B1 G1 H1 fp1 ρ1 _ _ r1 k v hv => ?_⟩
  obtain ⟨d', e1, k⟩ := Post.of_some k
  cases d with
  | list ds =>
    simp only [b1] at e1
    split at e1
    · rename_i xs hxs
      split at e1
      · rename_i hc
        cases e1
        rw [Bool.and_eq_true, decide_eq_true_eq] at hc
        obtain ⟨hd, hm⟩ := okT_ok hc.2
        obtain ⟨a, vs, rfl, h1, t⟩ := hv.list r1.bh
        obtain ⟨ks, rfl, h2, h3⟩ := dv_intss t hxs
        have hl : ks.length < 64 := by
          have := t.length
          rw [List.length_map] at this
          omega
        refine ⟨a, ks, rfl, h1, fun p hp => Le.tup r1.bh (h3 p hp), hl, fun s L hs l1 l2 => ?_⟩
        have x1 : Ext B1 H1 B1 (upd H1 s (SetTO Pg w s L)) := Ext.newH r1.bh hs _
        have mem2 : ∀ p ∈ L, p.2 ∈ xs := fun p hp => by rw [← h2]; exact List.mem_map.mpr ⟨p, l1 p hp, rfl⟩
        refine ⟨s, L, hdL xs, SB, rfl, upd_same, fun p hp => Le.tup x1.bh (h3 p (l1 p hp)), hd, fun p hp => hm _ (mem2 p hp), fun L' p pm nd _ pw hp => ?_⟩
        have key : L'.map (·.2) = setT xs := by
          refine rising_eq (TS.code SB) ?_ (setT_rise hm) fun b => ?_
          · rw [List.pairwise_map]
            have nd2 := List.pairwise_map.mp nd
            refine (pw.and nd2).imp_of_mem fun {q r} hq hr z => ?_
            rcases Int.lt_or_eq_of_le z.1 with y | y
            · exact y
            · have h3 := hm _ (mem2 q (pm.mem_iff.mp hq))
              have h4 := hm _ (mem2 r (pm.mem_iff.mp hr))
              exact absurd (code_inj (h3.1.trans h4.1.symm) h3.2 h4.2 y) z.2
          · rw [setT_mem]
            constructor
            · intro hb
              obtain ⟨q, hq, rfl⟩ := List.mem_map.mp hb
              exact mem2 q (pm.mem_iff.mp hq)
            · intro hb
              rw [← h2] at hb
              obtain ⟨q, hq, rfl⟩ := List.mem_map.mp hb
              obtain ⟨r, hr, e⟩ := List.mem_map.mp (l2 q hq)
              exact List.mem_map.mpr ⟨r, pm.mem_iff.mpr hr, e⟩
        have all : ∀ M : List (Addr × List Int), (∀ q ∈ M, SqT C.K B1 q.1 (q.2.map V.int)) → DvAll C.K B1 (M.map fun q => V.ref q.1) ((M.map (·.2)).map tI) := fun M => by
          induction M with
          | nil => exact fun _ => .nil
          | cons q M ih =>
            intro hM
            refine .cons (.tup (hM q List.mem_cons_self) ?_) (ih fun r hr => hM r (List.mem_cons_of_mem _ hr))
            show DvAll C.K B1 (q.2.map V.int) (q.2.map PyData.int)
            generalize q.2 = is
            induction is with
            | nil => exact .nil
            | cons i is ihi => exact .cons (.int i) ihi
        have dv : DvAll C.K B1 (L'.map fun q => V.ref q.1) ((setT xs).map tI) := by
          rw [← key]
          exact all L' fun q hq => h3 q (l1 q (pm.mem_iff.mp hq))
        exact PostV.newL ((k.fin r1).later x1) x1.bh dv hp
      · cases e1
    · cases e1
  | _ => simp [b1] at e1
end
end TV
/-! V26: enumerate of lists and tuples, zip. -/
namespace TV
open PySem
open AutoSeq1 (wpAny_loadPart')
set_option maxHeartbeats 1000000 in
theorem meets_enumT (p : Addr) (its : Array Value) (m : Nat) (dct : Option Addr) (sl : Array (Option Value)) :
    Meets (Builtin.«enumerate.__new__» ⟨[.type "enumerate", .ref p], []⟩) (fun _ R t => t.heap.get? p = some { cls := .type "tuple", dict := dct, data := .seq its m, slots := sl } ∧
      R (.ok (.ret (.ref (t.heap.push { cls := .type "tuple_iterator", data := .fields #[.ref p, .int 0 0] }).objs.size)))
        { t with heap := (t.heap.push { cls := .type "tuple_iterator", data := .fields #[.ref p, .int 0 0] }).push { cls := .type "enumerate", data := .fields #[.none, .bool false, .ref t.heap.objs.size, rawInt 0, .none, .none] } }) :=
  .of_wp fun prog w A R t h => by
    obtain ⟨hp, gs, dr, tk, osn⟩ := t
    obtain ⟨at_, h⟩ := h
    have sub := sub_enumerate
    have isT : Heap.IsTuple (Shared.heap ⟨hp, gs, dr, tk, osn⟩) p its := ⟨_, at_, rfl, m, rfl⟩
    wp_walk using wpAny_loadPart' at_
    refine wpAny_stack_any fun st => wpAny_pure ?_
    split
    · rename_i cv _ _ _ _ _
      cases (cv == Value.type "enumerate")
      · wp_walk using wpAny_loadPart' at_, wpAny_pyIter_tuple isT
        exact ⟨_, rfl, h⟩
      · wp_walk using wpAny_loadPart' at_, wpAny_pyIter_tuple isT
        exact ⟨_, rfl, h⟩
    · wp_walk using wpAny_loadPart' at_, wpAny_pyIter_tuple isT
      exact ⟨_, rfl, h⟩
section
variable {prog : Program} {w : World} {A : Around} {E : Value → Shared → Prop} {s : Shared}
theorem call_enumT {p : Addr} {its : Array Value} {Q : Value → Shared → Prop} (isT : s.heap.IsTuple p its)
    (h : ∀ h2, IsEnum h2 (s.heap.objs.size + 1) s.heap.objs.size 0 .none → h2.IsTupleIter s.heap.objs.size p 0 → (∀ b o, s.heap.get? b = some o → h2.get? b = some o) → Q (.ref (s.heap.objs.size + 1)) { s with heap := h2 }) :
    wpAny (model prog w) A (call (.type "enumerate") [.ref p]) Q E s := by
  obtain ⟨⟨cl, dct, dt, sl⟩, at_, hcl, m, hdt⟩ := isT
  replace hcl : cl = .type "tuple" := hcl
  replace hdt : dt = .seq its m := hdt
  subst hcl hdt
  refine callType_new F.called_enumerate (by decide) (F.typeCall_enumerate_1 _) (F.newCall_enumerate_1 _) (fun ob => F.args_object_init_2 ob _) F.entry_enumerate_new (meets_enumT p its m dct sl) ⟨at_, ?_⟩
  have sz : (s.heap.push { cls := .type "tuple_iterator", data := .fields #[.ref p, .int 0 0] }).objs.size = s.heap.objs.size + 1 := Heap.size_push ..
  show _ ∧ _
  rw [sz]
  have en : IsEnum ((s.heap.push { cls := .type "tuple_iterator", data := .fields #[.ref p, .int 0 0] }).push { cls := .type "enumerate", data := .fields #[.none, .bool false, .ref s.heap.objs.size, rawInt 0, .none, .none] }) (s.heap.objs.size + 1) s.heap.objs.size 0 .none := by
    have z := Heap.get?_push_size (s.heap.push { cls := .type "tuple_iterator", data := .fields #[.ref p, .int 0 0] }) (o := { cls := .type "enumerate", data := .fields #[.none, .bool false, .ref s.heap.objs.size, rawInt 0, .none, .none] }) rfl
    rw [sz] at z; exact z
  exact ⟨⟨_, en, rfl⟩, h _ en ⟨_, Heap.get?_push_of_some _ (Heap.get?_push_size _ rfl), rfl, rfl⟩ fun b o x => Heap.get?_push_of_some _ (Heap.get?_push_of_some _ x)⟩
/-- a tuple's iterator, drawn from -/
theorem draws_tup {it p : Addr} {its : Array Value} (hh : A.handled = none) (hne : p ≠ it) : Draws prog w A it [it, p] its.size (fun i x => its[i]? = some x) (fun i h => h.IsTupleIter it p i ∧ h.IsTuple p its) where
  live := fun i h st => let ⟨⟨o, ho, _⟩, _⟩ := st; ⟨o, ho⟩
  frame := fun i h h' st k => by
    obtain ⟨a, ⟨o, ho, r⟩⟩ := st
    exact ⟨a.at fun o e => k it (by simp) o e, ⟨o, k p (by simp) o ho, r⟩⟩
  item := fun i s Q E hi st hQ => by
    refine RZ.nextOf_tuple_item st.1 st.2 (x := its[i]) (by simp [hi]) fun h' hit sb => ?_
    obtain ⟨o, ho, r⟩ := st.2
    exact hQ _ h' s.toks (by simp [hi]) ⟨hit, ⟨o, (sb.2 p hne).trans ho, r⟩⟩ sb
  done := fun s Q E st hE => RZ.nextOf_tuple_end hh st.1 st.2 (by simp) hE
end
end TV
namespace TV
open PySem PySem.Spec PyProof.Rows L2
/-- the tuple at p as it stands at each turn, each item in a new pair -/
def IteT (K : PySem.W.Frag) (p : Addr) : It :=
  ⟨fun i H => ∃ xs x, SqT K H p xs ∧ xs[i]? = some x, fun i H v H' => ∃ t x, v = .ref t ∧ H t = none ∧ H' = upd H t (.tup [.int (i : Nat), x]) ∧ ∀ xs, SqT K H p xs → xs[i]? = some x, fun i H => ∃ xs, SqT K H p xs ∧ xs.length ≤ i⟩
theorem turn_enumT {P : Program} {w : World} {K : PySem.W.Frag} {elts : List Expr} {kk : Nat} {tpos : Pos} (p e it : Addr) :
    Turn P w K (.Tuple elts kk tpos) (IteT K p) [e, it] e (fun i h => (∃ old, IsEnum h e it ((i : Nat) : Int) old) ∧ h.IsTupleIter it p i ∧ e ≠ it) where
  mem := by simp
  obj := fun i h st b hb => by
    obtain ⟨⟨old, en⟩, ⟨o, ho, hc, hd⟩, _⟩ := st
    have hb : b = e ∨ b = it := by simpa using hb
    rcases hb with z | z
    · subst z; exact ⟨_, en, fun v q => nomatch q⟩
    · subst z; exact ⟨o, ho, fun v q => by rw [hd] at q; cases q⟩
  keep := fun i h h' st k => let ⟨⟨old, en⟩, hi, hne⟩ := st; ⟨⟨old, k e (by simp) _ en⟩, hi.at fun o q => k it (by simp) o q, hne⟩
  item := by
    intro X hP hw hK hc i pins s σ H E I hf st hg
    subst hP hw hK
    obtain ⟨⟨old, en⟩, hit, hne⟩ := st
    obtain ⟨xs, x, hq, hx⟩ := hg
    obtain ⟨its, rv, pt, hz⟩ := I.tuple hq
    obtain ⟨u, hu, ru⟩ := rv.get hx
    have el : e < s.heap.objs.size := Heap.lt_size en
    have il : it < s.heap.objs.size := by obtain ⟨_, q, _⟩ := hit; exact Heap.lt_size q
    have pt2 : s.heap.IsTuple p its.toArray := pt
    have pne : p ≠ it := fun z => by
      obtain ⟨o1, h1, h2, _⟩ := hit
      obtain ⟨o2, g1, g2, _⟩ := pt2
      rw [z, h1] at g1
      cases g1
      rw [h2] at g2
      exact absurd g2 (by decide)
    have pne2 : e ≠ p := fun z => by
      obtain ⟨o2, g1, g2, _⟩ := pt2
      rw [← z, en] at g1
      cases g1
      exact absurd (show Value.type "enumerate" = Value.type "tuple" from g2) (by decide)
    refine wpAny_pyNext_enum_itemD (draws_tup (I.ok.hd hc) pne) en ⟨hit, pt2⟩ (by simpa using (List.getElem?_eq_some_iff.mp hu).1) hne (by simp [hne, pne2]) fun y h2 tk hy ho st2 hT hsz hk => ?_
    obtain rfl : y = u := by
      have hy : its.toArray[i]? = some y := hy
      rw [List.getElem?_toArray, hu] at hy
      exact (Option.some.inj hy).symm
    refine ⟨_, rfl, wpAny_letOwnedTupleGo_enum (s := { s with heap := h2, toks := tk + 1 }) ho fun h3 en3 sb => ?_⟩
    have hT2 : h3.get? s.heap.objs.size = some { cls := .type "tuple", data := .seq #[.int i tk, y] } := (sb.2 _ (Nat.ne_of_gt el)).trans hT
    have new : ObjOk X.prog X.w (upd H s.heap.objs.size (.tup [.int (i : Nat), x])) h3 s.heap.objs.size (.tup [.int (i : Nat), x]) :=
      ⟨by show 2 ≤ sizeLine; decide, [.int i tk, y], .cons ⟨_, rfl⟩ (.cons ru .nil), ⟨_, hT2, rfl, _, rfl⟩⟩
    have I1 : Inv X pins σ (upd H s.heap.objs.size (.tup [.int (i : Nat), x])) { s with heap := h3, toks := tk + 1 } :=
      I.turnedNew (ch := [e, it]) (fun b ob hb q => (sb.2 b (fun z => hb (by simp [z]))).trans (hk b ob (fun z => hb (by simp [z])) (fun z => hb (by simp [z])) q)) hf (Nat.le_refl _) new
    refine ⟨.ref s.heap.objs.size, _, I1, rfl, ⟨_, x, rfl, I.hok.fresh (Nat.le_refl _), rfl, fun ys hy => by rw [I.tuple_inj hy hq]; exact hx⟩, ⟨⟨y, ?_⟩, st2.1.at fun o q => (sb.2 it (Ne.symm hne)).trans q, hne⟩, fun b hb => ?_⟩
    · have e1 : ((i + 1 : Nat) : Int) = (i : Int) + 1 := by omega
      rw [e1]; exact en3
    · have hbl : b < s.heap.objs.size := by
        have hb : b = e ∨ b = it := by simpa using hb
        rcases hb with z | z <;> (rw [z]; assumption)
      rw [upd_ne (Nat.ne_of_lt hbl)]
      exact (hf b hb).1
  done := by
    intro X hP hw hK hc i pins s σ H E I hf st hg
    subst hP hw hK
    obtain ⟨⟨old, en⟩, hit, hne⟩ := st
    obtain ⟨xs, hq, hx⟩ := hg
    obtain ⟨its, rv, pt, hz⟩ := I.tuple hq
    obtain ⟨f0, f1, f2, f3, f4, f5⟩ := hf it (by simp)
    have hl := rv.length
    have pt2 : s.heap.IsTuple p its.toArray := pt
    have D : Draws X.prog X.w X.A.in1 it [it, p] i (fun _ _ => False) (fun j h => j = i ∧ h.IsTupleIter it p i ∧ h.IsTuple p its.toArray) :=
      { live := fun j h z => let ⟨o, ho, _⟩ := z.2.1; ⟨o, ho⟩
        frame := fun j h h' z k => ⟨z.1, z.2.1.at fun o e => k it (by simp) o e, let ⟨o, ho, r⟩ := z.2.2; ⟨o, k p (by simp) o ho, r⟩⟩
        item := fun j s Q E hj z => absurd z.1 (by omega)
        done := fun s Q E z hE => RZ.nextOf_tuple_end (I.ok.hd hc) z.2.1 z.2.2 (by simp; omega) hE }
    exact wpAny_pyNext_enum_endD D en ⟨rfl, hit, pt2⟩ fun h' eb => ⟨rfl, I.turned (t' := s.toks) (fun b o hb q => eb b o hb q) f0 f1 f3 f4 f5⟩
  self := fun A i s Q E st h => let ⟨⟨_, en⟩, _⟩ := st; wpAny_pyIter_enum en h
def iEnumA (K : PySem.W.Frag) (ta : TA) : TI := fun σ H R => ta σ H fun vs H1 => ∃ a, vs = [.ref a] ∧ ((∃ xs, SqL K H1 a xs ∧ R (Ite K a) H1) ∨ ∃ xs, SqT K H1 a xs ∧ R (IteT K a) H1)
theorem pi_enumA {X : Cx} {e : Expr} {ta : TA} {p pos tpos : Pos} {elts : List Expr} {kk : Nat} (hg : Gl X "enumerate") (hm : X.mg "enumerate" = none) (ha : PA X [e] ta) (hs : starEach [e] X.env = [(false, eval e X.env)]) :
    PI X (.Tuple elts kk tpos) (.Call (.Name "enumerate" p) [e] [] pos) (iEnumA X.K ta) := by
  refine ⟨fun pins s σ H Rr I h => ?_⟩
  refine Call_ (ld_blt I hg hm boot_enumerate (PyProof.Rows.callWith_type1 (thn (ha.run pos pins s σ H _ I h) fun us t1 ⟨vs, H1, I1, rl, q1⟩ => ?_) hs rfl))
  obtain ⟨a, rfl, q⟩ := q1
  have two : ∀ b ∈ [t1.heap.objs.size + 1, t1.heap.objs.size], FpOk X pins H1 b := fun b hb => by
    have hb : b = t1.heap.objs.size + 1 ∨ b = t1.heap.objs.size := by simpa using hb
    have low : t1.heap.objs.size ≤ b := by omega
    exact I1.fpOk low (I1.hok.fresh low)
  cases rl with
  | cons r0 rr =>
    cases rr
    cases r0
    rcases q with ⟨xs, hq, q⟩ | ⟨xs, hq, q⟩
    · obtain ⟨its, rv, pl, _⟩ := I1.list hq
      exact call_enumerate_list pl.isList fun h2 en it _ kp => wpAny_pyIter_enum en
        ⟨t1.heap.objs.size + 1, [t1.heap.objs.size + 1, t1.heap.objs.size], _, _, H1, rfl, I1.kept (t' := t1.toks) kp, turn_enum a (t1.heap.objs.size + 1) t1.heap.objs.size, ⟨⟨.none, en⟩, it, Nat.succ_ne_self _⟩, two, q⟩
    · obtain ⟨its, rv, pt, _⟩ := I1.tuple hq
      exact call_enumT (show t1.heap.IsTuple a its.toArray from pt) fun h2 en it kp => wpAny_pyIter_enum en
        ⟨t1.heap.objs.size + 1, [t1.heap.objs.size + 1, t1.heap.objs.size], _, _, H1, rfl, I1.kept (t' := t1.toks) kp, turn_enumT a (t1.heap.objs.size + 1) t1.heap.objs.size, ⟨⟨.none, en⟩, it, Nat.succ_ne_self _⟩, two, q⟩
section
variable {X : Cx} {C : Ct} {K : PySem.W.Frag} {B H : Hp} {eva evb : Env → R D} {pa pb : Bool}
theorem enumD_get {ds : List D} {k : Nat} {d : D} (h : ds[k]? = some d) : (enumD ds)[k]? = some (.tuple [.int (k : Nat), d]) := by
  unfold enumD
  rw [List.getElem?_map, List.getElem?_zipIdx, h]
  simp
theorem enumD_len {ds : List D} : (enumD ds).length = ds.length := by unfold enumD; simp
theorem dv_pair {B1 : Hp} {t : Addr} {v1 v2 : V} {d1 d2 : D} (e : Same B1 H) (hn : H t = none) (h1 : Dv K B1 v1 d1) (h2 : Dv K B1 v2 d2) : Ext B1 H (upd B1 t (.tup [v1, v2])) (upd H t (.tup [v1, v2])) ∧ Dv K (upd B1 t (.tup [v1, v2])) (.ref t) (.tuple [d1, d2]) := by
  have sb : Same B1 (upd B1 t (.tup [v1, v2])) := same_upd (e.free hn) _
  exact ⟨Ext.new1 e hn _, .tup (.of upd_same) (.cons (h1.mono sb) (.cons (h2.mono sb) .nil))⟩
theorem walk_enumL {a : Addr} {vs : List V} {ds : List D} (h : B a = some (.lst vs)) (t : DvAll K B vs ds) : Walk K B B (Ite K a) (enumD ds) where
  go := fun k H e hk => by
    rw [enumD_len] at hk
    obtain ⟨v, h1, _⟩ := t.get (List.getElem?_eq_getElem hk)
    exact ⟨vs, v, SqL_eq h e, h1⟩
  stop := fun k H e hk => ⟨vs, SqL_eq h e, by rw [enumD_len] at hk; rw [t.length]; exact hk⟩
  yld := fun k H x H' B1 b1 e' _ y hk => by
    rw [enumD_len] at hk
    obtain ⟨T, w, rfl, hT, rfl, hw⟩ := y
    have hd := List.getElem?_eq_getElem hk
    obtain ⟨v, h1, h2⟩ := t.get hd
    have := hw vs (SqL_eq h (b1.trans e'))
    rw [h1] at this
    cases this
    obtain ⟨x1, x2⟩ := dv_pair (K := K) e' hT (.int (k : Nat)) (h2.mono b1)
    exact ⟨_, _, enumD_get hd, x1, x2⟩
theorem walk_enumT {a : Addr} {vs : List V} {ds : List D} (h : SqT K B a vs) (t : DvAll K B vs ds) : Walk K B B (IteT K a) (enumD ds) where
  go := fun k H e hk => by
    rw [enumD_len] at hk
    obtain ⟨v, h1, _⟩ := t.get (List.getElem?_eq_getElem hk)
    exact ⟨vs, v, Le.tup e h, h1⟩
  stop := fun k H e hk => ⟨vs, Le.tup e h, by rw [enumD_len] at hk; rw [t.length]; exact hk⟩
  yld := fun k H x H' B1 b1 e' _ y hk => by
    rw [enumD_len] at hk
    obtain ⟨T, w, rfl, hT, rfl, hw⟩ := y
    have hd := List.getElem?_eq_getElem hk
    obtain ⟨v, h1, h2⟩ := t.get hd
    have := hw vs (Le.tup (b1.trans e') h)
    rw [h1] at this
    cases this
    obtain ⟨x1, x2⟩ := dv_pair (K := K) e' hT (.int (k : Nat)) (h2.mono b1)
    exact ⟨_, _, enumD_get hd, x1, x2⟩
theorem tw_enum {tg e : Expr} (h : PI X tg e (iEnumA C.K (L2.tCons (tS C eva pa) L2.tNil))) : PI X tg e (tW C (fun ρ => (eva ρ).bind fun d ρ => R.of ((itemsD d).map enumD) ρ) pa) := PI.imp h fun σ H Rr ⟨ρ, B, G, fp, r, q⟩ => by
  have q : Post C B G H σ pa _ _ := q
  refine ⟨ρ, B, G, fp, r, (q.bind (pu1 := pa) (pu2 := true) (by simp)).mono fun d B1 G1 H1 fp1 ρ1 _ _ r1 k v hv => ?_⟩
  obtain ⟨es, e1, k⟩ := Post.of_some k
  have k := k B1 G1 H1 fp1 .refl (fun _ => Same.refl _) r1
  cases d with
  | list ds =>
    simp only [itemsD, Option.map_some, Option.some.injEq] at e1
    subst e1
    cases hv with
    | lst h0 t => exact ⟨_, rfl, .inl ⟨_, SqL_eq h0 r1.bh, k _ (walk_enumL h0 t)⟩⟩
  | tuple ds =>
    simp only [itemsD, Option.map_some, Option.some.injEq] at e1
    subst e1
    cases hv with
    | tup h0 t => exact ⟨_, rfl, .inr ⟨_, Le.tup r1.bh h0, k _ (walk_enumT h0 t)⟩⟩
  | _ => simp [itemsD] at e1
/-! ### zip -/
theorem zipD_get {as bs : List D} {k : Nat} {a b : D} (h1 : as[k]? = some a) (h2 : bs[k]? = some b) : (zipD as bs)[k]? = some (.tuple [a, b]) := by
  unfold zipD
  rw [List.getElem?_map, List.getElem?_zip_eq_some (z := (a, b)) |>.mpr ⟨h1, h2⟩]
  rfl
theorem zipD_len {as bs : List D} : (zipD as bs).length = min as.length bs.length := by unfold zipD; rw [List.length_map, List.length_zip]
theorem walk_zipL {a b : Addr} {vs us : List V} {ds es : List D} (h : B a = some (.lst vs)) (t : DvAll K B vs ds) (h2 : B b = some (.lst us)) (t2 : DvAll K B us es) : Walk K B B (Itz K a b) (zipD ds es) where
  go := fun k H e hk => by
    rw [zipD_len] at hk
    obtain ⟨v, q1, _⟩ := t.get (List.getElem?_eq_getElem (show k < ds.length by omega))
    obtain ⟨u, q2, _⟩ := t2.get (List.getElem?_eq_getElem (show k < es.length by omega))
    exact ⟨vs, us, v, u, SqL_eq h e, SqL_eq h2 e, q1, q2⟩
  stop := fun k H e hk => ⟨vs, us, SqL_eq h e, SqL_eq h2 e, by rw [zipD_len] at hk; rw [t.length, t2.length]; omega⟩
  yld := fun k H x H' B1 b1 e' _ y hk => by
    rw [zipD_len] at hk
    obtain ⟨W, w1, w2, rfl, hW, rfl, q1, q2⟩ := y
    have g1 := List.getElem?_eq_getElem (show k < ds.length by omega)
    have g2 := List.getElem?_eq_getElem (show k < es.length by omega)
    obtain ⟨v, p1, p2⟩ := t.get g1
    obtain ⟨u, p3, p4⟩ := t2.get g2
    have z1 := q1 vs (SqL_eq h (b1.trans e'))
    have z2 := q2 us (SqL_eq h2 (b1.trans e'))
    rw [p1] at z1; cases z1
    rw [p3] at z2; cases z2
    obtain ⟨x1, x2⟩ := dv_pair (K := K) e' hW (p2.mono b1) (p4.mono b1)
    exact ⟨_, _, zipD_get g1 g2, x1, x2⟩
theorem walk_zipT {a b : Addr} {vs us : List V} {ds es : List D} (h : SqT K B a vs) (t : DvAll K B vs ds) (h2 : SqT K B b us) (t2 : DvAll K B us es) : Walk K B B (RZ.ItzT K a b) (zipD ds es) where
  go := fun k H e hk => by
    rw [zipD_len] at hk
    obtain ⟨v, q1, _⟩ := t.get (List.getElem?_eq_getElem (show k < ds.length by omega))
    obtain ⟨u, q2, _⟩ := t2.get (List.getElem?_eq_getElem (show k < es.length by omega))
    exact ⟨vs, us, v, u, Le.tup e h, Le.tup e h2, q1, q2⟩
  stop := fun k H e hk => ⟨vs, us, Le.tup e h, Le.tup e h2, by rw [zipD_len] at hk; rw [t.length, t2.length]; omega⟩
  yld := fun k H x H' B1 b1 e' _ y hk => by
    rw [zipD_len] at hk
    obtain ⟨W, w1, w2, rfl, hW, rfl, q1, q2⟩ := y
    have g1 := List.getElem?_eq_getElem (show k < ds.length by omega)
    have g2 := List.getElem?_eq_getElem (show k < es.length by omega)
    obtain ⟨v, p1, p2⟩ := t.get g1
    obtain ⟨u, p3, p4⟩ := t2.get g2
    have z1 := q1 vs (Le.tup (b1.trans e') h)
    have z2 := q2 us (Le.tup (b1.trans e') h2)
    rw [p1] at z1; cases z1
    rw [p3] at z2; cases z2
    obtain ⟨x1, x2⟩ := dv_pair (K := K) e' hW (p2.mono b1) (p4.mono b1)
    exact ⟨_, _, zipD_get g1 g2, x1, x2⟩
theorem tw_zip {tg e : Expr} (h : PI X tg e (RZ.iZipA C.K (L2.tCons (tS C eva pa) (L2.tCons (tS C evb pb) L2.tNil)))) : PI X tg e (tW C (fun ρ => (eva ρ).bind fun x ρ => (evb ρ).bind fun y ρ => match x, y with
    | .list as, .list bs => .ok (zipD as bs) ρ
    | .tuple as, .tuple bs => .ok (zipD as bs) ρ
    | _, _ => .no) (pa && pb)) := PI.imp h fun σ H Rr ⟨ρ, B, G, fp, r, q⟩ => by
  have q : Post C B G H σ (pa && pb) _ _ := q
  refine ⟨ρ, B, G, fp, r, (q.bind (pu1 := pa) (pu2 := pb) rfl).mono fun d B1 G1 H1 fp1 ρ1 _ _ r1 k v hv => ?_⟩
  refine ⟨ρ1, B1, G1, fp1, r1, (k.bind (pu1 := pb) (pu2 := true) (by simp)).mono fun d2 B2 G2 H2 fp2 ρ2 u2 _ r2 k v2 hv2 => ?_⟩
  have hv := hv.mono u2.b
  cases d with
  | list as =>
    cases d2 with
    | list bs =>
      cases hv with
      | lst z1 t1 =>
        cases hv2 with
        | lst z2 t2 => exact ⟨_, _, _, _, rfl, .inl ⟨SqL_eq z1 r2.bh, SqL_eq z2 r2.bh, k B2 G2 H2 fp2 .refl (fun _ => Same.refl _) r2 _ (walk_zipL z1 t1 z2 t2)⟩⟩
    | _ => exact k.elim
  | tuple as =>
    cases d2 with
    | tuple bs =>
      cases hv with
      | tup z1 t1 =>
        cases hv2 with
        | tup z2 t2 => exact ⟨_, _, _, _, rfl, .inr ⟨Le.tup r2.bh z1, Le.tup r2.bh z2, k B2 G2 H2 fp2 .refl (fun _ => Same.refl _) r2 _ (walk_zipT z1 t1 z2 t2)⟩⟩
    | _ => exact k.elim
  | _ => exact k.elim
end
end TV
/-! list(zip(a, b)): the pairs are new objects, the list holds them. -/
namespace TV
open PySem PySem.Spec PyProof.Rows L2
open Sem (wp)
section
variable {prog : Program} {w : World} {A : Around} {E : Value → Shared → Prop} {s : Shared} {z TI TO i1 i2 T : Addr} {f1 f2 : List Addr} {n1 n2 i : Nat} {P1 P2 : Nat → Value → Prop} {St1 St2 : Nat → Heap → Prop} {oT : Obj} {b : Bool}
theorem lz_raw {Q : Value → Shared → Prop} (S : ZipSep2 z TI TO i1 i2 f1 f2) (D1 : Draws prog w A i1 f1 n1 P1 St1) (D2 : Draws prog w A i2 f2 n2 P2 St2)
    (hz : IsZipHeld s.heap z TI TO T b) (hT : s.heap.get? T = some oT) (hTI : IsTupOf2 s.heap TI (.ref i1) (.ref i2)) (st1 : St1 i s.heap) (st2 : St2 i s.heap) (hlt1 : i < n1) (hlt2 : i < n2)
    (hQ : ∀ x1 x2 h' tk, P1 i x1 → P2 i x2 → IsZipHeld h' z TI TO T true → St1 (i + 1) h' → St2 (i + 1) h' → IsTupOf2 h' s.heap.objs.size x1 x2 → h'.objs.size = s.heap.objs.size + 1 →
      (∀ c o, c ≠ z → c ≠ i1 → c ≠ i2 → s.heap.get? c = some o → h'.get? c = some o) → Q (.ref s.heap.objs.size) { s with heap := h', toks := tk }) :
    wpAny (model prog w) A (Builtin.«zip.__next__» ⟨[.ref z], []⟩) (fun fin s' => ∃ v, fin = .done (.ret v) ∧ Q v s') E s := by
  obtain ⟨hp, g, dr, tk0, os0⟩ := s
  show wpAny _ _ (field (.ref z) 2 >>= _) _ _ _; refine wpAny_bind (wpAny_field hz rfl (x := .bool false) rfl ?_)
  show wpAny _ _ (field (.ref z) 3 >>= _) _ _ _; refine wpAny_bind (wpAny_field hz rfl (x := .ref TI) rfl ?_); refine wpAny_bind (wpAny_seqItems hTI rfl ?_)
  show wpAny _ _ (Builtin.SmallTypes.ownedTupleIsFree (.ref z) >>= _) _ _ _; refine wpAny_bind (wpAny_tupleHeld_zip hz hT fun q0 hz0 hs0 => ?_)
  replace hs0 : Heap.SameBut z hp q0 := hs0
  simp only [Bool.false_eq_true, if_false]; refine wpAny_bind ?_
  rw [← Array.forIn_toList]; simp only [List.forIn_cons, List.forIn_nil]
  refine wpAny_bind (wpAny_bind (wpAny_holding ?_)); show wpAny _ _ (Builtin.SmallTypes.nextOf (.ref i1) >>= _) _ _ ⟨q0, g, dr, tk0, os0⟩
  refine wpAny_bind (D1.item i _ _ _ hlt1 (D1.over st1 hs0 S.zf1) fun x1 p1 tk1 hx1 sn1 hp1 => wpAny_pure ?_); replace hp1 : Heap.SameBut i1 q0 p1 := hp1
  refine wpAny_pure ?_; refine wpAny_bind (wpAny_bind (wpAny_holding ?_))
  show wpAny _ _ (Builtin.SmallTypes.nextOf (.ref i2) >>= _) _ _ ⟨p1, g, dr, tk1, os0⟩
  refine wpAny_bind (D2.item i _ _ _ hlt2 (D2.over (D2.over st2 hs0 S.zf2) hp1 S.sep1_2) fun x2 p2 tk2 hx2 sn2 hp2 => wpAny_pure ?_); replace hp2 : Heap.SameBut i2 p1 p2 := hp2
  refine wpAny_pure (wpAny_pure ?_); show wpAny _ _ (newTuple [x1, x2] >>= _) _ _ ⟨p2, g, dr, tk2, os0⟩; refine wpAny_bind (wpAny_newTuple ?_)
  have hsz : p2.objs.size = hp.objs.size := by rw [hp2.1, hp1.1, hs0.1]
  have hz2 : IsZipHeld p2 z TI TO T true := hp2.extBut _ _ S.zi2 (hp1.extBut _ _ S.zi1 hz0)
  have hk : ∀ c o, c ≠ z → c ≠ i1 → c ≠ i2 → hp.get? c = some o → p2.get? c = some o := fun c o cz c1 c2 e => hp2.extBut _ _ c2 (hp1.extBut _ _ c1 (hs0.extBut _ _ cz e))
  have up : ∀ c o, p2.get? c = some o → (p2.push { cls := .type "tuple", data := .seq #[x1, x2] }).get? c = some o := fun c o e => Heap.get?_push_of_some _ e
  have hp : IsTupOf2 (p2.push { cls := .type "tuple", data := .seq #[x1, x2] }) p2.objs.size x1 x2 := Heap.get?_push_size _ rfl
  have hz4 : (p2.push { cls := .type "tuple", data := .seq #[x1, x2] }).objs.size = p2.objs.size + 1 := Heap.size_push ..
  refine wpAny_pure ⟨_, rfl, ?_⟩; show Q (.ref p2.objs.size) _
  rw [hsz] at hp hz4 ⊢
  exact hQ x1 x2 _ tk2 hx1 hx2 (up _ _ hz2) (D1.frame _ _ _ (D1.over sn1 hp2 S.sep2_1) fun c _ o e => up c o e) (D2.frame _ _ _ sn2 fun c _ o e => up c o e) hp hz4 fun c o cz c1 c2 e => up c o (hk c o cz c1 c2 e)
theorem lz_item {Q : Option Value → Shared → Prop} (S : ZipSep2 z TI TO i1 i2 f1 f2) (D1 : Draws prog w A.in1 i1 f1 n1 P1 St1) (D2 : Draws prog w A.in1 i2 f2 n2 P2 St2)
    (hz : IsZipHeld s.heap z TI TO T b) (hT : s.heap.get? T = some oT) (hTI : IsTupOf2 s.heap TI (.ref i1) (.ref i2)) (st1 : St1 i s.heap) (st2 : St2 i s.heap) (hlt1 : i < n1) (hlt2 : i < n2)
    (hQ : ∀ x1 x2 h' tk, P1 i x1 → P2 i x2 → IsZipHeld h' z TI TO T true → St1 (i + 1) h' → St2 (i + 1) h' → IsTupOf2 h' s.heap.objs.size x1 x2 → h'.objs.size = s.heap.objs.size + 1 →
      (∀ c o, c ≠ z → c ≠ i1 → c ≠ i2 → s.heap.get? c = some o → h'.get? c = some o) → Q (some (.ref s.heap.objs.size)) { s with heap := h', toks := tk }) :
    wpAny (model prog w) A (pyNext (.ref z)) Q E s := by
  have hTy : s.TypeIs (.ref z) "zip" := ⟨_, hz, rfl⟩
  unfold pyNext; refine wpAny_bind (wpAny_attempt (wpAny_callSpecial?_slot (name := Str.ofString "__next__") hTy F.slot_zip_next (wpAny_call_entry F.slot_zip_next hTy F.entry_zip_next ?_ (F.args_zip_next_1 _))))
  exact lz_raw S D1 D2 hz hT hTI st1 st2 hlt1 hlt2 fun x1 x2 h' tk y1 y2 b1 d1 d2 b5 b6 b7 => wpAny_pure (hQ x1 x2 h' tk y1 y2 b1 d1 d2 b5 b6 b7)
theorem lz_rawEnd {Q : Fin → Shared → Prop} (S : ZipSep2 z TI TO i1 i2 f1 f2) (D1 : Draws prog w A i1 f1 n1 P1 St1) (D2 : Draws prog w A i2 f2 n2 P2 St2)
    (hz : IsZipHeld s.heap z TI TO T b) (hT : s.heap.get? T = some oT) (hTI : IsTupOf2 s.heap TI (.ref i1) (.ref i2)) (st1 : St1 i s.heap) (st2 : St2 i s.heap) (hle1 : i ≤ n1) (hle2 : i ≤ n2) (hend : i = n1 ∨ i = n2)
    (hE : ∀ h' tk e, (∀ c o, c ≠ z → c ≠ i1 → c ≠ i2 → s.heap.get? c = some o → h'.get? c = some o) → (∃ o, h'.get? e = some o ∧ o.cls = .type "StopIteration") → E (.ref e) { s with heap := h', toks := tk }) :
    wpAny (model prog w) A (Builtin.«zip.__next__» ⟨[.ref z], []⟩) Q E s := by
  obtain ⟨hp, g, dr, tk0, os0⟩ := s
  show wpAny _ _ (field (.ref z) 2 >>= _) _ _ _; refine wpAny_bind (wpAny_field hz rfl (x := .bool false) rfl ?_)
  show wpAny _ _ (field (.ref z) 3 >>= _) _ _ _; refine wpAny_bind (wpAny_field hz rfl (x := .ref TI) rfl ?_); refine wpAny_bind (wpAny_seqItems hTI rfl ?_)
  show wpAny _ _ (Builtin.SmallTypes.ownedTupleIsFree (.ref z) >>= _) _ _ _; refine wpAny_bind (wpAny_tupleHeld_zip hz hT fun q0 hz0 hs0 => ?_)
  replace hs0 : Heap.SameBut z hp q0 := hs0
  simp only [Bool.false_eq_true, if_false]; refine wpAny_bind ?_
  rw [← Array.forIn_toList]; simp only [List.forIn_cons, List.forIn_nil]
  refine wpAny_bind (wpAny_bind (wpAny_holding ?_)); show wpAny _ _ (Builtin.SmallTypes.nextOf (.ref i1) >>= _) _ _ ⟨q0, g, dr, tk0, os0⟩
  by_cases hlt1 : i < n1
  · have hi2 : i = n2 := by omega
    refine wpAny_bind (D1.item i _ _ _ hlt1 (D1.over st1 hs0 S.zf1) fun x1 p1 tk1 hx1 sn1 hp1 => wpAny_pure ?_); replace hp1 : Heap.SameBut i1 q0 p1 := hp1
    refine wpAny_pure ?_; refine wpAny_bind (wpAny_bind (wpAny_holding ?_))
    show wpAny _ _ (Builtin.SmallTypes.nextOf (.ref i2) >>= _) _ _ ⟨p1, g, dr, tk1, os0⟩
    refine wpAny_bind (D2.done ⟨p1, g, dr, tk1, os0⟩ _ _ (by rw [← hi2]; exact D2.over (D2.over st2 hs0 S.zf2) hp1 S.sep1_2) fun q e hq he => ?_)
    exact hE q tk1 e (fun c o cz c1 c2 x => hq _ _ c2 (hp1.extBut _ _ c1 (hs0.extBut _ _ cz x))) he
  · have hi1 : i = n1 := by omega
    refine wpAny_bind (D1.done ⟨q0, g, dr, tk0, os0⟩ _ _ (by rw [← hi1]; exact D1.over st1 hs0 S.zf1) fun q e hq he => ?_)
    exact hE q tk0 e (fun c o cz c1 c2 x => hq _ _ c1 (hs0.extBut _ _ cz x)) he
theorem lz_end {Q : Option Value → Shared → Prop} (S : ZipSep2 z TI TO i1 i2 f1 f2) (D1 : Draws prog w A.in1 i1 f1 n1 P1 St1) (D2 : Draws prog w A.in1 i2 f2 n2 P2 St2)
    (hz : IsZipHeld s.heap z TI TO T b) (hT : s.heap.get? T = some oT) (hTI : IsTupOf2 s.heap TI (.ref i1) (.ref i2)) (st1 : St1 i s.heap) (st2 : St2 i s.heap) (hle1 : i ≤ n1) (hle2 : i ≤ n2) (hend : i = n1 ∨ i = n2)
    (hQ : ∀ h' tk, (∀ c o, c ≠ z → c ≠ i1 → c ≠ i2 → s.heap.get? c = some o → h'.get? c = some o) → Q none { s with heap := h', toks := tk }) : wpAny (model prog w) A (pyNext (.ref z)) Q E s := by
  have hTy : s.TypeIs (.ref z) "zip" := ⟨_, hz, rfl⟩
  unfold pyNext; refine wpAny_bind (wpAny_attempt (wpAny_callSpecial?_slot (name := Str.ofString "__next__") hTy F.slot_zip_next (wpAny_call_entry F.slot_zip_next hTy F.entry_zip_next ?_ (F.args_zip_next_1 _))))
  refine lz_rawEnd S D1 D2 hz hT hTI st1 st2 hle1 hle2 hend fun h' tk e hk he => ?_
  obtain ⟨o, ho, hc⟩ := he; refine wpAny_bind (wpAny_isInstance (T := "StopIteration") (b := true) ⟨o, ho, hc⟩ isSubtype_stop ?_); exact wpAny_pure (hQ _ _ hk)
theorem lz_nolen : typeLookup (.type "zip") "__len__" = pure none := by rw [typeLookup_type, builtinLookup_eq_fast]; kernel_rfl
theorem lz_nohint : typeLookup (.type "zip") "__length_hint__" = pure none := by rw [typeLookup_type, builtinLookup_eq_fast]; kernel_rfl
/-- the state ahead of a turn -/
structure LzAt (S0 z TI TO i1 i2 : Addr) (St1 St2 : Nat → Heap → Prop) (i : Nat) (acc : Array Value) (h : Heap) : Prop where
  lst : ∃ c, h.get? S0 = some { cls := .type "list", dict := none, data := .seq acc c, slots := #[] }
  ti : IsTupOf2 h TI (.ref i1) (.ref i2)
  s1 : St1 i h
  s2 : St2 i h
  to : ∃ o, h.get? TO = some o
  zz : (IsZip h z TI TO .none ∧ ∃ a1 a2, IsTupOf2 h TO a1 a2) ∨ ∃ T b oT, IsZipHeld h z TI TO T b ∧ h.get? T = some oT ∧ T ≠ z ∧ T ≠ i1 ∧ T ≠ i2 ∧ T ≠ S0
/-- new pairs, one behind another -/
inductive Prs : List (V × V) → List V → Hp → Hp → Prop where
  | nil {H : Hp} : Prs [] [] H H
  | cons {p : Addr} {x y : V} {r : List (V × V)} {ps : List V} {H H2 : Hp} : H p = none → Prs r ps (upd H p (.tup [x, y])) H2 → Prs ((x, y) :: r) (.ref p :: ps) H H2
end
section
theorem upd_swap {H : Hp} {a b : Addr} {o u : HO} (h : a ≠ b) : upd (upd H a o) b u = upd (upd H b u) a o := by
  funext c; unfold upd
  by_cases h1 : c = a
  · by_cases h2 : c = b
    · exact absurd (h1.symm.trans h2) h
    · simp [h1, h]
  · simp [h1]
variable {X : Cx} {pins : List (Addr × Obj)} {σ : L2.St} {A : Around} {S0 z TI TO i1 i2 : Addr} {f1 f2 : List Addr} {St1 St2 : Nat → Heap → Prop} {its1 its2 : List Value} {R : Result → Shared → Prop}
theorem lz_loop (hh : A.handled = none) (S : ZipSep2 z TI TO i1 i2 f1 f2) (D1 : ∀ A : Around, A.handled = none → Draws X.prog X.w A i1 f1 its1.length (fun i v => its1[i]? = some v) St1) (D2 : ∀ A : Around, A.handled = none → Draws X.prog X.w A i2 f2 its2.length (fun i v => its2[i]? = some v) St2)
    (n1 : S0 ≠ z ∧ S0 ≠ TI ∧ S0 ≠ TO ∧ S0 ≠ i1 ∧ S0 ≠ i2) (n2 : S0 ∉ f1 ∧ S0 ∉ f2) (res : Value) {xs ys : List V} (rx : Vals xs its1) (ry : Vals ys its2) (hlim : min its1.length its2.length ≤ sizeLine) :
    ∀ (k i : Nat) (s : Shared) (H : Hp) (acc : List V) (accU : Array Value), min its1.length its2.length - i = k → i ≤ min its1.length its2.length → H S0 = none → Inv X pins σ (upd H S0 (.lst acc)) s → (∀ c ∈ [z, TO, i1, i2], FpOk X pins (upd H S0 (.lst acc)) c) → LzAt S0 z TI TO i1 i2 St1 St2 i accU s.heap → Vals acc accU.toList → acc.length = i →
    (∀ s' H' ps, H' S0 = none → Inv X pins σ (upd H' S0 (.lst (acc ++ ps))) s' → Prs ((xs.zip ys).drop i) ps H H' → R (.ok (.ret res)) s') →
    codeAny (model X.prog X.w) A (.builtin "list.extend.loop" ⟨[.ref S0, .ref z, res], []⟩) R s := by
  have l1 := rx.length
  have l2 := ry.length
  intro k
  induction k with
  | zero =>
    intro i s H acc accU hk hi hn I hf st hv ha hR
    obtain ⟨⟨c, hS⟩, hTI, s1, s2, ⟨oO, hO⟩, hz⟩ := st
    refine codeAny_builtin F.entry_extend_loop ?_; rw [Around.under_plainId F.plain_extend_loop _]
    show wpAny _ A.in1 (pyNext (.ref z) >>= _) _ _ s; refine wpAny_bind ?_
    have hd : (xs.zip ys).drop i = [] := List.drop_eq_nil_of_le (by rw [List.length_zip]; omega)
    have fin : ∀ h' tk, (∀ c o, c ≠ z → c ≠ TO → c ≠ i1 → c ≠ i2 → s.heap.get? c = some o → h'.get? c = some o) → R (.ok (.ret res)) { s with heap := h', toks := tk } := fun h' tk hk => by
      refine hR _ H [] hn ?_ (by rw [hd]; exact .nil)
      rw [List.append_nil]
      exact I.turnedL (t' := tk) (ch := [z, TO, i1, i2]) (fun b o hb e => hk b o (fun q => hb (by simp [q])) (fun q => hb (by simp [q])) (fun q => hb (by simp [q])) (fun q => hb (by simp [q])) e) hf
    rcases hz with ⟨hz, a1, a2, hTO⟩ | ⟨T, b, oT, hz, hT, r1, r2, r3, r4⟩
    · exact wpAny_pyNext_zipD2_end S (D1 _ hh) (D2 _ hh) hz hTI hTO s1 s2 (by omega) (by omega) (by omega) fun h' tk hk => wpAny_pure (fin h' tk hk)
    · exact lz_end S (D1 _ hh) (D2 _ hh) hz hT hTI s1 s2 (by omega) (by omega) (by omega) fun h' tk hk => wpAny_pure (fin h' tk fun c o a _ b' c' e => hk c o a b' c' e)
  | succ k ih =>
    intro i s H acc accU hk hi hn I hf st hv ha hR
    obtain ⟨⟨c, hS⟩, hTI, s1, s2, ⟨oO, hO⟩, hz⟩ := st
    have j1 : i < its1.length := by omega
    have j2 : i < its2.length := by omega
    have hvl : accU.size = i := by
      have h9 : accU.toList.length = acc.length := hv.length.symm
      rw [Array.length_toList] at h9
      rw [h9, ha]
    refine codeAny_builtin F.entry_extend_loop ?_; rw [Around.under_plainId F.plain_extend_loop _]
    show wpAny _ A.in1 (pyNext (.ref z) >>= _) _ _ s; refine wpAny_bind ?_
    have lt : ∀ {c o}, s.heap.get? c = some o → s.heap.objs.size ≠ c := fun e => Nat.ne_of_gt (Heap.lt_size e)
    have t1 : s.heap.objs.size ≠ i1 := by obtain ⟨_, e⟩ := (D1 A hh).live _ _ s1; exact lt e
    have t2 : s.heap.objs.size ≠ i2 := by obtain ⟨_, e⟩ := (D2 A hh).live _ _ s2; exact lt e
    have tS : s.heap.objs.size ≠ S0 := lt hS
    have go : s.heap.objs.size ≠ z → ∀ x1 x2 h' tk, its1[i]? = some x1 → its2[i]? = some x2 → (∀ c o, c ≠ z → c ≠ TO → c ≠ i1 → c ≠ i2 → s.heap.get? c = some o → h'.get? c = some o) → IsTupOf2 h' TI (.ref i1) (.ref i2) → (∃ o, h'.get? TO = some o) → IsTupOf2 h' s.heap.objs.size x1 x2 → St1 (i + 1) h' → St2 (i + 1) h' →
        ((∃ T b oT, IsZipHeld h' z TI TO T b ∧ h'.get? T = some oT ∧ T ≠ z ∧ T ≠ i1 ∧ T ≠ i2 ∧ T ≠ S0)) →
        wpAny (model X.prog X.w) A.in1 (updateSeq S0 (·.push (.ref s.heap.objs.size)) >>= fun _ => again (.builtin "list.extend.loop" ⟨[.ref S0, .ref z, res], []⟩)) (fun fin s' => match fin with | .done f => R (.ok f) s' | .again c' => c'.quiet = true ∧ codeAny (model X.prog X.w) A c' R s') (fun e s' => R (.error e) s') { s with heap := h', toks := tk } := fun tz x1 x2 h' tk e1 e2 hk hTI' hOk hp d1 d2 ⟨T, b, oT, hz, hT, r1, r2, r3, r4⟩ => by
      have hS' := hk S0 _ n1.1 n1.2.2.1 n1.2.2.2.1 n1.2.2.2.2 hS
      have g1 : i < xs.length := by omega
      have g2 : i < ys.length := by omega
      obtain ⟨u1, w1, ru1⟩ := rx.get (List.getElem?_eq_getElem g1)
      obtain ⟨u2, w2, ru2⟩ := ry.get (List.getElem?_eq_getElem g2)
      rw [e1] at w1; cases w1
      rw [e2] at w2; cases w2
      have hd : (xs.zip ys).drop i = (xs[i], ys[i]) :: (xs.zip ys).drop (i + 1) := by
        rw [List.drop_eq_getElem_cons (by rw [List.length_zip]; omega), List.getElem_zip]
      have hnT : H s.heap.objs.size = none := by
        have := I.hok.fresh (Nat.le_refl s.heap.objs.size)
        rwa [upd_ne tS] at this
      have new : ObjOk X.prog X.w (upd (upd H S0 (.lst acc)) s.heap.objs.size (.tup [xs[i], ys[i]])) h' s.heap.objs.size (.tup [xs[i], ys[i]]) := ⟨by show 2 ≤ sizeLine; decide, [x1, x2], .cons ru1 (.cons ru2 .nil), ⟨_, hp, rfl, _, rfl⟩⟩
      have I1 : Inv X pins σ (upd (upd H S0 (.lst acc)) s.heap.objs.size (.tup [xs[i], ys[i]])) { s with heap := h', toks := tk } :=
        I.turnedNew (t' := tk) (ch := [z, TO, i1, i2]) (fun b o hb e => hk b o (fun q => hb (by simp [q])) (fun q => hb (by simp [q])) (fun q => hb (by simp [q])) (fun q => hb (by simp [q])) e) hf (Nat.le_refl _) new
      rw [upd_swap (Ne.symm tS)] at I1
      have hup := Heap.get?_update_self (Obj.mapSeq (·.push (.ref s.heap.objs.size))) hS' rfl
      have oth : ∀ b o, b ≠ S0 → h'.get? b = some o → (h'.update S0 (Obj.mapSeq (·.push (.ref s.heap.objs.size)))).get? b = some o := fun b o hb e => (Heap.get?_update_other _ _ (Ne.symm hb)).trans e
      have I2 : Inv X pins σ (upd (upd H s.heap.objs.size (.tup [xs[i], ys[i]])) S0 (.lst (acc ++ [.ref s.heap.objs.size]))) { s with heap := h'.update S0 (Obj.mapSeq (·.push (.ref s.heap.objs.size))), toks := tk } := by
        have := I1.write (x := S0) (e := S0) (o := .lst (acc ++ [.ref s.heap.objs.size])) (h' := h'.update S0 (Obj.mapSeq (·.push (.ref s.heap.objs.size)))) (t' := tk) (by rw [upd_same]; trivial) (.inl rfl) (fun b u hb e => oth b u hb e) ⟨_, hup⟩
          ⟨by rw [List.length_append, ha]; show i + 1 ≤ sizeLine; omega, (accU.push (.ref s.heap.objs.size)).toList, _, by rw [Array.toList_push]; exact hv.append (.cons rfl .nil), by rw [Array.toArray_toList]; exact hup⟩
        rwa [upd_upd] at this
      refine wpAny_bind (wpAny_updateSeq hS' rfl (wpAny_pure ⟨plainId_quiet F.plain_extend_loop _, ih (i + 1) _ (upd H s.heap.objs.size (.tup [xs[i], ys[i]])) (acc ++ [.ref s.heap.objs.size]) (accU.push (.ref s.heap.objs.size)) (by omega) (by omega) (by rw [upd_ne (Ne.symm tS)]; exact hn) I2 (fun c hc => ?_) ?_ (by rw [Array.toList_push]; exact hv.append (.cons rfl .nil)) (by rw [List.length_append, ha]; rfl) fun s' H' ps hn' I' pr => ?_⟩) (by rw [hvl]; omega) (by show (accU.push _).size ≤ sizeLine + 1; rw [Array.size_push, hvl]; omega))
      · obtain ⟨q1, q2⟩ := hf c hc
        refine ⟨?_, q2⟩
        have cz : s.heap.objs.size ≠ c := by
          have hc' : c = z ∨ c = TO ∨ c = i1 ∨ c = i2 := by simpa using hc
          rcases hc' with rfl | rfl | rfl | rfl
          · exact tz
          · exact lt hO
          · exact t1
          · exact t2
        have cS : c ≠ S0 := fun q => by rw [q, upd_same] at q1; cases q1
        rw [upd_ne cS] at q1 ⊢
        rw [upd_ne (Ne.symm cz)]; exact q1
      · obtain ⟨oO', hO'⟩ := hOk
        exact ⟨⟨_, hup⟩, oth _ _ (Ne.symm n1.2.1) hTI', (D1 A hh).frame _ _ _ d1 fun b hb o e => oth b o (fun q => n2.1 (q ▸ hb)) e, (D2 A hh).frame _ _ _ d2 fun b hb o e => oth b o (fun q => n2.2 (q ▸ hb)) e, ⟨oO', oth _ _ (Ne.symm n1.2.2.1) hO'⟩, .inr ⟨T, b, oT, oth _ _ (Ne.symm n1.1) hz, oth _ _ r4 hT, r1, r2, r3, r4⟩⟩
      · refine hR s' H' (.ref s.heap.objs.size :: ps) hn' (by rw [List.append_assoc] at I'; exact I') ?_
        rw [hd]; exact .cons hnT pr
    rcases hz with ⟨hz, a1, a2, hTO⟩ | ⟨T, b, oT, hz, hT, r1, r2, r3, r4⟩
    · have tz := lt hz
      refine wpAny_pyNext_zipD2_item S (D1 _ hh) (D2 _ hh) hz hTI hTO s1 s2 j1 j2 fun x1 x2 h' tk e1 e2 b1 b2 d1 d2 b5 b6 hk' => ?_
      exact go tz x1 x2 h' tk e1 e2 hk' (hk' _ _ S.TIz S.TITO S.TIi1 S.TIi2 hTI) ⟨_, b2⟩ b5 d1 d2 ⟨_, false, _, b1, b5, tz, t1, t2, tS⟩
    · have tz := lt hz
      refine lz_item S (D1 _ hh) (D2 _ hh) hz hT hTI s1 s2 j1 j2 fun x1 x2 h' tk e1 e2 b1 d1 d2 b5 b6 hk' => ?_
      exact go tz x1 x2 h' tk e1 e2 (fun c o a _ b' c' e => hk' c o a b' c' e) (hk' _ _ S.TIz S.TIi1 S.TIi2 hTI) ⟨_, hk' _ _ S.TOz S.Ti1 S.Ti2 hO⟩ b5 d1 d2 ⟨T, true, oT, b1, hk' _ _ r1 r2 r3 hT, r1, r2, r3, r4⟩
/-- list(z): the list is there, empty -/
theorem lz_init (hh : A.handled = none) (S : ZipSep2 z TI TO i1 i2 f1 f2) (D1 : ∀ A : Around, A.handled = none → Draws X.prog X.w A i1 f1 its1.length (fun i v => its1[i]? = some v) St1) (D2 : ∀ A : Around, A.handled = none → Draws X.prog X.w A i2 f2 its2.length (fun i v => its2[i]? = some v) St2)
    (n1 : S0 ≠ z ∧ S0 ≠ TI ∧ S0 ≠ TO ∧ S0 ≠ i1 ∧ S0 ≠ i2) (n2 : S0 ∉ f1 ∧ S0 ∉ f2) {xs ys : List V} (rx : Vals xs its1) (ry : Vals ys its2) (hlim : min its1.length its2.length ≤ sizeLine)
    {s : Shared} {H : Hp} (hn : H S0 = none) (I : Inv X pins σ (upd H S0 (.lst [])) s) (hf : ∀ c ∈ [z, TO, i1, i2], FpOk X pins (upd H S0 (.lst [])) c) (hS : s.heap.get? S0 = some { cls := .type "list", data := .seq #[] })
    (hz : IsZip s.heap z TI TO .none) (hTI : IsTupOf2 s.heap TI (.ref i1) (.ref i2)) (hTO : ∃ a1 a2, IsTupOf2 s.heap TO a1 a2) (s1 : St1 0 s.heap) (s2 : St2 0 s.heap)
    (hR : ∀ s' H' ps, H' S0 = none → Inv X pins σ (upd H' S0 (.lst ps)) s' → Prs (xs.zip ys) ps H H' → R (.ok (.ret .none)) s') :
    wpAny (model X.prog X.w) A.in1 (Builtin.«list.__init__» ⟨[.ref S0, .ref z], []⟩) (fun fin s' => match fin with | .done f => R (.ok f) s' | .again c' => c'.quiet = true ∧ codeAny (model X.prog X.w) A c' R s') (fun e s' => R (.error e) s') s := by
  show wpAny _ A.in1 (do let old ← Builtin.List.listItems (.ref S0); Builtin.List.listUpdate (.ref S0) (fun _ => #[]); letGo old.toList.reverse; Builtin.List.listExtendWith (.ref S0) (.ref z) .none) _ _ s
  refine wpAny_bind ?_; unfold Builtin.List.listItems; refine wpAny_bind (wpAny_seqItems hS rfl (wpAny_pure ?_))
  show wpAny _ A.in1 (updateSeq S0 (fun _ => #[]) >>= fun _ => letGo (#[] : Array Value).toList.reverse >>= fun _ => Builtin.List.listExtendWith (.ref S0) (.ref z) .none) _ _ s
  refine wpAny_bind (wpAny_updateSeq hS rfl ?_)
  have hS2 := Heap.get?_update_self (Obj.mapSeq (fun _ => (#[] : Array Value))) hS rfl
  have ot : ∀ b o, b ≠ S0 → s.heap.get? b = some o → (s.heap.update S0 (Obj.mapSeq (fun _ => (#[] : Array Value)))).get? b = some o := fun b o hb e => (Heap.get?_update_other _ _ (Ne.symm hb)).trans e
  refine wpAny_bind (wpAny_letGo ?_)
  have tyZ : ∀ {s' : Shared}, s'.heap.get? z = some { cls := .type "zip", dict := none, data := .fields #[.none, .bool false, .bool false, .ref TI, .ref TO], slots := #[] } → s'.TypeIs (.ref z) "zip" := fun e => ⟨_, e, rfl⟩
  have hz2 := ot _ _ (Ne.symm n1.1) hz
  unfold Builtin.List.listExtendWith
  refine wpAny_bind (wpAny_typeOf (tyZ hz2) ?_)
  have b1 : Builtin.List.listSameRef (.ref S0) (.ref z) = false := by simp [Builtin.List.listSameRef, n1.1]
  have b2 : (Value.type "zip" == Value.type "list") = false := by decide
  have b3 : (Value.type "zip" == Value.type "tuple") = false := by decide
  simp only [b1, b2, b3, Bool.or_false, Bool.false_eq_true, if_false]
  refine wpAny_bind (wpAny_pyIter_zip hz2 ?_); refine wpAny_bind (wpAny_holding ?_); unfold Builtin.List.listLengthHint
  refine wpAny_bind (wpAny_specialOf (tyZ hz2) lz_nolen ?_); show wpAny _ A.in1 (specialOf (Value.ref z) (Str.ofString "__length_hint__") >>= _) _ _ _
  refine wpAny_bind (wpAny_specialOf (tyZ hz2) lz_nohint ?_); refine wpAny_pure ?_
  show wpAny _ _ (rule "list.extend.makes-room" >>= fun _ => Builtin.List.listTouch (.ref S0) >>= fun _ => again (.builtin "list.extend.loop" ⟨[.ref S0, .ref z, .none], []⟩)) _ _ _
  refine wpAny_bind (wpAny_rule ?_); refine wpAny_bind ?_
  show wpAny _ _ (updateSeq S0 (·.push .none) >>= fun _ => updateSeq S0 (·.pop)) _ _ _
  refine wpAny_bind (wpAny_updateSeq hS2 rfl ?_)
  have hS3 := Heap.get?_update_self (Obj.mapSeq (·.push Value.none)) hS2 rfl
  refine wpAny_updateSeq (hz := by seq_fits) hS3 rfl ?_
  have hS4 := Heap.get?_update_self (Obj.mapSeq (·.pop)) hS3 rfl
  have ot4 : ∀ b o, b ≠ S0 → s.heap.get? b = some o → (((s.heap.update S0 (Obj.mapSeq (fun _ => (#[] : Array Value)))).update S0 (Obj.mapSeq (·.push Value.none))).update S0 (Obj.mapSeq (·.pop))).get? b = some o := fun b o hb e =>
    (Heap.get?_update_other _ _ (Ne.symm hb)).trans ((Heap.get?_update_other _ _ (Ne.symm hb)).trans (ot b o hb e))
  generalize ((s.heap.update S0 (Obj.mapSeq (fun _ => (#[] : Array Value)))).update S0 (Obj.mapSeq (·.push Value.none))).update S0 (Obj.mapSeq (·.pop)) = h4 at hS4 ot4
  have I4 : Inv X pins σ (upd H S0 (.lst [])) { s with heap := h4 } := by
    have := I.write (x := S0) (e := S0) (o := .lst []) (h' := h4) (t' := s.toks) (by rw [upd_same]; trivial) (.inl rfl) (fun b u hb e => ot4 b u hb e) ⟨_, hS4⟩ ⟨Nat.zero_le _, [], _, .nil, hS4⟩
    rwa [upd_upd] at this
  obtain ⟨a1, a2, hTO⟩ := hTO
  refine wpAny_pure ⟨plainId_quiet F.plain_extend_loop _, lz_loop hh S D1 D2 n1 n2 .none rx ry hlim _ 0 _ H [] #[] rfl (Nat.zero_le _) hn I4 hf ⟨⟨_, hS4⟩, ot4 _ _ (Ne.symm n1.2.1) hTI, (D1 A hh).frame _ _ _ s1 fun b hb o e => ot4 b o (fun q => n2.1 (q ▸ hb)) e, (D2 A hh).frame _ _ _ s2 fun b hb o e => ot4 b o (fun q => n2.2 (q ▸ hb)) e, ⟨_, ot4 _ _ (Ne.symm n1.2.2.1) hTO⟩, .inl ⟨ot4 _ _ (Ne.symm n1.1) hz, a1, a2, ot4 _ _ (Ne.symm n1.2.2.1) hTO⟩⟩ .nil rfl fun s' H' ps hn' I' pr => ?_⟩
  exact hR s' H' ps hn' I' (by simpa using pr)
/-- list(z) -/
theorem lz_call {s : Shared} {H : Hp} {Q : Value → Shared → Prop} {E : Value → Shared → Prop} (hh : A.handled = none) (S : ZipSep2 z TI TO i1 i2 f1 f2) (D1 : ∀ A : Around, A.handled = none → Draws X.prog X.w A i1 f1 its1.length (fun i v => its1[i]? = some v) St1) (D2 : ∀ A : Around, A.handled = none → Draws X.prog X.w A i2 f2 its2.length (fun i v => its2[i]? = some v) St2)
    {xs ys : List V} (rx : Vals xs its1) (ry : Vals ys its2) (hlim : min its1.length its2.length ≤ sizeLine) (I : Inv X pins σ H s) (hf : ∀ c ∈ [z, TO, i1, i2], FpOk X pins H c) (lv : (∀ c ∈ f1, c < s.heap.objs.size) ∧ ∀ c ∈ f2, c < s.heap.objs.size)
    (hz : IsZip s.heap z TI TO .none) (hTI : IsTupOf2 s.heap TI (.ref i1) (.ref i2)) (hTO : ∃ a1 a2, IsTupOf2 s.heap TO a1 a2) (s1 : St1 0 s.heap) (s2 : St2 0 s.heap)
    (hQ : ∀ s' H' ps, H' s.heap.objs.size = none → Inv X pins σ (upd H' s.heap.objs.size (.lst ps)) s' → Prs (xs.zip ys) ps H H' → Q (.ref s.heap.objs.size) s') :
    wpAny (model X.prog X.w) A (call (.type "list") [.ref z]) Q E s := by
  refine callType_codes (Q₁ := fun ob t => ob = .ref s.heap.objs.size ∧ t = { s with heap := s.heap.push { cls := .type "list", data := .seq #[] } }) F.called_list (F.typeCall_list_1 _) F.entry_list_init (code_list_new _ ⟨rfl, rfl⟩) fun ob t h => ?_
  obtain ⟨rfl, rfl⟩ := h
  have hS : (s.heap.push { cls := .type "list", data := .seq #[] }).get? s.heap.objs.size = some { cls := .type "list", data := .seq #[] } := Heap.get?_push_size _ rfl
  have up : ∀ b o, s.heap.get? b = some o → (s.heap.push { cls := .type "list", data := .seq #[] }).get? b = some o := fun b o e => Heap.get?_push_of_some _ e
  have hn : H s.heap.objs.size = none := I.hok.fresh (Nat.le_refl _)
  have I1 : Inv X pins σ (upd H s.heap.objs.size (.lst [])) { s with heap := s.heap.push { cls := .type "list", data := .seq #[] } } := I.laid (t' := s.toks) up (Nat.le_refl _) ⟨Nat.zero_le _, [], _, .nil, hS⟩
  have lt : ∀ {c o}, s.heap.get? c = some o → s.heap.objs.size ≠ c := fun e => Nat.ne_of_gt (Heap.lt_size e)
  obtain ⟨a1, a2, hTO⟩ := hTO
  have li1 : s.heap.objs.size ≠ i1 := by obtain ⟨_, e⟩ := (D1 A hh).live _ _ s1; exact lt e
  have li2 : s.heap.objs.size ≠ i2 := by obtain ⟨_, e⟩ := (D2 A hh).live _ _ s2; exact lt e
  refine ⟨⟨_, hS, rfl⟩, F.args_list_init_2 _ _, lz_init (A := A.in1) hh S D1 D2 ⟨lt hz, lt hTI, lt hTO, li1, li2⟩ ⟨fun q => absurd (lv.1 _ q) (Nat.lt_irrefl _), fun q => absurd (lv.2 _ q) (Nat.lt_irrefl _)⟩ rx ry hlim hn I1 (fun c hc => ?_) hS (up _ _ hz) (up _ _ hTI) ⟨a1, a2, up _ _ hTO⟩ ((D1 A hh).frame _ _ _ s1 fun b _ o e => up b o e) ((D2 A hh).frame _ _ _ s2 fun b _ o e => up b o e) fun s' H' ps hn' I' pr => ⟨rfl, hQ s' H' ps hn' I' pr⟩⟩
  obtain ⟨q1, q2⟩ := hf c hc
  have hc' : c = z ∨ c = TO ∨ c = i1 ∨ c = i2 := by simpa using hc
  refine ⟨?_, q2⟩
  rw [upd_ne (by rcases hc' with rfl | rfl | rfl | rfl <;> first | exact Ne.symm (lt hz) | exact Ne.symm (lt hTO) | exact Ne.symm li1 | exact Ne.symm li2)]
  exact q1
end
section
variable {X : Cx} {a b : Expr} {ta : TA}
def SqLT (K : PySem.W.Frag) (H : Hp) (a : Addr) (xs : List V) : Prop := SqL K H a xs ∨ SqT K H a xs
def tLz (K : PySem.W.Frag) (ta : TA) : TE := fun σ H Q => ta σ H fun vs H1 => ∃ a b xs ys, vs = [.ref a, .ref b] ∧ SqLT K H1 a xs ∧ SqLT K H1 b ys ∧ min xs.length ys.length ≤ sizeLine ∧ ∀ H2 ps q, Prs (xs.zip ys) ps H1 H2 → H2 q = none → Q (.ref q) (upd H2 q (.lst ps))
/-- how such a thing is walked -/
theorem sq_walk {pins : List (Addr × Obj)} {σ : L2.St} {H : Hp} {s : Shared} (I : Inv X pins σ H s) {a : Addr} {xs : List V} (h : SqLT X.K H a xs) :
    ∃ (its : List Value) (o : Obj) (HB : Heap → Prop) (St : Addr → Nat → Heap → Prop), Vals xs its ∧ Begins (.ref a) o HB ∧ HB s.heap ∧ a < s.heap.objs.size ∧ (∀ (h' : Heap) (it : Addr), h'.get? it = some o → (∀ c o, s.heap.get? c = some o → h'.get? c = some o) → St it 0 h') ∧
      ∀ it : Addr, a ≠ it → ∀ A : Around, A.handled = none → Draws X.prog X.w A it [it, a] its.length (fun i v => its[i]? = some v) (St it) := by
  rcases h with h | h
  · obtain ⟨its, rv, p, _⟩ := I.list h
    have pl : s.heap.IsList a its.toArray := p.isList
    refine ⟨its, _, _, fun it i h => h.IsListIter it a i ∧ h.IsList a its.toArray, rv, begins_list a its.toArray, pl, p.lt, fun h' it e k => ⟨⟨_, e, rfl, rfl⟩, pl.at fun o e => k _ o e⟩, fun it hne A hh => ?_⟩
    have D := Draws.list (prog := X.prog) (w := X.w) (A := A) hh it a hne its.toArray
    simpa using D
  · obtain ⟨its, rv, p, _⟩ := I.tuple h
    have pl : s.heap.IsTuple a its.toArray := p
    obtain ⟨o, e, _⟩ := id p
    refine ⟨its, _, _, fun it i h => h.IsTupleIter it a i ∧ h.IsTuple a its.toArray, rv, begins_tuple a its.toArray, pl, Heap.lt_size e, fun h' it e k => ⟨⟨_, e, rfl, rfl⟩, pl.at fun o e => k _ o e⟩, fun it hne A hh => ?_⟩
    have D := Draws.tuple (prog := X.prog) (w := X.w) (A := A) hh it a hne its.toArray
    simpa using D
theorem sep5 (n a b : Nat) (ha : a < n) (hb : b < n) : ZipSep2 (n + 4) (n + 2) (n + 3) n (n + 1) [n, a] [n + 1, b] := by
  have h1 : n + 2 ≠ n + 4 ∧ n + 3 ≠ n + 4 ∧ n + 2 ≠ n + 3 ∧ n + 2 ≠ n ∧ n + 2 ≠ n + 1 := by omega
  have h2 : n ∈ ([n, a] : List Nat) ∧ n + 4 ∉ ([n, a] : List Nat) ∧ n + 3 ∉ ([n, a] : List Nat) ∧ n + 1 ∈ ([n + 1, b] : List Nat) ∧ n + 4 ∉ ([n + 1, b] : List Nat) ∧ n + 3 ∉ ([n + 1, b] : List Nat) ∧ n ∉ ([n + 1, b] : List Nat) ∧ n + 1 ∉ ([n, a] : List Nat) := by
    simp; omega
  exact ⟨h1.1, h1.2.1, h1.2.2.1, h1.2.2.2.1, h2.1, h2.2.1, h2.2.2.1, h1.2.2.2.2, h2.2.2.2.1, h2.2.2.2.2.1, h2.2.2.2.2.2.1, h2.2.2.2.2.2.2.1, h2.2.2.2.2.2.2.2⟩
theorem cells5 (n c : Nat) (h : c ∈ [n + 4, n + 3, n, n + 1]) : n ≤ c := by simp at h; omega
theorem below5 (n m a b : Nat) (ha : a < n) (hb : b < n) (hm : m = n + 5) : (∀ c ∈ [n, a], c < m) ∧ ∀ c ∈ [n + 1, b], c < m := by
  constructor <;> intro c hc <;> simp at hc <;> omega
theorem ne1 (n b : Nat) (hb : b < n) : b ≠ n + 1 := by omega
theorem pe_lz {p p2 pos pos2 : Pos} (hc : X.calm = true) (hg : Gl X "list") (hm : X.mg "list" = none) (hg2 : Gl X "zip") (hm2 : X.mg "zip" = none) (ha : PA X [a, b] ta)
    (hs : starEach [a, b] X.env = (false, eval a X.env) :: starEach [b] X.env) (hpl : (backTo pos2 (starEach [b] X.env)).any (·.1) = false)
    (hs2 : starEach [.Call (.Name "zip" p2) [a, b] [] pos2] X.env = (false, eval (.Call (.Name "zip" p2) [a, b] [] pos2) X.env) :: starEach [] X.env) :
    PE X (.Call (.Name "list" p) [.Call (.Name "zip" p2) [a, b] [] pos2] [] pos) (tLz X.K ta) := by
  refine ⟨fun pins s σ H Q I h => ?_⟩
  refine Call_ (ld_blt I hg hm boot_list (PyProof.Rows.callWith_type1 (args_cons ?_ hs2) hs2))
  refine Call_ (ld_blt I hg2 hm2 PyProof.Rows.boot_zip (PyProof.Rows.callWith_type1 (thn (ha.run pos2 pins s σ H _ I h) fun us s1 ⟨vs, H1, I1, r1, q1⟩ => ?_) hs hpl))
  obtain ⟨a, b, xs, ys, ex, h1, h2, hl, q1⟩ := q1
  subst ex
  cases r1 with
  | cons r rr => cases rr with
    | cons r' rr =>
      cases rr
      cases r
      cases r'
      obtain ⟨its1, o1, HB1, St1, rv1, B1, hb1, la, st1, D1⟩ := sq_walk I1 h1
      obtain ⟨its2, o2, HB2, St2, rv2, B2, hb2, lb, st2, D2⟩ := sq_walk I1 h2
      refine zip_begins2 B1 B2 hb1 hb2 fun h' hz hTI hTO e1 e2 hsz hk => ?_
      refine args_nil ?_
      have I2 : Inv X pins σ H1 { s1 with heap := h' } := I1.kept (t' := s1.toks) hk
      have fr : ∀ c, s1.heap.objs.size ≤ c → FpOk X pins H1 c := fun c hc => I1.fpOk hc (I1.hok.fresh hc)
      have S : ZipSep2 (s1.heap.objs.size + 4) (s1.heap.objs.size + 2) (s1.heap.objs.size + 3) s1.heap.objs.size (s1.heap.objs.size + 1) [s1.heap.objs.size, a] [s1.heap.objs.size + 1, b] := sep5 _ _ _ la lb
      refine lz_call (I1.ok.hd hc) S (D1 _ (Nat.ne_of_lt la)) (D2 _ (ne1 _ _ lb)) rv1 rv2 (by rw [← rv1.length, ← rv2.length]; exact hl) I2 (fun c hc => fr c (cells5 _ _ hc)) (below5 _ _ _ _ la lb hsz) hz hTI ⟨_, _, hTO⟩ (st1 _ _ e1 hk) (st2 _ _ e2 hk) fun s' H' ps hn I' pr => ?_
      exact ⟨.ref h'.objs.size, _, I', rfl, q1 H' ps _ pr hn⟩
end
end TV
namespace TV
open PySem PySem.Spec PyProof.Rows L2
section
variable {X : Cx} {C : Ct} {pos : Pos} {eva evb : Env → R D} {pa pb : Bool} {K : PySem.W.Frag}
theorem prs_dv : ∀ {vs us ps : List V} {ds es : List D} {H H2 B : Hp}, Prs (vs.zip us) ps H H2 → DvAll K B vs ds → DvAll K B us es → Same B H → ∃ B', Ext B H B' H2 ∧ DvAll K B' ps (zipD ds es)
  | [], us, ps, ds, es, H, H2, B, pr, t1, t2, e => by
    cases t1
    rw [List.zip_nil_left] at pr
    cases pr
    exact ⟨B, Ext.refl e, .nil⟩
  | v :: vs, [], ps, ds, es, H, H2, B, pr, t1, t2, e => by
    cases t2
    rw [List.zip_nil_right] at pr
    cases pr
    exact ⟨B, Ext.refl e, by unfold zipD; rw [List.zip_nil_right]; exact .nil⟩
  | v :: vs, u :: us, ps, ds, es, H, H2, B, pr, t1, t2, e => by
    cases t1 with
    | cons hv t1 => cases t2 with
      | cons hu t2 =>
        rw [List.zip_cons_cons] at pr
        cases pr with
        | @cons p _ _ _ ps _ _ hp pr =>
          have hb := free_of e hp
          have x := Ext.new1 e hp (.tup [v, u])
          have sm := same_upd hb (.tup [v, u])
          obtain ⟨B', x2, t⟩ := prs_dv pr (t1.mono sm) (t2.mono sm) x.bh
          refine ⟨B', x.trans x2, .cons ?_ t⟩
          exact Dv.mono x2.b (.tup (.of upd_same) (.cons (hv.mono sm) (.cons (hu.mono sm) .nil)))
theorem te_lZip {e : Expr} (h : PE X e (tLz C.K (L2.tCons (tS C eva pa) (L2.tCons (tS C evb pb) L2.tNil)))) : PE X e (tN C (fun ρ => (eva ρ).bind fun x ρ => (evb ρ).bind fun y ρ => R.of (b2 .zipL x y) ρ) (pa && pb) (.l .s)) := PE.imp h fun σ H Q ⟨ρ, B, G, fp, r, q⟩ => by
  have q : Post C B G H σ (pa && pb) _ _ := q
  refine ⟨ρ, B, G, fp, r, (q.bind (pu1 := pa) (pu2 := pb) rfl).mono fun d B1 G1 H1 fp1 ρ1 _ _ r1 k v hv => ?_⟩
  refine ⟨ρ1, B1, G1, fp1, r1, (k.bind (pu1 := pb) (pu2 := true) (by simp)).mono fun d2 B2 G2 H2 fp2 ρ2 u2 _ r2 k v2 hv2 => ?_⟩
  have hv := hv.mono u2.b
  obtain ⟨d', e1, k⟩ := Post.of_some k
  have sq : ∀ {d : D} {v : V} {ds : List D}, Dv C.K B2 v d → itemsD d = some ds → ∃ a vs, v = .ref a ∧ SqLT C.K H2 a vs ∧ DvAll C.K B2 vs ds := fun {d v ds} hv hi => by
    cases d with
    | list _ =>
      cases hi
      cases hv with
      | lst z1 t1 => exact ⟨_, _, rfl, .inl (SqL_eq z1 r2.bh), t1⟩
    | tuple _ =>
      cases hi
      cases hv with
      | tup z1 t1 => exact ⟨_, _, rfl, .inr (Le.tup r2.bh z1), t1⟩
    | _ => cases hi
  simp only [b2, zipLD] at e1
  split at e1
  · rename_i xs ys hx hy
    split at e1
    · rename_i hl
      cases e1
      obtain ⟨a, vs, rfl, g1, t1⟩ := sq hv hx
      obtain ⟨b, us, rfl, g2, t2⟩ := sq hv2 hy
      refine ⟨a, b, vs, us, rfl, g1, g2, lim_size (by rw [t1.length, t2.length]; exact hl), fun H3 ps q0 pr hq => ?_⟩
      obtain ⟨B', x, t⟩ := prs_dv pr t1 t2 r2.bh
      have pv := k.fin r2
      refine pv _ _ B' [q0] ⟨x.b, fun a u h => ?_, fun a u h => ?_, fun a u h => x.new a u h⟩ (fun G' => .l upd_same (.of t)) (by simp) (fun a ha => ?_)
      · have h1 := x.h a u h
        rw [upd_ne (ne_of_none h1 hq)]; exact h1
      · have h1 := x.bh a u h
        rw [upd_ne (ne_of_none h1 hq)]; exact h1
      · have ha : a = q0 := by simpa using ha
        subst ha
        refine ⟨?_, x.bh.free hq⟩
        cases hH : H2 a with
        | none => rfl
        | some o => rw [x.h a o hH] at hq; cases hq
    · cases e1
  · cases e1
end
end TV
/-! a set of nested keys that all differ, and how many they are -/
namespace NS
open PySem PySem.Spec PyProof.Rows L2
section
variable {P : Program} {w : World} {s : Shared}
/-- v is of no class statement, n levels down -/
def Ours (P : Program) (w : World) (n : Nat) (s : Shared) (v : Value) : Prop := ∀ (A : Around) (E : Value → Shared → Prop) (Q : Bool → Shared → Prop), Q false s → wpAny (model P w) A (ofAClassStatement n v) Q E s
/-- hash(v) is a matter of v's value, n levels down -/
def ByVal (P : Program) (w : World) (n : Nat) (s : Shared) (v : Value) : Prop := ∀ (A : Around) (E : Value → Shared → Prop) (Q : Bool → Shared → Prop), Q true s → wpAny (model P w) A (hashByValue n v) Q E s
theorem Ours.lit {n : Nat} {v : Value} (h : ofAClassStatement n v = pure false) : Ours P w n s v := fun A E Q q => by rw [h]; exact wpAny_pure q
theorem ByVal.lit {n : Nat} {v : Value} (h : hashByValue n v = pure true) : ByVal P w n s v := fun A E Q q => by rw [h]; exact wpAny_pure q
theorem Ours.tup {n : Nat} {b : Addr} {o : Obj} {vs : Array Value} {m : Nat} (ho : s.heap.get? b = some o) (hc : o.cls = .type "tuple") (hd : o.data = .seq vs m) (all : ∀ v ∈ vs.toList, Ours P w n s v) : Ours P w (n + 1) s (.ref b) := fun A E Q q => by
  have hT : s.TypeIs (.ref b) "tuple" := ⟨o, ho, hc⟩
  unfold ofAClassStatement
  refine wpAny_bind (wpAny_typeOf hT ?_)
  dsimp only
  simp only [show (("tuple" : String) == "tuple") = true by decide, if_true, Bool.not_true, Bool.false_eq_true, if_false]
  try refine wpAny_bind (wpAny_pure ?_)
  try simp only [Bool.not_true, Bool.false_eq_true, if_false]
  show wpAny _ _ (seqItems? (.ref b) >>= _) _ _ s
  refine wpAny_bind (wpAny_seqItems ho hd ?_)
  dsimp only
  refine wpAny_bind ?_
  show wpAny _ _ (forIn vs _ _) _ _ s
  rw [← Array.forIn_toList]
  refine wpAny_forIn_list _ (fun left st s1 => (st.1 = none ∧ s1 = s) ∧ ∀ v ∈ left, Ours P w n s v) _ ?_ ?_ _ _ ⟨⟨rfl, rfl⟩, all⟩
  · rintro v left st s1 ⟨⟨hr, rfl⟩, more⟩
    refine wpAny_bind (more v List.mem_cons_self _ _ _ ?_)
    simp only [Bool.false_eq_true, if_false]
    exact wpAny_pure ⟨⟨rfl, rfl⟩, fun u hu => more u (List.mem_cons_of_mem _ hu)⟩
  · rintro ⟨r1, r2⟩ s1 ⟨⟨hr, rfl⟩, _⟩
    obtain rfl : r1 = none := hr
    exact wpAny_pure q
theorem ByVal.tup {n : Nat} {b : Addr} {o : Obj} {vs : Array Value} {m : Nat} (ho : s.heap.get? b = some o) (hc : o.cls = .type "tuple") (hd : o.data = .seq vs m) (all : ∀ v ∈ vs.toList, ByVal P w n s v) : ByVal P w (n + 1) s (.ref b) := fun A E Q q => by
  have hT : s.TypeIs (.ref b) "tuple" := ⟨o, ho, hc⟩
  unfold hashByValue
  refine wpAny_bind (wpAny_specialOf hT F.slot_tuple_hash.lookup ?_)
  show wpAny _ _ (seqItems? (.ref b) >>= _) _ _ s
  refine wpAny_bind (wpAny_seqItems ho hd ?_)
  refine wpAny_bind ?_
  show wpAny _ _ (forIn vs _ _) _ _ s
  rw [← Array.forIn_toList]
  refine wpAny_forIn_list _ (fun left st s1 => (st.1 = none ∧ s1 = s) ∧ ∀ v ∈ left, ByVal P w n s v) _ ?_ ?_ _ _ ⟨⟨rfl, rfl⟩, all⟩
  · rintro v left st s1 ⟨⟨hr, rfl⟩, more⟩
    refine wpAny_bind (more v List.mem_cons_self _ _ _ ?_)
    simp only [Bool.not_true, Bool.false_eq_true, if_false]
    exact wpAny_pure ⟨⟨rfl, rfl⟩, fun u hu => more u (List.mem_cons_of_mem _ hu)⟩
  · rintro ⟨r1, r2⟩ s1 ⟨⟨hr, rfl⟩, _⟩
    obtain rfl : r1 = none := hr
    exact wpAny_pure q
/-- keys of ints and of such tuples alone -/
inductive Pure : NestedKey → Prop where
  | num (i : Int) : Pure (.num i)
  | tup {ks : List NestedKey} : (∀ k ∈ ks, Pure k) → Pure (.tup ks)
mutual
theorem ours : ∀ (k : NestedKey) (v : Value) (n : Nat), NestedIs s.heap k v → k.depth ≤ n → Ours P w n s v
  | .none, _, n, x, _ => by cases x; exact .lit (by cases n <;> rfl)
  | .num i, _, n, x, _ => by cases x <;> exact .lit (by cases n <;> rfl)
  | .text y, _, n, x, _ => by cases x; exact .lit (by cases n <;> rfl)
  | .tup ks, _, n, x, hn => by
    cases x with
    | tup hg hc hd hk =>
      simp only [NestedKey.depth] at hn
      obtain ⟨n, rfl⟩ : ∃ m, n = m + 1 := ⟨n - 1, by omega⟩
      exact .tup hg hc hd (ours_all ks _ n hk (by omega))
theorem ours_all : ∀ (ks : List NestedKey) (vs : List Value) (n : Nat), NestedAll s.heap ks vs → NestedKey.depthAll ks ≤ n → ∀ v ∈ vs, Ours P w n s v
  | [], _, n, x, _, v, hv => by cases x; cases hv
  | k :: ks, _, n, x, hn, v, hv => by
    cases x with
    | cons x1 x2 =>
      simp only [NestedKey.depthAll] at hn
      rcases List.mem_cons.mp hv with e | hv
      · rw [e]; exact ours k _ n x1 (by omega)
      · exact ours_all ks _ n x2 (by omega) v hv
end
mutual
theorem byVal : ∀ (k : NestedKey) (v : Value) (n : Nat), Pure k → NestedIs s.heap k v → k.depth ≤ n → ByVal P w n s v
  | .none, _, n, p, x, _ => by cases p
  | .num i, _, n, p, x, _ => by cases x <;> exact .lit (by cases n <;> rfl)
  | .text y, _, n, p, x, _ => by cases p
  | .tup ks, _, n, p, x, hn => by
    cases p with
    | tup p =>
      cases x with
      | tup hg hc hd hk =>
        simp only [NestedKey.depth] at hn
        obtain ⟨n, rfl⟩ : ∃ m, n = m + 1 := ⟨n - 1, by omega⟩
        exact .tup hg hc hd (byVal_all ks _ n p hk (by omega))
theorem byVal_all : ∀ (ks : List NestedKey) (vs : List Value) (n : Nat), (∀ k ∈ ks, Pure k) → NestedAll s.heap ks vs → NestedKey.depthAll ks ≤ n → ∀ v ∈ vs, ByVal P w n s v
  | [], _, n, p, x, _, v, hv => by cases x; cases hv
  | k :: ks, _, n, p, x, hn, v, hv => by
    cases x with
    | cons x1 x2 =>
      simp only [NestedKey.depthAll] at hn
      rcases List.mem_cons.mp hv with e | hv
      · rw [e]; exact byVal k _ n (p k List.mem_cons_self) x1 (by omega)
      · exact byVal_all ks _ n (fun q hq => p q (List.mem_cons_of_mem _ hq)) x2 (by omega) v hv
end
/-- the tuple at b is the key k -/
structure At (h : Heap) (k : NestedKey) (b : Addr) : Prop where
  is : NestedIs h k (.ref b)
  dp : k.depth ≤ 8
  pu : Pure k
theorem At.quiet {A : Around} {E : Value → Shared → Prop} {k : NestedKey} {b : Addr} (h : At s.heap k b) {Q : Bool → Shared → Prop} (q : Q true s) : wpAny (model P w) A (eqIsQuiet 8 (.ref b)) Q E s := quiet_key k _ 8 s h.is h.dp A E Q q
theorem At.kept {h h' : Heap} {k : NestedKey} {b : Addr} (x : At h k b) (keep : ∀ a o vs n, h.get? a = some o → o.data = .seq vs n → h'.get? a = some o) : At h' k b := ⟨NestedIs.at keep k _ x.is, x.dp, x.pu⟩
theorem At.set {h h' : Heap} {k : NestedKey} {a b : Addr} {o : Obj} {es : Array (Int × Value)} {ep : Nat} {t : SetTable} (x : At h k b) (ho : h.get? a = some o) (hd : o.data = .set es ep t) (hs : Heap.SameBut a h h') : At h' k b := x.kept fun c oc vs n hc hcd => by
  by_cases e : c = a
  · subst e
    rw [ho] at hc; cases hc
    rw [hd] at hcd; cases hcd
  · exact (hs.2 c e).trans hc
/-- a search among such keys shows nothing -/
theorem unseen {A : Around} {E : Value → Shared → Prop} {k : NestedKey} {b : Addr} (hb : At s.heap k b) {ys : List Value} (hy : ∀ y ∈ ys, ∃ k' c, y = Value.ref c ∧ At s.heap k' c) {Q : Bool → Shared → Prop} (q : Q false s) : wpAny (model P w) A (searchCouldBeSeen (.ref b) ys) Q E s := by
  unfold searchCouldBeSeen
  refine wpAny_bind ?_
  refine wpAny_forIn_list _ (fun left st s1 => (st.1 = none ∧ s1 = s) ∧ ∀ y ∈ left, ∃ k' c, y = Value.ref c ∧ At s.heap k' c) _ ?_ ?_ _ _ ⟨⟨rfl, rfl⟩, hy⟩
  · rintro v left st s1 ⟨⟨hr, rfl⟩, more⟩
    obtain ⟨k', c, rfl, hc⟩ := more v List.mem_cons_self
    have more' : ∀ y ∈ left, ∃ k' c, y = Value.ref c ∧ At s1.heap k' c := fun u hu => more u (List.mem_cons_of_mem _ hu)
    dsimp only
    by_cases hv : (b == c || (carriedByValue (.ref b) && carriedByValue (.ref c))) = true
    · exact wp_if_pos hv (wpAny_pure ⟨⟨rfl, rfl⟩, more'⟩)
    · refine wp_if_neg hv (wpAny_bind (hb.quiet ?_))
      simp only [Bool.not_true, Bool.false_eq_true, if_false]
      refine wpAny_bind (hc.quiet ?_)
      simp only [Bool.not_true, Bool.false_eq_true, if_false]
      refine wpAny_bind (ours k _ 8 hb.is hb.dp _ _ _ ?_)
      simp only [Bool.false_eq_true, if_false]
      refine wpAny_bind (ours k' _ 8 hc.is hc.dp _ _ _ ?_)
      simp only [Bool.false_eq_true, if_false]
      exact wpAny_pure ⟨⟨rfl, rfl⟩, more'⟩
  · rintro ⟨r1, r2⟩ s1 ⟨⟨hr, rfl⟩, _⟩
    obtain rfl : r1 = none := hr
    exact wpAny_pure q

/-! the set -/
abbrev Row := Addr × NestedKey
abbrev hsh (w : World) (p : Row) : Int := p.2.hash w
def rows (w : World) (L : List Row) : List (Int × Value) := L.map fun p => (hsh w p, Value.ref p.1)
theorem rows_len (w : World) (L : List Row) : (rows w L).length = L.length := by unfold rows; rw [List.length_map]
structure Held (w : World) (h : Heap) (a : Addr) (L : List Row) (es : Array (Int × Value)) (ep : Nat) (t : SetTable) : Prop where
  obj : ∃ o, h.get? a = some o ∧ o.ExactSet ∧ o.data = .set es ep t
  ents : es.toList = rows w L
  tab : TabOk t (L.map (hsh w))
  at_ : ∀ p ∈ L, At h p.2 p.1
  plain : t.plain = true
  led : w.params.followText "set-order" = true ∨ t.led = true
  room : L.length * 5 < t.mask * 3
  few : L.length < 64
theorem size_of {w : World} {es : Array (Int × Value)} {L : List Row} (h : es.toList = rows w L) : es.size = L.length := by
  rw [← Array.length_toList, h, rows_len]
theorem ent_of {w : World} {es : Array (Int × Value)} {L : List Row} (h : es.toList = rows w L) {i : Nat} {p : Row} (hp : L[i]? = some p) : es[i]? = some (hsh w p, Value.ref p.1) := by
  rw [← Array.getElem?_toList, h]
  unfold rows
  rw [List.getElem?_map, hp]; rfl
variable {A : Around} {E : Value → Shared → Prop} {a : Addr} {L : List Row} {es : Array (Int × Value)} {ep : Nat} {t : SetTable}
theorem Held.fits {h : Heap} (R : Held w h a L es ep t) : t.fits es.size = true := by
  have h1 := R.tab.sz
  rw [List.length_map] at h1
  have h2 := size_of R.ents
  have h3 := R.room
  unfold SetTable.fits SetTable.fill
  rw [R.tab.dm, Bool.and_eq_true, beq_iff_eq, decide_eq_true_eq]
  show t.place.size = es.size ∧ t.place.size + 0 ≤ t.mask
  omega
theorem Held.odd {h : Heap} (R : Held w h a L es ep t) : ¬ t.gaveWay = true := by
  unfold SetTable.gaveWay
  rw [mask_odd R.tab.mok]
  decide
/-- where a search begins, and its n-th step -/
abbrev stp (t : SetTable) (h : Int) (n : Nat) : SetTable.Probe := nth t.mask (runAt t.mask (SetTable.bits h % (t.mask + 1)) (SetTable.bits h)) n
theorem stp_add (t : SetTable) (h : Int) (c q : Nat) : nth t.mask (stp t h c) q = stp t h (c + q) := (nth_add t.mask c _ q).symm
theorem stp_j (t : SetTable) (h : Int) (n : Nat) : (stp t h n).j = way t.mask h n := rfl
theorem nth_dm (m : Nat) : ∀ (n : Nat) (p : SetTable.Probe), p.dummy = none → (nth m p n).dummy = none
  | 0, _, h => h
  | n + 1, p, h => nth_dm m n (adv m p) (by unfold adv; split <;> exact h)
/-- the search for a key that isn't there ends at the first empty slot of its way -/
theorem lost_from (R : Held w s.heap a L es ep t) {x : Addr} {k : NestedKey} (hx : At s.heap k x) (hu : A.units + 8 < cLine) (new : ∀ p ∈ L, p.2 ≠ k) {K : Nat} (hKf : K < 10 * SetTable.turns t.mask)
    (hK : way t.mask (k.hash w) K ∉ t.place.toList) (hKb : ∀ c, c < K → way t.mask (k.hash w) c ∈ t.place.toList) {Q : SetFound → Shared → Prop} (q : Q (.free (way t.mask (k.hash w) K) false) s) :
    ∀ (f c : Nat) (stand : Option SetTable.Probe), stand.getD (t.probeStart (k.hash w)) = stp t (k.hash w) c → c ≤ K → K - c < f → wpAny (model P w) A (setSearchFrom a (.ref x) (k.hash w) true f stand) Q E s := fun f => by
  induction f with
  | zero => exact fun c _ _ _ hf => absurd hf (Nat.not_lt_zero _)
  | succ f ih =>
    intro c stand hst hc hf
    obtain ⟨o, ho, _, hd⟩ := R.obj
    rw [setSearchFrom_succ]
    refine wpAny_bind (wpAny_setState_of ho hd R.fits ?_)
    dsimp only
    refine wp_if_neg R.odd ?_
    try refine wpAny_bind (wpAny_pure ?_)
    have ends := go_spec t R.tab.ris R.tab.dm (fun i => (es[i]?.map (·.1)).getD 0) (k.hash w) (10 * SetTable.turns t.mask) (K - c) (stp t (k.hash w) c) (nth_dm _ _ _ rfl) (by omega)
      (fun n hn => by rw [stp_add]; exact hKb (c + n) (by omega)) (by rw [stp_add, show c + (K - c) = K by omega]; exact hK)
    rcases ends with ⟨n, i, hn, hi, _, _, hpr⟩ | ⟨_, hpr⟩
    · rw [stp_add] at hi
      have met : t.probe (fun i => (es[i]?.map (·.1)).getD 0) (k.hash w) (stand.getD (t.probeStart (k.hash w))) = some (.candidate (way t.mask (k.hash w) (c + n)) i (stp t (k.hash w) (c + (n + 1)))) := by
        rw [hst]
        refine Eq.trans hpr ?_
        rw [stp_add, stp_add]
      rw [met]
      dsimp only
      have hil : i < L.length := by
        have h1 := (List.getElem?_eq_some_iff.mp hi).1
        have h2 := R.tab.sz
        rw [List.length_map] at h2
        rw [Array.length_toList] at h1
        omega
      have hp : L[i]? = some L[i] := List.getElem?_eq_getElem hil
      have hpm : L[i] ∈ L := List.getElem_mem hil
      generalize L[i] = p at hp hpm
      have hpa := R.at_ p hpm
      have ne : NestedKey.beq p.2 k = false := by
        rw [← NestedKey.decide_eq]
        exact decide_eq_false (new p hpm)
      have go : wpAny (model P w) A (searchRest a (.ref x) (k.hash w) true f es t (way t.mask (k.hash w) (c + n)) i (stp t (k.hash w) (c + (n + 1)))) Q E s := by
        unfold searchRest
        rw [ent_of R.ents hp]
        dsimp only
        refine wpAny_bind (wpAny_holding (eqAt_key p.2 k A s _ _ hpa.is hx.is (by have := hpa.dp; omega) _ _ _ _ ?_))
        refine wpAny_bind (wpAny_setState_of ho hd R.fits ?_)
        dsimp only
        rw [ne]
        refine wp_if_neg (by simp) ?_
        try refine wpAny_bind (wpAny_pure ?_)
        rw [sameMem]
        dsimp only
        have live : t.slot (way t.mask (k.hash w) (c + n)) = .live i := slot_live R.tab.ris hi
        simp only [if_true, live, ent_of R.ents hp]
        refine wpAny_bind (wpAny_isSame_ref_self (wpAny_bind (wpAny_pure ?_)))
        simp only [if_true]
        refine wp_if_neg (by simp) ?_
        exact ih (c + (n + 1)) _ rfl (by omega) (by omega)
      by_cases hl : t.led = true
      · refine wp_if_neg (by simp [hl]) ?_
        try refine wpAny_bind (wpAny_pure ?_)
        exact go
      · refine wp_if_pos (by simp [hl]) ?_
        refine wpAny_bind (unseen hx (fun y hy => ?_) ?_)
        · obtain ⟨e, he, rfl⟩ := List.mem_map.mp hy
          have he : e ∈ es.toList := by
            have : e ∈ es ∧ e.1 = k.hash w := by simpa using he
            simpa using this.1
          rw [R.ents] at he
          obtain ⟨p2, hp2, rfl⟩ := List.mem_map.mp he
          exact ⟨p2.2, p2.1, rfl, R.at_ p2 hp2⟩
        · refine wp_if_neg (by decide) ?_
          try refine wpAny_bind (wpAny_pure ?_)
          exact go
    · have met : t.probe (fun i => (es[i]?.map (·.1)).getD 0) (k.hash w) (stand.getD (t.probeStart (k.hash w))) = some (.empty (way t.mask (k.hash w) K) none) := by
        rw [hst]
        refine Eq.trans hpr ?_
        rw [stp_add, show c + (K - c) = K by omega]
      rw [met]
      dsimp only
      exact wpAny_pure q
theorem lost_at (R : Held w s.heap a L es ep t) {x : Addr} {k : NestedKey} (hx : At s.heap k x) (hu : A.units + 8 < cLine) (new : ∀ p ∈ L, p.2 ≠ k) {Q : SetFound → Shared → Prop}
    (q : ∀ K, way t.mask (k.hash w) K ∉ t.place.toList → (∀ c, c < K → way t.mask (k.hash w) c ∈ t.place.toList) → Q (.free (way t.mask (k.hash w) K) false) s) :
    wpAny (model P w) A (setSearch a (.ref x) (k.hash w) true) Q E s := by
  have hroom := R.room
  obtain ⟨K, hKf, hK, hKb⟩ := R.tab.first (by rw [List.length_map]; omega) (k.hash w)
  have big : 10 * SetTable.turns t.mask ≤ 1420 := by
    unfold SetTable.turns
    rcases R.tab.mok with e | e | e <;> omega
  unfold setSearch
  exact lost_from R hx hu new hKf hK hKb (q K hK hKb) 100000 0 none rfl (Nat.zero_le _) (by omega)
/-- rows in another order -/
theorem picked {es : Array (Int × Value)} {L : List Row} (h : es.toList = rows w L) : ∀ ix : List Nat, (∀ i ∈ ix, i < L.length) →
    ix.filterMap (fun i => es[i]?) = rows w (ix.filterMap fun i => L[i]?) ∧ (ix.filterMap fun i => L[i]?).map (hsh w) = ix.map fun i => (es.map (·.1)).getD i 0
  | [], _ => ⟨rfl, rfl⟩
  | i :: ix, hi => by
    obtain ⟨h1, h2⟩ := picked h ix fun j hj => hi j (List.mem_cons_of_mem _ hj)
    have hlt := hi i List.mem_cons_self
    have hp : L[i]? = some L[i] := List.getElem?_eq_getElem hlt
    have he := ent_of h hp
    have hv : (es.map (·.1)).getD i 0 = hsh w L[i] := by
      have : (es.map (·.1))[i]? = some (hsh w L[i]) := by rw [Array.getElem?_map, he]; rfl
      simp [Array.getD_eq_getD_getElem?, this]
    refine ⟨?_, ?_⟩
    · rw [List.filterMap_cons_some he, List.filterMap_cons_some hp, h1]; rfl
    · rw [List.filterMap_cons_some hp, List.map_cons, List.map_cons, h2, hv]
theorem all_picked {α : Type} (L : List α) {ix : List Nat} (h : ix.Perm (List.range L.length)) : (ix.filterMap fun i => L[i]?).Perm L := by
  have e : (List.range L.length).filterMap (fun i => L[i]?) = L := by
    have e1 : (List.range L.length).map (fun i => L[i]?) = L.map some := by
      refine List.ext_getElem? fun j => ?_
      rw [List.getElem?_map, List.getElem?_map]
      rcases Nat.lt_or_ge j L.length with hj | hj
      · rw [List.getElem?_range hj, List.getElem?_eq_getElem hj]; simp [List.getElem?_eq_getElem hj]
      · rw [List.getElem?_eq_none (by simpa using hj), List.getElem?_eq_none hj]; rfl
    have e2 : (List.range L.length).filterMap (fun i => L[i]?) = ((List.range L.length).map fun i => L[i]?).filterMap id := by rw [List.filterMap_map]; rfl
    rw [e2, e1, List.filterMap_map]
    show L.filterMap (fun x => some x) = L
    simp
  have := h.filterMap fun i => L[i]?
  rw [e] at this
  exact this
/-- a greater table -/
theorem grown_at {o : Obj} (ho : s.heap.get? a = some o) (hex : o.ExactSet) (hd : o.data = .set es ep t) (he : es.toList = rows w L) (hsz : t.place.size = es.size) (hdm : t.dummies = #[]) (hfl : es.size ≤ t.mask)
    (hat : ∀ p ∈ L, At s.heap p.2 p.1) (pl : t.plain = true) (ld : w.params.followText "set-order" = true ∨ t.led = true) (few : L.length < 64) {wanted M : Nat}
    (hw : SetTable.sizeAbove wanted - 1 = M) (hM : MaskOk M) (hw2 : SetTable.sizeAbove wanted ≤ 128) (hn : L.length * 5 < M * 3) {Q : Unit → Shared → Prop}
    (q : ∀ h' L' es' ep' t', Heap.SameBut a s.heap h' → Held w h' a L' es' ep' t' → L'.Perm L → Q () { s with heap := h' }) : wpAny (model P w) A (setRelay a wanted) Q E s := by
  have hsl := size_of he
  have fits : t.fits es.size = true := by
    unfold SetTable.fits SetTable.fill
    rw [hdm, Bool.and_eq_true, beq_iff_eq, decide_eq_true_eq]
    show t.place.size = es.size ∧ t.place.size + 0 ≤ t.mask
    omega
  obtain ⟨t', ix, e, hp, T, em, el, ep', ed⟩ := relaid_ok t (hs := es.map (·.1)) hw hM (by rw [Array.size_map, hsl]; omega)
  rw [Array.size_map, hsl] at hp
  obtain ⟨r1, r2⟩ := picked he ix.toList fun i hi => List.mem_range.mp (hp.mem_iff.mp hi)
  have r3 := all_picked L hp
  generalize (ix.toList.filterMap fun i => L[i]?) = L2 at r1 r2 r3
  rw [← r2] at T
  have r1 : (ix.filterMap fun i => es[i]?).toList = rows w L2 := by first | (rw [Array.toList_filterMap]; exact r1) | simpa using r1
  have hs2 := size_of r1
  rw [r3.length_eq] at hs2
  rw [setRelay_eq]
  refine wpAny_bind (wpAny_setState_of ho hd fits ?_)
  dsimp only
  refine wp_if_neg (by rw [sizeLine_eq]; omega) ?_
  try refine wpAny_bind (wpAny_pure ?_)
  rw [e]
  dsimp only
  refine wpAny_bind ?_
  refine wp_if_neg (by rw [hs2, hsl]; simp) ?_
  try refine wpAny_bind (wpAny_pure ?_)
  refine wpAny_pure ?_
  dsimp only
  refine wpAny_storeSet_of ho hd ?_ (by rw [hs2, sizeLine_eq]; omega)
  have sb : Heap.SameBut a s.heap (s.heap.update a (Obj.putSet (ix.filterMap fun i => es[i]?) t')) := Heap.SameBut.update ..
  exact q _ L2 _ (ep + 1) t' sb { obj := ⟨_, store_at ho hd, ⟨hex.1, hex.2.1, hex.2.2⟩, rfl⟩, ents := r1, tab := T, at_ := fun p hpm => (hat p (r3.mem_iff.mp hpm)).set ho hd sb, plain := ep'.trans pl, led := by rw [el]; exact ld, room := by rw [r3.length_eq, em]; exact hn, few := by rw [r3.length_eq]; exact few } r3
theorem in_perm {α : Type} (L : List α) (n : Nat) (x : α) : (L.take n ++ x :: L.drop n).Perm (x :: L) := by
  refine List.perm_middle.trans ?_
  rw [List.take_append_drop]
/-- one more -/
theorem add_new (R : Held w s.heap a L es ep t) {x : Addr} {k : NestedKey} (hx : At s.heap k x) (hu : A.units + 8 < cLine) (new : ∀ p ∈ L, p.2 ≠ k) (hfew : L.length + 1 < 64) {Q : Bool → Shared → Prop}
    (q : ∀ h' L' es' ep' t', Heap.SameBut a s.heap h' → Held w h' a L' es' ep' t' → L'.Perm ((x, k) :: L) → Q true { s with heap := h' }) :
    wpAny (model P w) A (setAddHashed a (.ref x) (k.hash w)) Q E s := by
  obtain ⟨o, ho, hex, hd⟩ := R.obj
  have hsl := size_of R.ents
  have hroom := R.room
  unfold setAddHashed
  refine wpAny_holding ?_
  rw [show (100000 : Nat) = 99999 + 1 from rfl, setAddHashedIn_succ]
  refine wpAny_bind (wpAny_setState_of ho hd R.fits ?_)
  dsimp only
  refine wp_if_neg (by simp [byScan, Value.scannable]) ?_
  try refine wpAny_bind (wpAny_pure ?_)
  refine wpAny_bind (lost_at R hx hu new fun K hK hb => ?_)
  dsimp only
  refine wpAny_bind (wpAny_setState_of ho hd R.fits ?_)
  dsimp only
  obtain ⟨q1, q2, q3, q4, q5, q6, q7, q8, q9⟩ := R.tab.put hK hb
  have hp1 := q6.trans R.plain
  generalize hpt : t.put (way t.mask (k.hash w) K) = pt at q1 q3 q4 q5 q6 q7 q8 q9 hp1 ⊢
  obtain ⟨t1, n⟩ := pt
  dsimp only at q1 q3 q4 q5 q6 q7 q8 q9 hp1 ⊢
  subst q1
  first
    | (refine wpAny_bind ?_; refine wp_if_pos hp1 ?_; refine byVal k _ 8 hx.pu hx.is hx.dp _ _ _ ?_)
    | refine wp_if_pos hp1 (wpAny_bind (byVal k _ 8 hx.pu hx.is hx.dp _ _ _ ?_))
  simp only [if_true]
  generalize SetTable.below t.place (way t.mask (k.hash w) K) = n at *
  have hin : (SetTable.insertAt es n (k.hash w, Value.ref x)).toList = rows w (L.take n ++ (x, k) :: L.drop n) := by
    rw [SetTable.toList_insertAt, R.ents]
    unfold rows
    rw [List.map_append, List.map_cons, List.map_take, List.map_drop]
  have pm := in_perm L n (x, k)
  have hmap : (L.take n ++ (x, k) :: L.drop n).map (hsh w) = (L.map (hsh w)).take n ++ k.hash w :: (L.map (hsh w)).drop n := by
    rw [List.map_append, List.map_cons, List.map_take, List.map_drop]
  rw [← hmap] at q3
  have hlen : (L.take n ++ (x, k) :: L.drop n).length = L.length + 1 := pm.length_eq
  generalize L.take n ++ (x, k) :: L.drop n = L1 at *
  have hes := size_of hin
  rw [hlen] at hes
  generalize SetTable.insertAt es n (k.hash w, Value.ref x) = es1 at *
  refine wpAny_bind (wpAny_storeSet_of ho hd ?_ (by rw [hes, sizeLine_eq]; omega))
  have sb : Heap.SameBut a s.heap (s.heap.update a (Obj.putSet es1 t1)) := Heap.SameBut.update ..
  have ho1 := store_at (es' := es1) (t' := t1) ho hd
  generalize s.heap.update a (Obj.putSet es1 t1) = h1 at sb ho1 ⊢
  have at1 : ∀ p ∈ L1, At h1 p.2 p.1 := fun p hp => by
    rcases List.mem_cons.mp (pm.mem_iff.mp hp) with rfl | hp
    · exact hx.set ho hd sb
    · exact (R.at_ p hp).set ho hd sb
  have ld1 : w.params.followText "set-order" = true ∨ t1.led = true := by rw [q5]; exact R.led
  rw [List.length_map] at q9
  by_cases hf : t1.tooFull = true
  · first
      | (refine wpAny_bind ?_; refine wp_if_pos (by simp [hf]) ?_)
      | (refine wp_if_pos (by simp [hf]) ?_; refine wpAny_bind ?_)
    have full : (L.length + 1) * 5 ≥ t1.mask * 3 := by
      have h := hf
      unfold SetTable.tooFull at h
      rw [decide_eq_true_eq, q9] at h
      exact h
    rw [hsl]
    have hsz1 : t1.place.size = es1.size := by
      have h := q3.sz
      rw [List.length_map, hlen] at h
      rw [h, hes]
    have go : ∀ M, SetTable.sizeAbove (SetTable.grown (L.length + 1)) - 1 = M → MaskOk M → SetTable.sizeAbove (SetTable.grown (L.length + 1)) ≤ 128 → (L.length + 1) * 5 < M * 3 → es1.size ≤ t1.mask →
        wpAny (model P w) A (setRelay a (SetTable.grown (L.length + 1))) (fun _ s' => wpAny (model P w) A (pure true) Q E s') E { s with heap := h1 } := fun M g1 g2 g3 g4 g5 => by
      refine grown_at (s := { s with heap := h1 }) ho1 ⟨hex.1, hex.2.1, hex.2.2⟩ rfl hin hsz1 q3.dm g5 at1 hp1 ld1 (by rw [hlen]; exact hfew) g1 g2 g3 (by rw [hlen]; exact g4) fun h2 L2 es2 ep2 t2 sb2 R2 pm2 => ?_
      exact wpAny_pure (q h2 L2 es2 ep2 t2 (sb.trans sb2) R2 (pm2.trans pm))
    rcases R.tab.mok with e | e | e
    · rw [q4, e] at full
      rw [e] at hroom
      have e4 : L.length = 4 := by omega
      rw [e4] at go ⊢
      exact go 31 (by rw [size_20]) (.inr (.inl rfl)) (by rw [size_20]; decide) (by omega) (by rw [hes, q4, e]; omega)
    · rw [q4, e] at full
      rw [e] at hroom
      have e18 : L.length = 18 := by omega
      rw [e18] at go ⊢
      exact go 127 (by rw [size_76]) (.inr (.inr rfl)) (by rw [size_76]; decide) (by omega) (by rw [hes, q4, e]; omega)
    · rw [q4, e] at full
      omega
  · first
      | refine wp_if_neg (by simp [hf]) ?_
      | (refine wpAny_bind ?_; refine wp_if_neg (by simp [hf]) ?_; refine wpAny_pure ?_)
    refine wpAny_pure (q h1 L1 es1 (ep + 1) t1 sb { obj := ⟨_, ho1, ⟨hex.1, hex.2.1, hex.2.2⟩, rfl⟩, ents := hin, tab := q3, at_ := at1, plain := hp1, led := ld1, room := ?_, few := by rw [hlen]; exact hfew } pm)
    have h := hf
    unfold SetTable.tooFull at h
    rw [decide_eq_true_eq, q9] at h
    rw [hlen]
    omega
theorem Held.kept {h h' : Heap} (R : Held w h a L es ep t) (ha : ∀ o, h.get? a = some o → h'.get? a = some o) (hl : ∀ p ∈ L, At h' p.2 p.1) : Held w h' a L es ep t := by
  obtain ⟨o, ho, r⟩ := R.obj
  exact { R with obj := ⟨o, ha o ho, r⟩, at_ := hl }
theorem At.old {h h' : Heap} {k : NestedKey} {b : Addr} (x : At h k b) (keep : ∀ c o, h.get? c = some o → h'.get? c = some o) : At h' k b := x.kept fun c o _ _ e _ => keep c o e
theorem held_new {h : Heap} {a : Addr} (ho : h.get? a = some { cls := .type "set", dict := none, data := .set #[] 0 (.fresh 0 0 (!w.params.followText "set-order")) }) : Held w h a [] #[] 0 (.fresh 0 0 (!w.params.followText "set-order")) where
  obj := ⟨_, ho, ⟨rfl, rfl, rfl⟩, rfl⟩
  ents := rfl
  tab := ⟨List.Pairwise.nil, rfl, rfl, .inl rfl, fun x hx => (by cases hx), fun i h j hi => (by simp at hi)⟩
  at_ := fun p hp => (by cases hp)
  plain := rfl
  led := by
    show _ ∨ (!w.params.followText "set-order") = true
    cases w.params.followText "set-order" <;> simp
  room := by show 0 * 5 < 7 * 3; decide
  few := by show 0 < 64; decide
theorem take_snoc {α : Type} {l : List α} {i : Nat} {x : α} (h : l[i]? = some x) : l.take (i + 1) = l.take i ++ [x] := by
  rw [List.take_succ, h]; rfl
theorem new_key {ks : List Row} (nd : (ks.map (·.2)).Nodup) {i : Nat} {p : Row} (hp : ks[i]? = some p) {L : List Row} (pm : L.Perm (ks.take i)) : ∀ q ∈ L, q.2 ≠ p.2 := fun q hq e => by
  have hm := pm.mem_iff.mp hq
  have h2 := nd.sublist ((List.take_sublist (i + 1) ks).map _)
  rw [take_snoc hp, List.map_append, List.nodup_append] at h2
  exact h2.2.2 _ (List.mem_map.mpr ⟨q, hm, rfl⟩) _ (by simp) e
/-- the loop that puts all of them in -/
theorem fill_loop {I : Addr} {fp wr : List Addr} {G : Array GenState → Array GenState → Prop} {n : Nat} {Pv : Nat → Value → Prop} {St : Nat → Shared → Prop} {R : Result → Shared → Prop}
    (W : WalksS P w A.in1 I fp wr G n Pv St) (S : Addr) (hSf : S ∉ fp) {ks : List Row} (hn : n = ks.length) (hfew : ks.length < 64) (nd : (ks.map (·.2)).Nodup) (hval : ∀ i v, Pv i v → ∃ p, ks[i]? = some p ∧ v = .ref p.1)
    (h0 : Heap) (hk : ∀ p ∈ ks, At h0 p.2 p.1) (hS0 : h0.get? S = none) (hw0 : ∀ b ∈ wr, h0.get? b = none) (hu : A.in1.units + 8 < cLine) :
    ∀ (k i : Nat) (s : Shared), n - i = k → i ≤ n → St i s → (∀ b o, h0.get? b = some o → s.heap.get? b = some o) → (∃ L es ep t, Held w s.heap S L es ep t ∧ L.Perm (ks.take i)) →
      (∀ s' L es ep t, Moved (S :: wr) G s s' → Held w s'.heap S L es ep t → L.Perm ks → (∀ b o, h0.get? b = some o → s'.heap.get? b = some o) → R (.ok (.ret .none)) s') →
      codeAny (model P w) A (.builtin "set.update.loop" ⟨[.ref S, .ref I], []⟩) R s := by
  have hSw : S ∉ wr := fun h => hSf (W.sub _ h)
  have more : ∀ b ∈ wr, b ∈ S :: wr := fun b hb => List.mem_cons_of_mem _ hb
  have old : ∀ {s s' : Shared}, Moved wr G s s' → (∀ b o, h0.get? b = some o → s.heap.get? b = some o) → ∀ b o, h0.get? b = some o → s'.heap.get? b = some o := fun hm hkp b o e =>
    hm.heap b o (fun hb => by rw [hw0 b hb] at e; cases e) (hkp b o e)
  intro k
  induction k with
  | zero =>
    intro i s hk' hi hst hkp ⟨L, es, ep, t, hS, pm⟩ hR
    obtain rfl : i = n := by omega
    refine codeAny_builtin F.entry_set_update_loop ?_
    rw [Around.under_plainId F.plain_set_update_loop _]
    show wpAny _ A.in1 (pyNext (.ref I) >>= _) _ _ s
    refine wpAny_bind (W.done s _ _ hst fun s' hm => ?_)
    show wpAny _ A.in1 (ret Value.none) _ _ s'
    rw [hn, List.take_length] at pm
    exact wpAny_pure (hR s' L es ep t (hm.mono more) (hS.kept (fun o e => hm.heap S o hSw e) fun p hp => (hk p (pm.mem_iff.mp hp)).old (old hm hkp)) pm (old hm hkp))
  | succ k ih =>
    intro i s hk' hi hst hkp ⟨L, es, ep, t, hS, pm⟩ hR
    refine codeAny_builtin F.entry_set_update_loop ?_
    rw [Around.under_plainId F.plain_set_update_loop _]
    show wpAny _ A.in1 (pyNext (.ref I) >>= _) _ _ s
    refine wpAny_bind (W.item i s _ _ (by omega) hst fun v s' hP hst' hm => ?_)
    obtain ⟨p, hp, rfl⟩ := hval i v hP
    have hkp' := old hm hkp
    have hS' : Held w s'.heap S L es ep t := hS.kept (fun o e => hm.heap S o hSw e) fun q hq => (hk q (List.mem_of_mem_take (pm.mem_iff.mp hq))).old hkp'
    have hx : At s'.heap p.2 p.1 := (hk p (List.mem_of_getElem? hp)).old hkp'
    have ll : L.length ≤ i := by rw [pm.length_eq, List.length_take]; omega
    show wpAny _ A.in1 (holding [Value.ref p.1] (setAdd S (.ref p.1)) >>= _) _ _ s'
    refine wpAny_bind (wpAny_holding ?_)
    unfold setAdd
    refine wpAny_holding ?_
    refine wpAny_bind (pyHash_key p.2 _ _ _ _ hx.is (by have := hx.dp; omega) ?_)
    refine add_new (s := { s' with toks := s'.toks + p.2.draws }) hS' hx hu (new_key nd hp pm) (by omega) fun h' L' es' ep' t' hsb hS2 pm2 => ?_
    have pm3 : L'.Perm (ks.take (i + 1)) := by
      rw [take_snoc hp]
      refine pm2.trans ((List.Perm.cons _ pm).trans ?_)
      exact (List.perm_append_comm (l₁ := [p]) (l₂ := ks.take i))
    have hkp2 : ∀ b o, h0.get? b = some o → h'.get? b = some o := fun b o e => (hsb.2 b (fun z => by rw [z, hS0] at e; cases e)).trans (hkp' b o e)
    refine wpAny_pure ⟨plainId_quiet F.plain_set_update_loop _, ih (i + 1) _ (by omega) (by omega) (W.frame _ s' _ _ hst' (Nat.le_add_right _ _) fun b hb o e => ?_) hkp2 ⟨L', es', ep', t', hS2, pm3⟩ fun s2 L2 es2 ep2 t2 hm2 h2 p2 k2 => ?_⟩
    · rw [hsb.2 b (fun h : b = S => hSf (by rw [← h]; exact hb))]; exact e
    · refine hR s2 L2 es2 ep2 t2 (Moved.trans W.gtrans ((hm.mono more).then_heap (Nat.le_add_right _ _) fun b o hb e => ?_) hm2) h2 p2 k2
      rw [hsb.2 b (fun h : b = S => hb (by rw [h]; exact List.mem_cons_self))]; exact e
set_option maxRecDepth 100000 in
set_option maxHeartbeats 3200000 in
/-- set(xs), xs a list of keys that all differ -/
theorem call_set_keys {l : Addr} {items : Array Value} {ks : List Row} {Q : Value → Shared → Prop} (hh : A.handled = none) (hl : s.heap.IsList l items) (hit : items.toList = ks.map fun p => Value.ref p.1)
    (hk : ∀ p ∈ ks, At s.heap p.2 p.1) (nd : (ks.map (·.2)).Nodup) (hfew : ks.length < 64) (hu : A.units + 16 < cLine)
    (q : ∀ (h' : Heap) (tk : Nat) L es ep t, Held w h' s.heap.objs.size L es ep t → L.Perm ks → (∀ b o, s.heap.get? b = some o → h'.get? b = some o) → Q (.ref s.heap.objs.size) { s with heap := h', toks := tk }) :
    wpAny (model P w) A (call (.type "set") [.ref l]) Q E s := by
  have hisz : items.size = ks.length := by rw [← Array.length_toList, hit, List.length_map]
  have gone : ∀ b, s.heap.objs.size ≤ b → s.heap.get? b = none := fun b hb => by
    cases e : s.heap.get? b with
    | none => rfl
    | some o => exact absurd (Nat.lt_of_lt_of_le (Heap.lt_size e) hb) (Nat.lt_irrefl _)
  obtain ⟨c, tl, hmro⟩ := F.called_set.mro
  have hmade := F.called_set.made
  have hsub := F.called_set.sub
  have h1 := F.called_set.notType
  have h2 := F.called_set.canCreate
  have hct := F.typeCall_set_1 (.ref l)
  refine wpAny_call (codeAny_of_tree ?_)
  show wpAny _ _ (callAny (.type "set") _) _ _ _
  refine wpAny_pure ⟨Code.quiet_builtin _ (by decide +kernel), codeAny_builtin F.entry_type_call ?_⟩
  rw [Around.under_plain (weight_type_call_type "set" [.ref l] []) rfl]
  repeat (any_goals (first | assumption | wp_step))
  generalize hob : ({ cls := .type "set", dict := none, data := .set #[] 0 (.fresh 0 0 (!w.params.followText "set-order")) } : Obj) = ob
  refine codeAny_mono (code_set_led1 (.ref l) (E := E) (Q₁ := fun obj s₁ => obj = .ref s.heap.objs.size ∧ s₁ = { s with heap := s.heap.push ob }) ⟨rfl, by rw [← hob]⟩) fun r s₁ hr => ?_
  cases r with
  | error e => exact hr
  | ok fl =>
    cases fl with
    | ret obj =>
      obtain ⟨rfl, rfl⟩ := hr
      subst hob
      have hS : (s.heap.push { cls := .type "set", dict := none, data := .set #[] 0 (.fresh 0 0 (!w.params.followText "set-order")) }).get? s.heap.objs.size = some { cls := .type "set", dict := none, data := .set #[] 0 (.fresh 0 0 (!w.params.followText "set-order")) } := Heap.get?_push_size _ rfl
      have hT : Shared.TypeIs { s with heap := s.heap.push { cls := .type "set", dict := none, data := .set #[] 0 (.fresh 0 0 (!w.params.followText "set-order")) } } (.ref s.heap.objs.size) "set" := ⟨_, hS, rfl⟩
      have hli := F.called_set.init.lookup
      have hbi := F.called_set.init.bind (.ref s.heap.objs.size)
      repeat (any_goals (first | assumption | wp_step))
      refine codeAny_mono (codeAny_call_builtin (R := wants (fun r s₂ => r = .none ∧ ∃ h' tk L es ep t, s₂ = { s with heap := h', toks := tk } ∧ Held w h' s.heap.objs.size L es ep t ∧ L.Perm ks ∧
          (∀ b o, s.heap.get? b = some o → h'.get? b = some o)) E) F.called_set.init.plain F.entry_set_init (check_set_init_1 hT ?_)) fun r₂ s₂ hr₂ => ?_
      · obtain ⟨⟨oc, odc, oda, osl⟩, hol, hcl, nl, hdl⟩ := hl
        replace hcl : oc = .type "list" := hcl
        replace hdl : oda = .seq items nl := hdl
        subst hcl; subst hdl
        have hol' := Heap.get?_push_of_some { cls := .type "set", dict := none, data := .set #[] 0 (.fresh 0 0 (!w.params.followText "set-order")) } hol
        have hsls := F.sub_list_set
        have hslf := F.sub_list_frozenset
        have hne : (Value.type "list" == Value.type "dict") = false := by decide
        have isL : (s.heap.push { cls := .type "set", dict := none, data := .set #[] 0 (.fresh 0 0 (!w.params.followText "set-order")) }).IsList l items := ⟨_, hol', rfl, nl, rfl⟩
        unfold Builtin.«set.__init__» noKeywords Builtin.Frozenset.updateFrom
        generalize hPI : pyIter = PI
        wp_walk
        subst hPI
        refine wpAny_pyIter_list isL ?_
        refine wpAny_bind (wpAny_runValue ?_)
        have hlS := Heap.lt_size hol
        have hh3 : A.in1.in1.in1.handled = none := by simp [hh]
        have ne1 : l ≠ (s.heap.push { cls := .type "set", dict := none, data := .set #[] 0 (.fresh 0 0 (!w.params.followText "set-order")) }).objs.size := by
          rw [Heap.size_push]; exact Nat.ne_of_lt (Nat.lt_succ_of_lt hlS)
        refine fill_loop ((Walks.list hh3 _ l ne1 items).toS) s.heap.objs.size (by
            rw [Heap.size_push]; intro hm
            simp only [List.mem_cons, List.not_mem_nil, or_false] at hm
            rcases hm with e | e
            · exact absurd e (Nat.ne_of_lt (Nat.lt_succ_self _))
            · exact absurd e (Nat.ne_of_gt hlS))
          hisz hfew nd (fun i v hv => ?_) s.heap hk (gone _ (Nat.le_refl _)) (fun b hb => gone b (by rw [List.mem_singleton.mp hb, Heap.size_push]; exact Nat.le_succ _)) (show A.units + 3 + 8 < cLine by omega) (items.size - 0) 0 _ (by omega) (Nat.zero_le _)
          ⟨⟨_, Heap.get?_push_size _ rfl, rfl, rfl⟩, isL.push _⟩ (fun b o e => Heap.get?_push_of_some _ (Heap.get?_push_of_some _ e)) ⟨[], #[], 0, _, held_new (Heap.get?_push_of_some _ hS), by simp⟩ fun s' L es ep t hm hS' pm hkp => ?_
        · have e : items.toList[i]? = some v := by rw [Array.getElem?_toList]; exact hv
          rw [hit, List.getElem?_map] at e
          cases hq : ks[i]? with
          | none => rw [hq] at e; cases e
          | some p => rw [hq] at e; exact ⟨p, rfl, (Option.some.inj e).symm⟩
        · obtain ⟨h', g2, d', tk', os'⟩ := s'
          have eg : g2 = s.gens := hm.gens
          have ed : d' = s.drawn := hm.drawn
          have eo : os' = s.os := hm.os
          subst eg; subst ed; subst eo
          show wpAny _ _ _ _ _ _
          refine wpAny_pure ?_
          show wpAny _ _ (ret Value.none) _ _ _
          exact wpAny_pure ⟨rfl, h', tk', L, es, ep, t, rfl, hS', pm, hkp⟩
      · cases r₂ with
        | error e => exact hr₂
        | ok fl₂ =>
          cases fl₂ with
          | ret r =>
            obtain ⟨rfl, h', tk, L, es, ep, t, rfl, hS', pm, hk'⟩ := hr₂
            repeat (any_goals (first | assumption | wp_step))
            exact q _ _ _ _ _ _ hS' pm hk'
          | _ => exact hr₂.elim
    | _ => exact hr.elim
end
end NS
namespace TV
open PySem PySem.Spec PyProof.Rows L2
mutual
theorem keyOf_pure : ∀ (d : D) (k : NestedKey), keyOf d = some k → NS.Pure k
  | .int i, k, h => by simp only [keyOf, Option.some.injEq] at h; subst h; exact .num i
  | .tuple ds, k, h => by
    simp only [keyOf, Option.map_eq_some_iff] at h
    obtain ⟨ks, h1, rfl⟩ := h
    exact .tup (keysOf_pure ds ks h1)
  | .none, k, h => by simp [keyOf] at h
  | .bool _, k, h => by simp [keyOf] at h
  | .str _, k, h => by simp [keyOf] at h
  | .list _, k, h => by simp [keyOf] at h
  | .dict _, k, h => by simp [keyOf] at h
theorem keysOf_pure : ∀ (ds : List D) (ks : List NestedKey), keysOf ds = some ks → ∀ k ∈ ks, NS.Pure k
  | [], ks, h, k, hk => by simp only [keysOf, Option.some.injEq] at h; subst h; cases hk
  | d :: ds, ks, h, k, hk => by
    rw [keysOf] at h
    cases h1 : keyOf d with
    | none => rw [h1] at h; cases h
    | some k1 =>
      cases h2 : keysOf ds with
      | none => rw [h1, h2] at h; cases h
      | some ks2 =>
        rw [h1, h2] at h
        cases h
        rcases List.mem_cons.mp hk with rfl | hk
        · exact keyOf_pure d _ h1
        · exact keysOf_pure ds _ h2 k hk
end
section
variable {X : Cx} {pins : List (Addr × Obj)} {σ : L2.St} {H B : Hp} {s : Shared}
mutual
theorem key_at (I : Inv X pins σ H s) (e : Same B H) : ∀ (d : D) {v : V} {u : Value} {k : NestedKey}, Dv X.K B v d → RelV v u → keyOf d = some k → NestedIs s.heap k u
  | .int i, v, u, k, h, r, hk => by
    simp only [keyOf, Option.some.injEq] at hk
    subst hk
    obtain rfl := h.int'
    obtain ⟨t, rfl⟩ := r
    exact .int i t
  | .tuple ds, v, u, k, h, r, hk => by
    simp only [keyOf, Option.map_eq_some_iff] at hk
    obtain ⟨ks, h1, rfl⟩ := hk
    cases h with
    | tup hs t =>
      obtain ⟨its, rv, ⟨o, ho, hc, n, hd⟩, _⟩ := I.tuple (Le.tup e hs)
      obtain rfl : u = .ref _ := r
      exact .tup ho hc hd (by simpa using keys_at I e ds t rv h1)
  | .none, v, u, k, h, r, hk => by simp [keyOf] at hk
  | .bool _, v, u, k, h, r, hk => by simp [keyOf] at hk
  | .str _, v, u, k, h, r, hk => by simp [keyOf] at hk
  | .list _, v, u, k, h, r, hk => by simp [keyOf] at hk
  | .dict _, v, u, k, h, r, hk => by simp [keyOf] at hk
theorem keys_at (I : Inv X pins σ H s) (e : Same B H) : ∀ (ds : List D) {vs : List V} {us : List Value} {ks : List NestedKey}, DvAll X.K B vs ds → Vals vs us → keysOf ds = some ks → NestedAll s.heap ks us
  | [], vs, us, ks, h, r, hk => by
    simp only [keysOf, Option.some.injEq] at hk
    subst hk
    cases h
    cases r
    exact .nil
  | d :: ds, vs, us, ks, h, r, hk => by
    rw [keysOf] at hk
    cases h1 : keyOf d with
    | none => rw [h1] at hk; cases hk
    | some k1 =>
      cases h2 : keysOf ds with
      | none => rw [h1, h2] at hk; cases hk
      | some ks2 =>
        rw [h1, h2] at hk
        cases hk
        cases h with
        | cons hd ht =>
          cases r with
          | cons r1 r2 => exact .cons (key_at I e d hd r1 h1) (keys_at I e ds ht r2 h2)
end
theorem rows_at {h : Heap} : ∀ {ks : List NestedKey} {us : List Value}, NestedAll h ks us → ks.all isTupK = true → ∃ rs : List NS.Row, us = rs.map (fun p => Value.ref p.1) ∧ rs.map (·.2) = ks ∧ ∀ p ∈ rs, NestedIs h p.2 (.ref p.1)
  | [], _, .nil, _ => ⟨[], rfl, rfl, fun p hp => by cases hp⟩
  | k :: ks, _, .cons h1 h2, ha => by
    simp only [List.all_cons, Bool.and_eq_true] at ha
    obtain ⟨rs, e1, e2, e3⟩ := rows_at h2 ha.2
    cases h1 with
    | @tup a o vs n kk g1 g2 g3 g4 =>
      refine ⟨(a, .tup kk) :: rs, by rw [e1]; rfl, by rw [List.map_cons, e2], fun p hp => ?_⟩
      rcases List.mem_cons.mp hp with rfl | hp
      · exact .tup g1 g2 g3 g4
      · exact e3 p hp
    | _ => simp [isTupK] at ha
theorem depth_mem {ks : List NestedKey} {n : Nat} (h : NestedKey.depthAll ks ≤ n) : ∀ k ∈ ks, k.depth ≤ n := by
  induction ks with
  | nil => intro k hk; cases hk
  | cons a ks ih =>
    intro k hk
    simp only [NestedKey.depthAll] at h
    rcases List.mem_cons.mp hk with rfl | hk
    · omega
    · exact ih (by omega) k hk
/-- a set of n keys -/
structure SetN (w : World) (h : Heap) (a : Addr) (n : Nat) : Prop where
  ex : ∃ (o : Obj) (es : Array (Int × Value)) (ep : Nat) (t : SetTable), h.get? a = some o ∧ o.ExactSet ∧ o.data = .set es ep t ∧ t.fits es.size = true ∧ es.size = n ∧ n < 64
def SetNO (w : World) (a : Addr) (n : Nat) : HO := .ext fun h => SetN w h a n
theorem setN_new {P : Program} {w : World} {h : Heap} {a : Addr} {n : Nat} (R : SetN w h a n) : ObjOk P w H h a (SetNO w a n) := by
  have ⟨o, es, ep, t, ho, r⟩ := R.ex
  refine ⟨R, ⟨o, ho⟩, fun h1 h2 p k => ?_⟩
  have ⟨o', es', ep', t', ho', r'⟩ := SetN.ex p
  exact ⟨o', es', ep', t', k o' ho', r'⟩
def rSetN (K : PySem.W.Frag) (w : World) : List V → Hp → VK → Prop := fun xs H Q => ∃ (l : Addr) (vs : List V) (ds : List D) (ks : List NestedKey) (B : Hp), xs = [V.ref l] ∧ SqL K H l vs ∧ Same B H ∧ DvAll K B vs ds ∧ keysOf ds = some ks ∧ ks.all isTupK = true ∧ NestedKey.depthAll ks ≤ 8 ∧ ks.Nodup ∧ ds.length < 64 ∧
  ∀ a, H a = none → Q (.ref a) (upd H a (SetNO w a ds.length))
theorem cr_setN (hc : X.calm = true) (hu : X.A.units + 64 < cLine) : CallR X (.type "set") (rSetN X.K X.w) := by
  intro pins s σ H xs us Q I r h
  obtain ⟨l, vs, ds, ks, B, rfl, hl, e, hd, hk, ht, h8, nd, hf, q⟩ := h
  rw [Vals.ref1 r]
  obtain ⟨its, rv, pl, hz⟩ := I.list hl
  have all := keys_at I e ds hd rv hk
  obtain ⟨rs, e1, e2, e3⟩ := rows_at all ht
  have hn : H s.heap.objs.size = none := I.hok.fresh (Nat.le_refl _)
  have ln : ks.length = ds.length := by rw [← hd.length, ← NestedAll.length _ _ all, ← rv.length]
  have lr : rs.length = ds.length := by rw [← ln, ← e2, List.length_map]
  refine NS.call_set_keys (P := X.prog) (w := X.w) (ks := rs) (I.ok.hd hc) pl.isList (by simpa using e1) (fun p hp => ⟨e3 p hp, depth_mem h8 _ (by rw [← e2]; exact List.mem_map.mpr ⟨p, hp, rfl⟩), keysOf_pure ds ks hk _ (by rw [← e2]; exact List.mem_map.mpr ⟨p, hp, rfl⟩)⟩)
    (by rw [e2]; exact nd) (by omega) (by omega) fun h' tk L es ep t R pm k => ?_
  obtain ⟨o, ho, hex, hdd⟩ := R.obj
  have sz : es.size = ds.length := by rw [NS.size_of R.ents, pm.length_eq, lr]
  exact ⟨.ref s.heap.objs.size, _, I.laid (t' := tk) k (Nat.le_refl _) (setN_new ⟨o, es, ep, t, ho, hex, hdd, R.fits, sz, hf⟩), rfl, q _ hn⟩
def rLenN (w : World) : List V → Hp → VK → Prop := fun xs H Q => ∃ (a : Addr) (n : Nat), xs = [V.ref a] ∧ H a = some (SetNO w a n) ∧ Q (.int (n : Nat)) H
theorem cr_lenN : CallR X (.builtin "len") (rLenN X.w) := by
  intro pins s σ H xs us Q I r h
  obtain ⟨a, n, rfl, ha, q⟩ := h
  rw [Vals.ref1 r]
  have R : SetN X.w s.heap a n := (I.hok a _ ha).1
  obtain ⟨o, es, ep, t, ho, hex, hd, hf, hn, h64⟩ := R.ex
  exact call_len_set ho hex hd hf (by rw [hn]; omega) ⟨.int n, H, I.tok _, ⟨_, by rw [hn]⟩, q⟩
end
section
variable {X : Cx} {C : Ct} {ev : Env → R D} {pu : Bool}
theorem te_nSetL {e : Expr} {w : World} (h : PE X e (tCB (rLenN w) (L2.tCons (tCB (rSetN C.K w) (L2.tCons (tZ C ev pu) L2.tNil)) L2.tNil))) : PE X e (tN C (fun ρ => (ev ρ).bind fun d ρ => R.of (b1 .nSetL d) ρ) pu .s) := PE.imp h fun σ H Q ⟨ρ, B, G, fp, r, q⟩ => by
  have q : Post C B G H σ pu _ _ := q
  refine ⟨ρ, B, G, fp, r, (q.bind (pu1 := pu) (pu2 := true) (by simp)).mono fun d B1 G1 H1 fp1 ρ1 _ _ r1 k v hv => ?_⟩
  obtain ⟨d', e1, k⟩ := Post.of_some k
  cases d with
  | list ds =>
    simp only [b1] at e1
    split at e1
    · rename_i ks hks
      split at e1
      · rename_i hc
        cases e1
        simp only [Bool.and_eq_true, decide_eq_true_eq] at hc
        obtain ⟨⟨⟨c1, c2⟩, c3⟩, c4⟩ := hc
        obtain ⟨a, vs, rfl, h1, t⟩ := hv.list r1.bh
        refine ⟨a, vs, ds, ks, B1, rfl, h1, r1.bh, t, hks, c2, c3, c4, c1, fun s hs => ?_⟩
        have x1 : Ext B1 H1 B1 (upd H1 s (SetNO w s ds.length)) := Ext.newH r1.bh hs _
        exact ⟨s, ds.length, rfl, upd_same, ((k.fin r1).later x1).s x1.bh (.int _)⟩
      · cases e1
    · cases e1
  | _ => simp [b1] at e1
end
end TV

/-! V16: the check of an expression against the given tree. -/
namespace TV
open PySem PySem.Spec PyProof.Rows L2
/-! ### views of a tree -/
def vName : Expr → Option Str
  | .Name x _ => some x
  | _ => none
theorem vName_eq {x : Expr} {y : Str} (h : vName x = some y) : ∃ p, x = .Name y p := by cases x <;> simp [vName] at h; subst h; exact ⟨_, rfl⟩
def vConst : Expr → Option Const
  | .Constant c _ _ => some c
  | _ => none
theorem vConst_eq {x : Expr} {c : Const} (h : vConst x = some c) : ∃ j p, x = .Constant c j p := by cases x <;> simp [vConst] at h; subst h; exact ⟨_, _, rfl⟩
def vUn : Expr → Option (UnaryOp × Expr)
  | .UnaryOp op a _ => some (op, a)
  | _ => none
theorem vUn_eq {x a : Expr} {op : UnaryOp} (h : vUn x = some (op, a)) : ∃ p, x = .UnaryOp op a p := by cases x <;> simp [vUn] at h; obtain ⟨rfl, rfl⟩ := h; exact ⟨_, rfl⟩
def vBin : Expr → Option (Operator × Expr × Expr)
  | .BinOp a op b _ => some (op, a, b)
  | _ => none
theorem vBin_eq {x a b : Expr} {op : Operator} (h : vBin x = some (op, a, b)) : ∃ p, x = .BinOp a op b p := by cases x <;> simp [vBin] at h; obtain ⟨rfl, rfl, rfl⟩ := h; exact ⟨_, rfl⟩
def vCmp : Expr → Option (CmpOp × Expr × Expr)
  | .Compare a [op] [b] _ => some (op, a, b)
  | _ => none
theorem vCmp_eq {x a b : Expr} {op : CmpOp} (h : vCmp x = some (op, a, b)) : ∃ p, x = .Compare a [op] [b] p := by
  unfold vCmp at h
  split at h
  · cases h; exact ⟨_, rfl⟩
  · cases h
def vCh : Expr → Option (CmpOp × CmpOp × Expr × Expr × Expr)
  | .Compare a [op, op'] [b, c] _ => some (op, op', a, b, c)
  | _ => none
theorem vCh_eq {x a b c : Expr} {op op' : CmpOp} (h : vCh x = some (op, op', a, b, c)) : ∃ p, x = .Compare a [op, op'] [b, c] p := by
  unfold vCh at h
  split at h
  · cases h; exact ⟨_, rfl⟩
  · cases h
def vBool : Expr → Option (PySem.BoolOp × Expr × Expr × List Expr × Pos)
  | .BoolOp op (a :: b :: r) p => some (op, a, b, r, p)
  | _ => none
theorem vBool_eq {x a b : Expr} {op : PySem.BoolOp} {r : List Expr} {p : Pos} (h : vBool x = some (op, a, b, r, p)) : x = .BoolOp op (a :: b :: r) p := by
  unfold vBool at h
  split at h
  · cases h; rfl
  · cases h
def vIf : Expr → Option (Expr × Expr × Expr)
  | .IfExp c a b _ => some (c, a, b)
  | _ => none
theorem vIf_eq {x a b c : Expr} (h : vIf x = some (c, a, b)) : ∃ p, x = .IfExp c a b p := by cases x <;> simp [vIf] at h; obtain ⟨rfl, rfl, rfl⟩ := h; exact ⟨_, rfl⟩
def vTup : Expr → Option (List Expr)
  | .Tuple es _ _ => some es
  | _ => none
theorem vTup_eq {x : Expr} {es : List Expr} (h : vTup x = some es) : ∃ k p, x = .Tuple es k p := by cases x <;> simp [vTup] at h; subst h; exact ⟨_, _, rfl⟩
def vLst : Expr → Option (List Expr)
  | .List es _ => some es
  | _ => none
theorem vLst_eq {x : Expr} {es : List Expr} (h : vLst x = some es) : ∃ p, x = .List es p := by cases x <;> simp [vLst] at h; subst h; exact ⟨_, rfl⟩
def vDict : Expr → Option (List (Option Expr) × List Expr)
  | .Dict ks vs _ => some (ks, vs)
  | _ => none
theorem vDict_eq {x : Expr} {ks : List (Option Expr)} {vs : List Expr} (h : vDict x = some (ks, vs)) : ∃ p, x = .Dict ks vs p := by cases x <;> simp [vDict] at h; obtain ⟨rfl, rfl⟩ := h; exact ⟨_, rfl⟩
def vCall : Expr → Option (Str × List Expr)
  | .Call (.Name f _) es [] _ => some (f, es)
  | _ => none
theorem vCall_eq {x : Expr} {f : Str} {es : List Expr} (h : vCall x = some (f, es)) : ∃ p q, x = .Call (.Name f p) es [] q := by
  unfold vCall at h
  split at h
  · cases h; exact ⟨_, _, rfl⟩
  · cases h
def vMeth : Expr → Option (Expr × Str × List Expr)
  | .Call (.Attribute o m apos) es [] pos => if apos.endLine == pos.line then some (o, m, es) else none
  | _ => none
theorem vMeth_eq {x o : Expr} {m : Str} {es : List Expr} (h : vMeth x = some (o, m, es)) : ∃ p q, x = .Call (.Attribute o m p) es [] q ∧ (p.endLine == q.line) = true := by
  unfold vMeth at h
  split at h
  · split at h
    · cases h; exact ⟨_, _, rfl, by assumption⟩
    · cases h
  · cases h
def vSub : Expr → Option (Expr × Expr)
  | .Subscript a i _ => some (a, i)
  | _ => none
theorem vSub_eq {x a i : Expr} (h : vSub x = some (a, i)) : ∃ p, x = .Subscript a i p := by cases x <;> simp [vSub] at h; obtain ⟨rfl, rfl⟩ := h; exact ⟨_, rfl⟩
def vSlU : Expr → Option (Expr × Expr)
  | .Subscript a (.Slice none (some b) none _) _ => some (a, b)
  | _ => none
theorem vSlU_eq {x a b : Expr} (h : vSlU x = some (a, b)) : ∃ p q, x = .Subscript a (.Slice none (some b) none p) q := by
  unfold vSlU at h
  split at h
  · cases h; exact ⟨_, _, rfl⟩
  · cases h
def vSlL : Expr → Option (Expr × Expr)
  | .Subscript a (.Slice (some b) none none _) _ => some (a, b)
  | _ => none
theorem vSlL_eq {x a b : Expr} (h : vSlL x = some (a, b)) : ∃ p q, x = .Subscript a (.Slice (some b) none none p) q := by
  unfold vSlL at h
  split at h
  · cases h; exact ⟨_, _, rfl⟩
  · cases h
def vRv2 : Expr → Option Expr
  | .Subscript a (.Slice (some (.UnaryOp .USub (.Constant (.int 2) _ _) _)) none (some (.UnaryOp .USub (.Constant (.int 1) _ _) _)) _) _ => some a
  | _ => none
theorem vRv2_eq {x a : Expr} (h : vRv2 x = some a) : ∃ k0 q1 q2 k p1 p2 p3 p, x = .Subscript a (.Slice (some (.UnaryOp .USub (.Constant (.int 2) k0 q1) q2)) none (some (.UnaryOp .USub (.Constant (.int 1) k p1) p2)) p3) p := by
  unfold vRv2 at h
  split at h
  · cases h; exact ⟨_, _, _, _, _, _, _, _, rfl⟩
  · cases h
def vRev : Expr → Option Expr
  | .Subscript a (.Slice none none (some (.UnaryOp .USub (.Constant (.int 1) _ _) _)) _) _ => some a
  | _ => none
theorem vRev_eq {x a : Expr} (h : vRev x = some a) : ∃ k p1 p2 p3 p, x = .Subscript a (.Slice none none (some (.UnaryOp .USub (.Constant (.int 1) k p1) p2)) p3) p := by
  unfold vRev at h
  split at h
  · cases h; exact ⟨_, _, _, _, _, rfl⟩
  · cases h
def vLc : Expr → Option (Expr × Expr × Expr × List Expr × Scope)
  | .ListComp elt [⟨tg, it, ifs, 0⟩] sc _ => some (elt, tg, it, ifs, sc)
  | _ => none
theorem vLc_eq {x elt tg it : Expr} {ifs : List Expr} {sc : Scope} (h : vLc x = some (elt, tg, it, ifs, sc)) : ∃ p, x = .ListComp elt [⟨tg, it, ifs, 0⟩] sc p := by
  unfold vLc at h
  split at h
  · cases h; exact ⟨_, rfl⟩
  · cases h
/-- no star ahead -/
def pl : Expr → Bool
  | .Starred _ _ => false
  | _ => true
theorem starEach_pl {e : Expr} {es : List Expr} {env : PySem.Env} (h : pl e = true) : starEach (e :: es) env = (false, eval e env) :: starEach es env := by cases e <;> first | rfl | cases h
theorem any_pl {pos : Pos} {env : PySem.Env} : ∀ {es : List Expr}, es.all pl = true → (backTo pos (starEach es env)).any (·.1) = false
  | [], _ => rfl
  | e :: es, h => by
    rw [List.all_cons, Bool.and_eq_true] at h
    rw [starEach_pl h.1]
    show (false || (backTo pos (starEach es env)).any (·.1)) = false
    rw [any_pl h.2]; rfl
theorem few_pl {pos : Pos} {env : PySem.Env} : ∀ {es : List Expr}, es.all pl = true → (backTo pos (starEach es env)).all (fun x => !x.1) = true
  | [], _ => rfl
  | e :: es, h => by
    rw [List.all_cons, Bool.and_eq_true] at h
    rw [starEach_pl h.1]
    show (true && (backTo pos (starEach es env)).all (fun x => !x.1)) = true
    rw [few_pl h.2]; rfl
/-- an index that is no slice -/
def noSl : Expr → Bool
  | .Slice .. => false
  | .Constant .. => true
  | .Name .. => true
  | .BinOp .. => true
  | .UnaryOp .. => true
  | .Call .. => true
  | .Subscript .. => true
  | _ => false
theorem noSl_ix {i : Expr} (h : noSl i = true) : PlainIx i := by cases i <;> first | (intro _ _; rfl) | cases h
/-- told by its value -/
def plainT : Expr → Bool
  | .Name .. => true
  | .Call .. => true
  | .Subscript .. => true
  | .Constant .. => true
  | _ => false
theorem plainT_is {e : Expr} {env : PySem.Env} (h : plainT e = true) : ∀ whole, isTrue e env whole = (do let v ← whole; standAt e.pos; holding [v] (truthy v)) := by cases e <;> first | (intro _; rfl) | cases h
/-- the receiver of a method -/
def noSup : Expr → Bool
  | .Call .. => false
  | _ => true
theorem noSup_base {o : Expr} {m : Str} {env : PySem.Env} {t : Sem Value} (h : noSup o = true) : attributeBase o m env t = t := by cases o <;> first | rfl | cases h
/-- what is walked -/
def noSet : Expr → Bool
  | .Set .. => false
  | _ => true
theorem noSet_is {e : Expr} {env : PySem.Env} (h : noSet e = true) : ∀ x, foldedSetIterable e env x = pure x := by cases e <;> first | (intro _; rfl) | cases h
/-! ### the table and the context -/
structure FE where
  name : Str
  ps : List Sh
  pn : List Str
  ret : Sh
  kw : List KPat
  ix : Nat
/-- a name of the builtins, a module's int -/
abbrev BN := Str × Option Int
def Fr (mg : Str → Option Value) (b : BN) : Prop := match b.2 with
  | none => mg b.1 = none
  | some i => ∃ t, mg b.1 = some (.int i t)
structure Tb where
  N : List Str
  κ : List Sh
  F : List FE
  B : List BN
def isVis (sc : Scope) (x : Str) : Bool := match sc.names.lookup x with
  | some .local => true
  | some .cell => true
  | some .free => true
  | _ => false
theorem isVis_ok {sc : Scope} {x : Str} (h : isVis sc x = true) : Vis sc x := by
  unfold isVis at h
  unfold Vis
  split at h <;> simp_all
def isLoc (own : Str → Bool) (sc : Scope) (x : Str) : Bool := match sc.names.lookup x with
  | some .local => true
  | some .cell => own x
  | _ => false
theorem isLoc_ok {own : Str → Bool} {sc : Scope} {x : Str} (h : isLoc own sc x = true) : L2.Loc sc x ∧ (own x = true ∨ sc.names.lookup x = some .local) := by
  unfold isLoc at h
  unfold L2.Loc
  split at h <;> simp_all
def isGl (sc : Scope) (x : Str) : Bool := match sc.names.lookup x with
  | some .globalImplicit => true
  | _ => false
theorem isGl_ok {X : Cx} {sc : Scope} {x : Str} (hs : X.env.scope = sc) (h : isGl sc x = true) : Gl X x := by
  unfold isGl at h
  unfold Gl Env.kindOf
  rw [hs]
  split at h <;> simp_all
structure GX (T : Tb) (Γ : Nat → Fn) (C : Ct) (sc : Scope) (own : Str → Bool) (k : Nat) (X : Cx) : Prop where
  N : X.N = T.N
  nd : T.N.Nodup
  K : X.K = C.K
  κ : C.κ = T.κ
  sc : X.env.scope = sc
  own : X.fn = own
  calm : X.calm = true
  gd : X.A.guards = some []
  room : Room k X.A
  tk : Takes X C.W
  free : ∀ b ∈ T.B, Fr X.mg b
  fns : ∀ fe ∈ T.F, ∃ f fd, X.mg fe.name = some (.ref f) ∧ PySem.W.keepIn X.K (.ref f) = true ∧ Binds X.K fd fe.pn [] ∧ (∀ kp ∈ fe.kw, KBd X.K fd fe.pn kp) ∧ FnG X.prog X.w X.K X.mg X.base (L2.CX X.prog X.w) k f fd fe.pn (spOf C.K C.EX ⟨fe.name, fe.ps, fe.ret, Γ fe.ix⟩)
abbrev Ck := Scope → (Str → Bool) → Expr → Option (Sh × Bool) × Option Bool
def isBool : Expr → Bool
  | .BoolOp .. => true
  | _ => false
structure SoX (T : Tb) (Γ : Nat → Fn) (ev : TV.Env → R D) (c : Ck) : Prop where
  e : ∀ {C : Ct} {sc : Scope} {own : Str → Bool} {k : Nat} {X : Cx} {x : Expr} {sh : Sh} {pu : Bool}, GX T Γ C sc own k X → (c sc own x).1 = some (sh, pu) → PE X x (tN C ev pu sh)
  b : ∀ {C : Ct} {sc : Scope} {own : Str → Bool} {k : Nat} {X : Cx} {x : Expr} {pu : Bool}, GX T Γ C sc own k X → (c sc own x).2 = some pu → PT X x (tBo C ev pu) ∧ (isBool x = true → PW X x (tBo C ev pu))
/-! ### from natural to the other modes -/
def toS (r : Option (Sh × Bool)) : Option Bool := match r with
  | some (sh, pu) => if sh.ok then some pu else none
  | none => none
theorem toS_eq {r : Option (Sh × Bool)} {pu : Bool} (h : toS r = some pu) : ∃ sh, r = some (sh, pu) ∧ sh.ok = true := by
  unfold toS at h
  split at h
  · split at h
    · cases h; exact ⟨_, rfl, by assumption⟩
    · cases h
  · cases h
def tst (x : Expr) (r : Option (Sh × Bool)) : Option Bool := if plainT x then toS r else none
def dfl (r : Expr → Option (Sh × Bool)) (x : Expr) : Option (Sh × Bool) × Option Bool := (r x, tst x (r x))
section
variable {T : Tb} {Γ : Nat → Fn} {C : Ct} {sc : Scope} {own : Str → Bool} {k : Nat} {X : Cx} {ev eva evb evc : TV.Env → R D} {ca cb cc : Ck}
theorem SoX.s {x : Expr} {pu : Bool} {c : Ck} (h : SoX T Γ ev c) (g : GX T Γ C sc own k X) (hc : toS (c sc own x).1 = some pu) : PE X x (tS C ev pu) := by
  obtain ⟨sh, e, ok⟩ := toS_eq hc
  exact pe_share ok (h.e g e)
/-- a check whose tests are told by values -/
theorem so_dfl {r : Scope → (Str → Bool) → Expr → Option (Sh × Bool)} (h : ∀ {C : Ct} {sc : Scope} {own : Str → Bool} {k : Nat} {X : Cx} {x : Expr} {sh : Sh} {pu : Bool}, GX T Γ C sc own k X → r sc own x = some (sh, pu) → PE X x (tN C ev pu sh)) :
    SoX T Γ ev (fun sc own x => dfl (r sc own) x) where
  e := fun {C sc own k X x sh pu} g e => h g e
  b := fun {C sc own k X x pu} g e => by
    have e : tst x (r sc own x) = some pu := e
    unfold tst at e
    split at e
    · rename_i hp
      obtain ⟨sh, e, ok⟩ := toS_eq e
      refine ⟨pt_of (pe_share ok (h g e)) (plainT_is hp), fun hb => ?_⟩
      exfalso
      cases x <;> simp_all [isBool, plainT]
    · cases e
/-- a list that is peeked: a slot, a field -/
def pkE (T : Tb) (sc : Scope) : E → Expr → Option Bool
  | .v i, x => match vName x with
    | some y => if T.N[i]? = some y ∧ T.κ[i]? = some (.l .s) ∧ isVis sc y = true ∧ (y == ("__debug__" : Str)) = false ∧ (y == ("__classdict__" : Str)) = false then some true else none
    | none => none
  | .fld i j k, x => match vSub x with
    | some (o, ix) => match vName o, vConst ix, T.κ[i]? with
      | some y, some (.str k'), some (.r ks) => if k' = k ∧ T.N[i]? = some y ∧ ks[j]? = some (k, true) ∧ (ks.map (·.1)).Nodup ∧ isVis sc y = true ∧ (y == ("__debug__" : Str)) = false ∧ (y == ("__classdict__" : Str)) = false then some true else none
      | _, _, _ => none
    | none => none
  | _, _ => none
/-- the script -/
def lkE (T : Tb) (sc : Scope) : E → Expr → Option Bool
  | .v i, x => match vName x with
    | some y => if T.N[i]? = some y ∧ T.κ[i]? = some .z ∧ isVis sc y = true ∧ (y == ("__debug__" : Str)) = false ∧ (y == ("__classdict__" : Str)) = false then some true else none
    | none => none
  | _, _ => none
theorem room_lt {k : Nat} {A : Around} (h : Room k A) : A.units + 200 < cLine := by have := h.un; omega
theorem GX.var (g : GX T Γ C sc own k X) {y : Str} {i : Nat} {p : Pos} (h1 : T.N[i]? = some y) (h2 : isVis sc y = true) (h3 : (y == ("__debug__" : Str)) = false) (h4 : (y == ("__classdict__" : Str)) = false) : PE X (.Name y p) (tVar i) :=
  pe_var (by rw [g.N]; exact h1) (by rw [g.sc]; exact isVis_ok h2) h3 h4
theorem so_pk {e : E} {x : Expr} {pu : Bool} (g : GX T Γ C sc own k X) (h : pkE T sc e x = some pu) : PE X x (tP C (evE Γ e) pu) := by
  unfold pkE at h
  split at h
  · split at h
    · rename_i hx
      split at h
      · rename_i hc
        cases h
        obtain ⟨h1, h2, h3, h4, h5⟩ := hc
        obtain ⟨p, rfl⟩ := vName_eq hx
        exact te_peek (g.var h1 h3 h4 h5) (by rw [g.κ]; exact h2)
      · cases h
    · cases h
  · split at h
    · rename_i hx
      split at h
      · rename_i hy hk hr
        split at h
        · rename_i hc
          cases h
          obtain ⟨rfl, h1, h2, h3, h4, h5, h6⟩ := hc
          obtain ⟨p, rfl⟩ := vSub_eq hx
          obtain ⟨p', rfl⟩ := vName_eq hy
          obtain ⟨j', p2, rfl⟩ := vConst_eq hk
          exact te_fldP (by have := room_lt g.room; omega) (g.var h1 h4 h5 h6) pe_str (fun _ _ => rfl) (by rw [g.κ]; exact hr) h2 h3
        · cases h
      · cases h
    · cases h
  · cases h
theorem so_lk {e : E} {x : Expr} {pu : Bool} (g : GX T Γ C sc own k X) (h : lkE T sc e x = some pu) : PE X x (tZ C (evE Γ e) pu) := by
  unfold lkE at h
  split at h
  · split at h
    · rename_i hx
      split at h
      · rename_i hc
        cases h
        obtain ⟨h1, h2, h3, h4, h5⟩ := hc
        obtain ⟨p, rfl⟩ := vName_eq hx
        exact te_look (g.var h1 h3 h4 h5) (by rw [g.κ]; exact h2)
      · cases h
    · cases h
  · cases h
def toP (T : Tb) (e : E) (c : Ck) (sc : Scope) (own : Str → Bool) (x : Expr) : Option Bool := match pkE T sc e x with
  | some pu => some pu
  | none => toS (c sc own x).1
def toZ (T : Tb) (e : E) (c : Ck) (sc : Scope) (own : Str → Bool) (x : Expr) : Option Bool := match lkE T sc e x with
  | some pu => some pu
  | none => toP T e c sc own x
theorem SoX.p {e : E} {c : Ck} {x : Expr} {pu : Bool} (h : SoX T Γ (evE Γ e) c) (g : GX T Γ C sc own k X) (hc : toP T e c sc own x = some pu) : PE X x (tP C (evE Γ e) pu) := by
  unfold toP at hc
  split at hc
  · cases hc; exact so_pk g (by assumption)
  · exact pe_peek (h.s g hc)
theorem SoX.z {e : E} {c : Ck} {x : Expr} {pu : Bool} (h : SoX T Γ (evE Γ e) c) (g : GX T Γ C sc own k X) (hc : toZ T e c sc own x = some pu) : PE X x (tZ C (evE Γ e) pu) := by
  unfold toZ at hc
  split at hc
  · cases hc; exact so_lk g (by assumption)
  · exact pe_look (h.p g hc)
/-! ### leaves -/
def okN (T : Tb) (sc : Scope) (i : Nat) (y : Str) : Bool := decide (T.N[i]? = some y) && isVis sc y && !(y == ("__debug__" : Str)) && !(y == ("__classdict__" : Str))
theorem okN_ok (g : GX T Γ C sc own k X) {i : Nat} {y : Str} {p : Pos} (h : okN T sc i y = true) : PE X (.Name y p) (tVar i) := by
  unfold okN at h
  simp only [Bool.and_eq_true, Bool.not_eq_true', decide_eq_true_eq] at h
  exact g.var h.1.1.1 h.1.1.2 h.1.2 h.2
def ckV (T : Tb) (i : Nat) : Ck := fun sc _ => dfl fun x => match vName x with
  | some y => if okN T sc i y && decide (T.κ[i]? = some .s) then some (.s, true) else none
  | none => none
theorem so_v {i : Nat} : SoX T Γ (evE Γ (.v i)) (ckV T i) := so_dfl fun {C sc own k X x sh pu} g h => by
  split at h
  · rename_i hx
    split at h
    · rename_i hc
      cases h
      simp only [Bool.and_eq_true, decide_eq_true_eq] at hc
      obtain ⟨p, rfl⟩ := vName_eq hx
      exact pe_natS (te_var (okN_ok g hc.1) (by rw [g.κ]; exact hc.2))
    · cases h
  · cases h
def ckMv (T : Tb) (i : Nat) : Ck := fun sc _ => dfl fun x => match vName x, T.κ[i]? with
  | some y, some sh => if okN T sc i y then some (sh, true) else none
  | _, _ => none
theorem so_mv {i : Nat} : SoX T Γ (evE Γ (.mv i)) (ckMv T i) := so_dfl fun {C sc own k X x sh pu} g h => by
  split at h
  · rename_i hx hk
    split at h
    · rename_i hc
      cases h
      obtain ⟨p, rfl⟩ := vName_eq hx
      exact te_move (okN_ok g hc) (by rw [g.κ]; exact hk)
    · cases h
  · cases h
def ckC (d : D) : Ck := fun _ _ => dfl fun x => match vConst x, d with
  | some (.int i), .int j => if i = j then some (.s, true) else none
  | some (.bool i), .bool j => if i = j then some (.s, true) else none
  | some (.str i), .str j => if i = j then some (.s, true) else none
  | some .none, .none => some (.s, true)
  | _, _ => none
theorem so_c {d : D} : SoX T Γ (evE Γ (.c d)) (ckC d) := so_dfl fun {C sc own k X x sh pu} g h => by
  split at h
  · rename_i hx
    split at h
    · rename_i e
      cases h; subst e
      obtain ⟨j, p, rfl⟩ := vConst_eq hx
      exact pe_natS (te_const pe_int fun _ => .int _)
    · cases h
  · rename_i hx
    split at h
    · rename_i e
      cases h; subst e
      obtain ⟨j, p, rfl⟩ := vConst_eq hx
      exact pe_natS (te_const pe_bl fun _ => .bl _)
    · cases h
  · rename_i hx
    split at h
    · rename_i e
      cases h; subst e
      obtain ⟨j, p, rfl⟩ := vConst_eq hx
      exact pe_natS (te_const pe_str fun _ => .str _)
    · cases h
  · rename_i hx
    cases h
    obtain ⟨j, p, rfl⟩ := vConst_eq hx
    exact pe_natS (te_const pe_non fun _ => .non)
  · cases h
def ckFld (T : Tb) (i j : Nat) (k : Str) : Ck := fun sc _ => dfl fun x => match vSub x with
  | some (o, ix) => match vName o, vConst ix, T.κ[i]? with
    | some y, some (.str k'), some (.r ks) => if k' = k ∧ okN T sc i y = true ∧ ks[j]? = some (k, false) ∧ (ks.map (·.1)).Nodup then some (.s, true) else none
    | _, _, _ => none
  | none => none
theorem so_fld {i j : Nat} {f : Str} : SoX T Γ (evE Γ (.fld i j f)) (ckFld T i j f) := so_dfl fun {C sc own k X x sh pu} g h => by
  split at h
  · rename_i hx
    split at h
    · rename_i hy hk hr
      split at h
      · rename_i hc
        cases h
        obtain ⟨rfl, h1, h2, h3⟩ := hc
        obtain ⟨p, rfl⟩ := vSub_eq hx
        obtain ⟨p', rfl⟩ := vName_eq hy
        obtain ⟨j', p2, rfl⟩ := vConst_eq hk
        exact pe_natS (te_fldS (by have := room_lt g.room; omega) (okN_ok g h1) pe_str (fun _ _ => rfl) (by rw [g.κ]; exact hr) h2 h3)
      · cases h
    · cases h
  · cases h
end
end TV

/-! V17: the check of operations. -/
namespace TV
open PySem PySem.Spec PyProof.Rows L2
section
variable {T : Tb} {Γ : Nat → Fn} {C : Ct} {sc : Scope} {own : Str → Bool} {k : Nat} {X : Cx} {ev eva evb evc : TV.Env → R D} {ca cb cc : Ck}
/-- a free name of the builtins -/
def okB (T : Tb) (sc : Scope) (y : Str) : Bool := isGl sc y && T.B.contains (y, none)
theorem okB_ok (g : GX T Γ C sc own k X) {y : Str} (h : okB T sc y = true) : Gl X y ∧ X.mg y = none := by
  unfold okB at h
  rw [Bool.and_eq_true] at h
  exact ⟨isGl_ok g.sc h.1, g.free (y, none) (by simpa using h.2)⟩
theorem RV1.to (g : GX T Γ C sc own k X) {sh : Sh} {f : D → Option D} {x : V} {H : Hp} {Q : VK} (h : RV1 C.K sh f x H Q) : RV1 X.K sh f x H Q := by rw [g.K]; exact h
theorem RV2.to (g : GX T Γ C sc own k X) {sh : Sh} {f : D → D → Option D} {x y : V} {H : Hp} {Q : VK} (h : RV2 C.K sh f x y H Q) : RV2 X.K sh f x y H Q := by rw [g.K]; exact h
theorem RX2.to (g : GX T Γ C sc own k X) {sh : Sh} {f : D → D → Option D} {x y : V} {H : Hp} {Q : VK} (h : RX2 C.K sh f x y H Q) : RX2 X.K sh f x y H Q := by rw [g.K]; exact h
/-! ### one operand -/
theorem pe_b1B {id : String} {f : B1} {y : Str} {p q : Pos} {a : Expr} {pu : Bool} (g : GX T Γ C sc own k X) (hc : VC1 X (.builtin id) f) (hy : okB T sc y = true) (hv : bootBuiltins y = some (.builtin id)) (hn : y ≠ "__name__") (hdb : (y == ("__debug__" : Str)) = false) (hp : pl a = true)
    (ha : PE X a (tZ C ev pu)) : PE X (.Call (.Name y p) [a] [] q) (tN C (fun ρ => (ev ρ).bind fun d ρ => R.of (b1 f d) ρ) pu f.sh) :=
  PE.imp (pe_callB hc (okB_ok g hy).1 (okB_ok g hy).2 hv (pa_cons ha pa_nil (starEach_pl hp)) hn hdb (starEach_pl hp) rfl) fun σ H Q h => rd_un (r := fun x H Q => ∃ x', [x] = [x'] ∧ RV1 X.K f.sh (b1 f) x' H Q) (fun x H Q h => ⟨x, rfl, h.to g⟩) σ H Q h
theorem pe_b1T {id : String} {f : B1} {y : Str} {p q : Pos} {a : Expr} {pu : Bool} (g : GX T Γ C sc own k X) (hc : VC1 X (.type id) f) (hy : okB T sc y = true) (hv : bootBuiltins y = some (.type id)) (hn : y ≠ "__name__") (hdb : (y == ("__debug__" : Str)) = false) (hp : pl a = true)
    (ha : PE X a (tZ C ev pu)) : PE X (.Call (.Name y p) [a] [] q) (tN C (fun ρ => (ev ρ).bind fun d ρ => R.of (b1 f d) ρ) pu f.sh) :=
  PE.imp (pe_callTy hc (okB_ok g hy).1 (okB_ok g hy).2 hv (pa_cons ha pa_nil (starEach_pl hp)) hn hdb (starEach_pl hp) rfl) fun σ H Q h => rd_un (r := fun x H Q => ∃ x', [x] = [x'] ∧ RV1 X.K f.sh (b1 f) x' H Q) (fun x H Q h => ⟨x, rfl, h.to g⟩) σ H Q h
def b1n : B1 → Option Str
  | .len => some "len"
  | .abs => some "abs"
  | .int => some "int"
  | .tup => some "tuple"
  | .lst => some "list"
  | .sum => some "sum"
  | .minL => some "min"
  | .maxL => some "max"
  | .all_ => some "all"
  | .any_ => some "any"
  | .repr => some "repr"
  | _ => none
theorem pe_b1 {f : B1} {y : Str} {p q : Pos} {a : Expr} {pu : Bool} (g : GX T Γ C sc own k X) (hf : b1n f = some y) (hy : okB T sc y = true) (hp : pl a = true) (ha : PE X a (tZ C ev pu)) :
    PE X (.Call (.Name y p) [a] [] q) (tN C (fun ρ => (ev ρ).bind fun d ρ => R.of (b1 f d) ρ) pu f.sh) := by
  have hu := room_lt g.room
  cases f <;> simp only [b1n, Option.some.injEq] at hf <;> first
    | (subst hf; first
        | exact pe_b1B g vc_len hy boot_len (by decide) (by decide) hp ha
        | exact pe_b1B g vc_abs hy rfl (by decide) (by decide) hp ha
        | exact pe_b1T g vc_int hy rfl (by decide) (by decide) hp ha
        | exact pe_b1T g vc_tup hy rfl (by decide) (by decide) hp ha
        | exact pe_b1T g vc_lst hy rfl (by decide) (by decide) hp ha
        | exact pe_b1B g (vc_sum g.calm) hy rfl (by decide) (by decide) hp ha
        | exact pe_b1B g (vc_minL g.calm) hy rfl (by decide) (by decide) hp ha
        | exact pe_b1B g (vc_maxL g.calm) hy rfl (by decide) (by decide) hp ha
        | exact pe_b1B g (vc_all g.calm) hy rfl (by decide) (by decide) hp ha
        | exact pe_b1B g (vc_any g.calm) hy rfl (by decide) (by decide) hp ha
        | exact pe_b1B g (vc_repr g.gd (by omega)) hy rfl (by decide) (by decide) hp ha)
    | cases hf
def ckB1o (T : Tb) (f : B1) (a : E) (ca : Ck) : Ck := fun sc own => dfl fun x => match f with
  | .neg => match vUn x with
    | some (.USub, a') => (toZ T a ca sc own a').map fun pu => (.s, pu)
    | _ => none
  | .rev => match vRev x with
    | some a' => (toZ T a ca sc own a').map fun pu => (.l .s, pu)
    | none => none
  | .rv2 => match vRv2 x with
    | some a' => (toZ T a ca sc own a').map fun pu => (.l .s, pu)
    | none => none
  | .lRng => match vCall x with
    | some (y, [r]) => match vCall r with
      | some (z, [a']) => if y = ("list" : Str) ∧ z = ("range" : Str) ∧ okB T sc y = true ∧ okB T sc z = true ∧ pl a' = true then (toS (ca sc own a').1).map fun pu => (.l .s, pu) else none
      | _ => none
    | _ => none
  | .tRng => match vCall x with
    | some (y, [r]) => match vCall r with
      | some (z, [a']) => if y = ("tuple" : Str) ∧ z = ("range" : Str) ∧ okB T sc y = true ∧ okB T sc z = true ∧ pl a' = true then (toS (ca sc own a').1).map fun pu => (.s, pu) else none
      | _ => none
    | _ => none
  | .setT => match vCall x with
    | some (y, [r]) => match vCall r with
      | some (z, [a']) => if y = ("sorted" : Str) ∧ z = ("set" : Str) ∧ okB T sc y = true ∧ okB T sc z = true ∧ pl a' = true then (toZ T a ca sc own a').map fun pu => (.l .s, pu) else none
      | _ => none
    | _ => none
  | .nSetL => match vCall x with
    | some (y, [r]) => match vCall r with
      | some (z, [a']) => if y = ("len" : Str) ∧ z = ("set" : Str) ∧ okB T sc y = true ∧ okB T sc z = true ∧ pl a' = true then (toZ T a ca sc own a').map fun pu => (.s, pu) else none
      | _ => none
    | _ => none
  | f => match b1n f, vCall x with
    | some y, some (z, [a']) => if z = y ∧ okB T sc y = true ∧ pl a' = true then (toZ T a ca sc own a').map fun pu => (f.sh, pu) else none
    | _, _ => none
theorem map_pu {o : Option Bool} {sh sh' : Sh} {pu : Bool} (h : (o.map fun p => (sh', p)) = some (sh, pu)) : sh' = sh ∧ o = some pu := by
  cases o with
  | none => cases h
  | some p => cases h; exact ⟨rfl, rfl⟩
theorem so_b1o {f : B1} {a : E} (h : SoX T Γ (evE Γ a) ca) : SoX T Γ (evE Γ (.b1 f a)) (ckB1o T f a ca) := so_dfl fun {C sc own k X x sh pu} g e => by
  split at e
  · split at e
    · rename_i hx
      have hs := map_pu e; clear e; obtain ⟨rfl, e⟩ := hs
      obtain ⟨p, rfl⟩ := vUn_eq hx
      exact PE.imp (pe_un un_neg (h.z g e)) (rd_un fun x H Q ⟨B, da, d, _, hd, e1, q⟩ => by
        cases da with
        | int i =>
          simp only [b1, Option.some.injEq] at e1
          subst e1
          obtain rfl := hd.int'
          exact ⟨i, rfl, q.s (by assumption) (.int _)⟩
        | _ => simp [b1] at e1)
    · cases e
  · split at e
    · rename_i hx
      have hs := map_pu e; clear e; obtain ⟨rfl, e⟩ := hs
      obtain ⟨k, p1, p2, p3, p, rfl⟩ := vRev_eq hx
      refine te_rev ?_
      rw [← g.K]
      exact pe_revL (h.z g e)
    · cases e
  · split at e
    · rename_i hx
      have hs := map_pu e; clear e; obtain ⟨rfl, e⟩ := hs
      obtain ⟨k0, q1, q2, k, p1, p2, p3, p, rfl⟩ := vRv2_eq hx
      refine te_rv2 ?_
      rw [← g.K]
      exact pe_rv2 (h.z g e)
    · cases e
  · split at e
    · rename_i hx
      split at e
      · rename_i hr
        split at e
        · rename_i hc
          have hs := map_pu e; clear e; obtain ⟨rfl, e⟩ := hs
          obtain ⟨rfl, rfl, h1, h2, h3⟩ := hc
          obtain ⟨p, q, rfl⟩ := vCall_eq hx
          obtain ⟨p', q', rfl⟩ := vCall_eq hr
          exact te_lRng (pe_listRg g.calm (okB_ok g h1).1 (okB_ok g h1).2 (prg_1 (okB_ok g h2).1 (okB_ok g h2).2 (h.s g e) (starEach_pl h3)))
        · cases e
      · cases e
    · cases e
  · split at e
    · rename_i hx
      split at e
      · rename_i hr
        split at e
        · rename_i hc
          have hs := map_pu e; clear e; obtain ⟨rfl, e⟩ := hs
          obtain ⟨rfl, rfl, h1, h2, h3⟩ := hc
          obtain ⟨p, q, rfl⟩ := vCall_eq hx
          obtain ⟨p', q', rfl⟩ := vCall_eq hr
          exact te_tRng (pe_tupRg g.calm (okB_ok g h1).1 (okB_ok g h1).2 (prg_1 (okB_ok g h2).1 (okB_ok g h2).2 (h.s g e) (starEach_pl h3)))
        · cases e
      · cases e
    · cases e
  · split at e
    · rename_i hx
      split at e
      · rename_i hr
        split at e
        · rename_i hc
          have hs := map_pu e; clear e; obtain ⟨rfl, e⟩ := hs
          obtain ⟨rfl, rfl, h1, h2, h3⟩ := hc
          obtain ⟨p, q, rfl⟩ := vCall_eq hx
          obtain ⟨p', q', rfl⟩ := vCall_eq hr
          have hu := room_lt g.room
          refine te_setT (Pg := X.prog) (w := X.w) ?_
          rw [← g.K]
          exact pe_callB (cr_sortedT g.calm) (okB_ok g h1).1 (okB_ok g h1).2 rfl (pa_cons (pe_callTy (cr_setOfT g.calm (by omega)) (okB_ok g h2).1 (okB_ok g h2).2 rfl (pa_cons (h.z g e) pa_nil (starEach_pl h3)) (by decide) (by decide) (starEach_pl h3) rfl) pa_nil) (by decide) (by decide)
        · cases e
      · cases e
    · cases e
  · split at e
    · rename_i hx
      split at e
      · rename_i hr
        split at e
        · rename_i hc
          have hs := map_pu e; clear e; obtain ⟨rfl, e⟩ := hs
          obtain ⟨rfl, rfl, h1, h2, h3⟩ := hc
          obtain ⟨p, q, rfl⟩ := vCall_eq hx
          obtain ⟨p', q', rfl⟩ := vCall_eq hr
          have hu := room_lt g.room
          refine te_nSetL (w := X.w) ?_
          rw [← g.K]
          exact pe_callB cr_lenN (okB_ok g h1).1 (okB_ok g h1).2 rfl (pa_cons (pe_callTy (cr_setN g.calm (by omega)) (okB_ok g h2).1 (okB_ok g h2).2 rfl (pa_cons (h.z g e) pa_nil (starEach_pl h3)) (by decide) (by decide) (starEach_pl h3) rfl) pa_nil) (by decide) (by decide)
        · cases e
      · cases e
    · cases e
  · split at e
    · rename_i hn hx
      split at e
      · rename_i hc
        have hs := map_pu e; clear e; obtain ⟨rfl, e⟩ := hs
        obtain ⟨rfl, h1, h2⟩ := hc
        obtain ⟨p, q, rfl⟩ := vCall_eq hx
        exact pe_b1 g hn h1 h2 (h.z g e)
      · cases e
    · cases e
/-! ### two operands -/
def opB : B2 → Option Operator
  | .add => some .Add
  | .addL => some .Add
  | .mulL => some .Mult
  | .sub => some .Sub
  | .mul => some .Mult
  | .fdiv => some .FloorDiv
  | .mod => some .Mod
  | .pow => some .Pow
  | _ => none
def opC : B2 → Option CmpOp
  | .eq => some .Eq
  | .ne => some .NotEq
  | .lt => some .Lt
  | .le => some .LtE
  | .gt => some .Gt
  | .ge => some .GtE
  | .is_ => some .Is
  | .isnt => some .IsNot
  | .in_ => some .In
  | .nin => some .NotIn
  | _ => none
/-- no set display -/
def nset : Expr → Bool
  | .Set .. => false
  | _ => true
theorem nset_ok {e : Expr} {op : CmpOp} (h : nset e = true) : behindInMarks op e = false := by cases e <;> first | rfl | cases h
theorem vo_bin {f : B2} {op : Operator} (h : opB f = some op) (h1 : f ≠ .add) (h2 : f ≠ .addL) (h3 : f ≠ .mulL) : VO2 X (binaryOp op) f := by
  cases f <;> simp only [opB, Option.some.injEq, reduceCtorEq] at h <;> first
    | (subst h; first | exact vo_sub | exact vo_mul | exact vo_fdiv | exact vo_mod | exact vo_pow | exact absurd rfl h1 | exact absurd rfl h2 | exact absurd rfl h3)
    | cases h
theorem vo_cmp {f : B2} {op : CmpOp} (hu : X.A.units + 65 < cLine) (h : opC f = some op) : VO2 X (compareOp op) f := by
  cases f <;> simp only [opC, Option.some.injEq, reduceCtorEq] at h <;> first
    | (subst h; first | exact vo_eq (by omega) | exact vo_ne (by omega) | exact vo_in hu | exact vo_nin hu | exact vo_lt (by omega) | exact vo_le (by omega) | exact vo_gt | exact vo_ge | exact vo_is | exact vo_isnt)
    | cases h
theorem opC_sh {f : B2} {op : CmpOp} (h : opC f = some op) : f.sh = .s := by
  cases f <;> simp only [opC, Option.some.injEq, reduceCtorEq] at h <;> first
    | (subst h; rfl)
    | cases h
def prZ (T : Tb) (a b : E) (ca cb : Ck) (sc : Scope) (own : Str → Bool) (a' b' : Expr) : Option Bool := match toZ T b cb sc own b' with
  | some true => toZ T a ca sc own a'
  | some false => (toS (ca sc own a').1).map fun _ => false
  | none => none
def prP (T : Tb) (a b : E) (ca cb : Ck) (sc : Scope) (own : Str → Bool) (a' b' : Expr) : Option Bool := match toP T b cb sc own b' with
  | some true => toP T a ca sc own a'
  | some false => (toS (ca sc own a').1).map fun _ => false
  | none => none
theorem so_prZ {a b : E} {a' b' : Expr} {pu : Bool} (ha : SoX T Γ (evE Γ a) ca) (hb : SoX T Γ (evE Γ b) cb) (g : GX T Γ C sc own k X) (h : prZ T a b ca cb sc own a' b' = some pu) {f : D → D → Option D} {sh : Sh} {r : R2} (hr : ∀ x y H Q, RV2 C.K sh f x y H Q → r x y H Q) :
    ∃ ta tb, PE X a' ta ∧ PE X b' tb ∧ ∀ σ H Q, tN C (fun ρ => (evE Γ a ρ).bind fun x ρ => (evE Γ b ρ).bind fun y ρ => R.of (f x y) ρ) pu sh σ H Q → tOp r ta tb σ H Q := by
  unfold prZ at h
  split at h
  · exact ⟨_, _, ha.z g h, hb.z g (by assumption), rd_binP hr⟩
  · cases e : toS (ca sc own a').1 with
    | none => rw [e] at h; cases h
    | some p =>
      rw [e] at h
      cases h
      refine ⟨_, _, ha.s g e, hb.z g (by assumption), fun σ H Q q => rd_binS hr σ H Q ?_⟩
      rw [Bool.and_false]
      exact q
  · cases h
theorem so_prP {a b : E} {a' b' : Expr} {pu : Bool} (ha : SoX T Γ (evE Γ a) ca) (hb : SoX T Γ (evE Γ b) cb) (g : GX T Γ C sc own k X) (h : prP T a b ca cb sc own a' b' = some pu) {f : D → D → Option D} {sh : Sh} {r : R2} (hr : ∀ x y H Q, RX2 C.K sh f x y H Q → r x y H Q) :
    ∃ ta tb, PE X a' ta ∧ PE X b' tb ∧ ∀ σ H Q, tN C (fun ρ => (evE Γ a ρ).bind fun x ρ => (evE Γ b ρ).bind fun y ρ => R.of (f x y) ρ) pu sh σ H Q → tOp r ta tb σ H Q := by
  unfold prP at h
  split at h
  · exact ⟨_, _, ha.p g h, hb.p g (by assumption), rd_addP hr⟩
  · cases e : toS (ca sc own a').1 with
    | none => rw [e] at h; cases h
    | some p =>
      rw [e] at h
      cases h
      refine ⟨_, _, ha.s g e, hb.p g (by assumption), fun σ H Q q => rd_addS hr σ H Q ?_⟩
      rw [Bool.and_false]
      exact q
  · cases h
/-- a slice's parts -/
def prSl (T : Tb) (a b : E) (ca cb : Ck) (sc : Scope) (own : Str → Bool) (a' b' : Expr) : Option Bool := match toS (cb sc own b').1 with
  | some true => toZ T a ca sc own a'
  | _ => none
def two (f : Bool → Bool → α) : Option Bool → Option Bool → Option α
  | some a, some b => some (f a b)
  | _, _ => none
theorem two_eq {α : Type} {f : Bool → Bool → α} {a b : Option Bool} {r : α} (h : two f a b = some r) : ∃ x y, a = some x ∧ b = some y ∧ r = f x y := by
  cases a <;> cases b <;> simp [two] at h
  exact ⟨_, _, rfl, rfl, h.symm⟩
def eB2 (T : Tb) (f : B2) (a b : E) (ca cb : Ck) (sc : Scope) (own : Str → Bool) (x : Expr) : Option (Sh × Bool) := match opB f with
  | some op => match vBin x with
    | some (op', a', b') => if op' = op then (if f = .add ∨ f = .addL ∨ f = .mulL then (prP T a b ca cb sc own a' b').map fun pu => (f.sh, pu) else (prZ T a b ca cb sc own a' b').map fun pu => (f.sh, pu)) else none
    | none => none
  | none => match opC f with
    | some op => match vCmp x with
      | some (op', a', b') => if op' = op ∧ nset b' = true then (prZ T a b ca cb sc own a' b').map fun pu => (.s, pu) else none
      | none => none
    | none => match f with
      | .idx => match vSub x with
        | some (a', b') => if noSl b' then (prZ T a b ca cb sc own a' b').map fun pu => (.s, pu) else none
        | none => none
      | .slU => match vSlU x with
        | some (a', b') => (prSl T a b ca cb sc own a' b').map fun pu => (.s, pu)
        | none => none
      | .slL => match vSlL x with
        | some (a', b') => (prSl T a b ca cb sc own a' b').map fun pu => (.s, pu)
        | none => none
      | .slUL => match vSlU x with
        | some (a', b') => (prSl T a b ca cb sc own a' b').map fun pu => (.l .s, pu)
        | none => none
      | .slLL => match vSlL x with
        | some (a', b') => (prSl T a b ca cb sc own a' b').map fun pu => (.l .s, pu)
        | none => none
      | .min2 => match vCall x with
        | some (y, [a', b']) => if y = ("min" : Str) ∧ okB T sc y = true ∧ pl a' = true ∧ pl b' = true then (prZ T a b ca cb sc own a' b').map fun pu => (.s, pu) else none
        | _ => none
      | .max2 => match vCall x with
        | some (y, [a', b']) => if y = ("max" : Str) ∧ okB T sc y = true ∧ pl a' = true ∧ pl b' = true then (prZ T a b ca cb sc own a' b').map fun pu => (.s, pu) else none
        | _ => none
      | .zipL => match vCall x with
        | some (y, [r]) => match vCall r with
          | some (z, [a', b']) => if y = ("list" : Str) ∧ z = ("zip" : Str) ∧ okB T sc y = true ∧ okB T sc z = true ∧ pl a' = true ∧ pl b' = true then (two (· && ·) (toS (ca sc own a').1) (toS (cb sc own b').1)).map fun pu => (.l .s, pu) else none
          | _ => none
        | _ => none
      | _ => none
theorem pe_slU {a b : E} {a' b' : Expr} {p q : Pos} {pu : Bool} {f : B2} {gd : D → Option Int → Option Int → Option D} {sh : Sh} (ha : SoX T Γ (evE Γ a) ca) (hb : SoX T Γ (evE Γ b) cb) (g : GX T Γ C sc own k X) (h : prSl T a b ca cb sc own a' b' = some pu) (hr : SlR X (RS X.K sh gd))
    (hg : ∀ da db d, b2 f da db = some d → ∃ i, db = .int i ∧ gd da none (some i) = some d) : PE X (.Subscript a' (.Slice none (some b') none p) q) (tN C (fun ρ => (evE Γ a ρ).bind fun x ρ => (evE Γ b ρ).bind fun y ρ => R.of (b2 f x y) ρ) pu sh) := by
  unfold prSl at h
  split at h
  · refine te_sl (up := true) ?_ hg
    rw [← g.K]
    exact pe_slice hr (ha.z g h) po_none (po_some (hb.s g (by assumption)))
  · cases h
theorem pe_slL {a b : E} {a' b' : Expr} {p q : Pos} {pu : Bool} {f : B2} {gd : D → Option Int → Option Int → Option D} {sh : Sh} (ha : SoX T Γ (evE Γ a) ca) (hb : SoX T Γ (evE Γ b) cb) (g : GX T Γ C sc own k X) (h : prSl T a b ca cb sc own a' b' = some pu) (hr : SlR X (RS X.K sh gd))
    (hg : ∀ da db d, b2 f da db = some d → ∃ i, db = .int i ∧ gd da (some i) none = some d) : PE X (.Subscript a' (.Slice (some b') none none p) q) (tN C (fun ρ => (evE Γ a ρ).bind fun x ρ => (evE Γ b ρ).bind fun y ρ => R.of (b2 f x y) ρ) pu sh) := by
  unfold prSl at h
  split at h
  · refine te_sl (up := false) ?_ hg
    rw [← g.K]
    exact pe_slice hr (ha.z g h) (po_some (hb.s g (by assumption))) po_none
  · cases h
theorem eB2_ok {f : B2} {a b : E} {x : Expr} {sh : Sh} {pu : Bool} (ha : SoX T Γ (evE Γ a) ca) (hb : SoX T Γ (evE Γ b) cb) (g : GX T Γ C sc own k X) (e : eB2 T f a b ca cb sc own x = some (sh, pu)) : PE X x (tN C (evE Γ (.b2 f a b)) pu sh) := by
  have hu := room_lt g.room
  unfold eB2 at e
  split at e
  · rename_i hop
    split at e
    · rename_i hx
      split at e
      · rename_i ho
        subst ho
        obtain ⟨p, rfl⟩ := vBin_eq hx
        split at e
        · rename_i hf
          have hs := map_pu e; clear e; obtain ⟨rfl, e⟩ := hs
          rcases hf with rfl | rfl | rfl
          · obtain rfl := Option.some.inj hop
            obtain ⟨ta, tb, h1, h2, h3⟩ := so_prP ha hb g e (f := b2 .add) (sh := .s) (r := RX2 X.K .s (b2 .add)) fun x y H Q h => h.to g
            exact PE.imp (pe_op vo_add h1 h2) h3
          · obtain rfl := Option.some.inj hop
            obtain ⟨ta, tb, h1, h2, h3⟩ := so_prP ha hb g e (f := b2 .addL) (sh := .l .s) (r := RX2 X.K (.l .s) (b2 .addL)) fun x y H Q h => h.to g
            exact PE.imp (pe_op vo_addL h1 h2) h3
          · obtain rfl := Option.some.inj hop
            obtain ⟨ta, tb, h1, h2, h3⟩ := so_prP ha hb g e (f := b2 .mulL) (sh := .l .s) (r := RX2 X.K (.l .s) (b2 .mulL)) fun x y H Q h => h.to g
            exact PE.imp (pe_op vo_mulL h1 h2) h3
        · rename_i hf
          have hs := map_pu e; clear e; obtain ⟨rfl, e⟩ := hs
          obtain ⟨ta, tb, h1, h2, h3⟩ := so_prZ ha hb g e (f := b2 f) (sh := f.sh) (r := RV2 X.K f.sh (b2 f)) fun x y H Q h => h.to g
          exact PE.imp (pe_op (vo_bin hop (fun z => hf (.inl z)) (fun z => hf (.inr (.inl z))) (fun z => hf (.inr (.inr z)))) h1 h2) h3
      · cases e
    · cases e
  · split at e
    · rename_i hop
      split at e
      · rename_i hx
        split at e
        · rename_i ho
          obtain ⟨rfl, hn⟩ := ho
          obtain ⟨p, rfl⟩ := vCmp_eq hx
          have hs := map_pu e; clear e; obtain ⟨rfl, e⟩ := hs
          have s1 := opC_sh hop
          obtain ⟨ta, tb, h1, h2, h3⟩ := so_prZ ha hb g e (f := b2 f) (sh := f.sh) (r := RV2 X.K f.sh (b2 f)) fun x y H Q h => h.to g
          rw [s1] at h3
          exact PE.imp (pe_cmpR (vo_cmp (by omega) hop) h1 h2 (nset_ok hn)) (by rw [s1]; exact h3)
        · cases e
      · cases e
    · split at e
      · split at e
        · rename_i hx
          split at e
          · rename_i hi
            have hs := map_pu e; clear e; obtain ⟨rfl, e⟩ := hs
            obtain ⟨p, rfl⟩ := vSub_eq hx
            obtain ⟨ta, tb, h1, h2, h3⟩ := so_prZ ha hb g e (f := b2 .idx) (sh := .s) (r := RV2 X.K .s (b2 .idx)) fun x y H Q h => h.to g
            exact PE.imp (pe_ix vi_idx h1 h2 (noSl_ix hi)) h3
          · cases e
        · cases e
      · split at e
        · rename_i hx
          have hs := map_pu e; clear e; obtain ⟨rfl, e⟩ := hs
          obtain ⟨p, q, rfl⟩ := vSlU_eq hx
          refine pe_slU ha hb g e vs_sl fun da db d h => ?_
          cases da <;> cases db <;> simp only [b2, reduceCtorEq] at h <;> first | exact ⟨_, rfl, h⟩ | cases h
        · cases e
      · split at e
        · rename_i hx
          have hs := map_pu e; clear e; obtain ⟨rfl, e⟩ := hs
          obtain ⟨p, q, rfl⟩ := vSlL_eq hx
          refine pe_slL ha hb g e vs_sl fun da db d h => ?_
          cases da <;> cases db <;> simp only [b2, reduceCtorEq] at h <;> first | exact ⟨_, rfl, h⟩ | cases h
        · cases e
      · split at e
        · rename_i hx
          have hs := map_pu e; clear e; obtain ⟨rfl, e⟩ := hs
          obtain ⟨p, q, rfl⟩ := vSlU_eq hx
          refine pe_slU ha hb g e vs_slL fun da db d h => ?_
          cases da <;> cases db <;> simp only [b2, reduceCtorEq] at h <;> first | exact ⟨_, rfl, h⟩ | cases h
        · cases e
      · split at e
        · rename_i hx
          have hs := map_pu e; clear e; obtain ⟨rfl, e⟩ := hs
          obtain ⟨p, q, rfl⟩ := vSlL_eq hx
          refine pe_slL ha hb g e vs_slL fun da db d h => ?_
          cases da <;> cases db <;> simp only [b2, reduceCtorEq] at h <;> first | exact ⟨_, rfl, h⟩ | cases h
        · cases e
      · split at e
        · rename_i hx
          split at e
          · rename_i hc
            have hs := map_pu e; clear e; obtain ⟨rfl, e⟩ := hs
            obtain ⟨rfl, c1, c2, c3⟩ := hc
            obtain ⟨p, q, rfl⟩ := vCall_eq hx
            obtain ⟨ta, tb, h1, h2, h3⟩ := so_prZ ha hb g e (f := b2 .min2) (sh := .s) (r := fun x y H Q => ∃ x' y', [x, y] = [x', y'] ∧ RV2 X.K .s (b2 .min2) x' y' H Q) fun x y H Q h => ⟨x, y, rfl, h.to g⟩
            exact PE.imp (pe_callB (vc_min2 g.calm) (okB_ok g c1).1 (okB_ok g c1).2 rfl (pa_cons h1 (pa_cons h2 pa_nil (starEach_pl c3)) (starEach_pl c2)) (by decide) (by decide) (starEach_pl c2) (any_pl (by simp [c3]))) h3
          · cases e
        · cases e
      · split at e
        · rename_i hx
          split at e
          · rename_i hc
            have hs := map_pu e; clear e; obtain ⟨rfl, e⟩ := hs
            obtain ⟨rfl, c1, c2, c3⟩ := hc
            obtain ⟨p, q, rfl⟩ := vCall_eq hx
            obtain ⟨ta, tb, h1, h2, h3⟩ := so_prZ ha hb g e (f := b2 .max2) (sh := .s) (r := fun x y H Q => ∃ x' y', [x, y] = [x', y'] ∧ RV2 X.K .s (b2 .max2) x' y' H Q) fun x y H Q h => ⟨x, y, rfl, h.to g⟩
            exact PE.imp (pe_callB (vc_max2 g.calm) (okB_ok g c1).1 (okB_ok g c1).2 rfl (pa_cons h1 (pa_cons h2 pa_nil (starEach_pl c3)) (starEach_pl c2)) (by decide) (by decide) (starEach_pl c2) (any_pl (by simp [c3]))) h3
          · cases e
        · cases e
      · split at e
        · rename_i hx
          split at e
          · rename_i hr
            split at e
            · rename_i hc
              have hs := map_pu e; clear e; obtain ⟨rfl, e⟩ := hs
              obtain ⟨rfl, rfl, c1, c2, c3, c4⟩ := hc
              obtain ⟨p, q, rfl⟩ := vCall_eq hx
              obtain ⟨p', q', rfl⟩ := vCall_eq hr
              obtain ⟨pa, pb, e1, e2, rfl⟩ := two_eq e
              refine te_lZip ?_
              rw [← g.K]
              exact pe_lz g.calm (okB_ok g c1).1 (okB_ok g c1).2 (okB_ok g c2).1 (okB_ok g c2).2 (pa_cons (ha.s g e1) (pa_cons (hb.s g e2) pa_nil (starEach_pl c4)) (starEach_pl c3)) (starEach_pl c3) (any_pl (by simp [c4])) (starEach_pl rfl)
            · cases e
          · cases e
        · cases e
      · cases e
def ckB2 (T : Tb) (f : B2) (a b : E) (ca cb : Ck) : Ck := fun sc own x => (eB2 T f a b ca cb sc own x, match opC f with
  | some op => match vCmp x with
    | some (op', a', b') => if op' = op ∧ nset b' = true then prZ T a b ca cb sc own a' b' else none
    | none => none
  | none => tst x (eB2 T f a b ca cb sc own x))
theorem tst_ok {x : Expr} {r : Option (Sh × Bool)} {pu : Bool} (h : tst x r = some pu) (he : ∀ sh, r = some (sh, pu) → PE X x (tN C ev pu sh)) : PT X x (tBo C ev pu) ∧ (isBool x = true → PW X x (tBo C ev pu)) := by
  unfold tst at h
  split at h
  · rename_i hp
    obtain ⟨sh, e, ok⟩ := toS_eq h
    refine ⟨pt_of (pe_share ok (he sh e)) (plainT_is hp), fun hb => ?_⟩
    exfalso
    cases x <;> simp_all [isBool, plainT]
  · cases h
theorem so_b2 {f : B2} {a b : E} (ha : SoX T Γ (evE Γ a) ca) (hb : SoX T Γ (evE Γ b) cb) : SoX T Γ (evE Γ (.b2 f a b)) (ckB2 T f a b ca cb) where
  e := fun {C sc own k X x sh pu} g e => eB2_ok ha hb g e
  b := fun {C sc own k X x pu} g e => by
    unfold ckB2 at e
    dsimp only at e
    split at e
    · rename_i hop
      split at e
      · rename_i hx
        split at e
        · rename_i ho
          obtain ⟨rfl, hn⟩ := ho
          obtain ⟨p, rfl⟩ := vCmp_eq hx
          have s1 := opC_sh hop
          obtain ⟨ta, tb, h1, h2, h3⟩ := so_prZ ha hb g e (f := b2 f) (sh := f.sh) (r := RV2 X.K f.sh (b2 f)) fun x y H Q h => h.to g
          refine ⟨PT.imp (pt_cmpR (vo_cmp (by have := room_lt g.room; omega) hop) h1 h2 (nset_ok hn)) (rd_test fun σ H Q q => h3 σ H Q (rd_share (by rw [s1]; rfl) σ H Q q)), fun hb => ?_⟩
          cases hb
        · cases e
      · cases e
    · exact tst_ok e fun sh e => eB2_ok ha hb g e
/-! ### chains -/
def ckCh (T : Tb) (f h : B2) (ca cb cc : Ck) : Ck := fun sc own x => match vCh x, opC f, opC h with
  | some (op, op', a', b', c'), some o, some o' => if op = o ∧ op' = o' ∧ nset c' = true then (match toS (ca sc own a').1, toS (cb sc own b').1, toS (cc sc own c').1 with
    | some pa, some pb, some pc => (some (.s, pa && (pb && pc)), some (pa && (pb && pc)))
    | _, _, _ => (none, none)) else (none, none)
  | _, _, _ => (none, none)
theorem so_ch {f h : B2} {a b c : E} (ha : SoX T Γ (evE Γ a) ca) (hb : SoX T Γ (evE Γ b) cb) (hc : SoX T Γ (evE Γ c) cc) : SoX T Γ (evE Γ (.ch f h a b c)) (ckCh T f h ca cb cc) where
  e := fun {C sc own k X x sh pu} g e => by
    unfold ckCh at e
    split at e
    · rename_i hx h1 h2
      split at e
      · rename_i ho
        obtain ⟨rfl, rfl, hn⟩ := ho
        split at e
        · rename_i e1 e2 e3
          cases e
          obtain ⟨p, rfl⟩ := vCh_eq hx
          have s1 := opC_sh h1
          have t1 := opC_sh h2
          have hu := room_lt g.room
          exact pe_natS (PE.imp (pe_chain (vo_cmp (by omega) h1) (vo_cmp (by omega) h2) (ha.s g e1) (hb.s g e2) (hc.s g e3) (nset_ok hn)) (rd_chain s1 t1 (fun x y H Q q => q.to g) fun x y H Q q => q.to g))
        · cases e
      · cases e
    · cases e
  b := fun {C sc own k X x pu} g e => by
    unfold ckCh at e
    split at e
    · rename_i hx h1 h2
      split at e
      · rename_i ho
        obtain ⟨rfl, rfl, hn⟩ := ho
        split at e
        · rename_i e1 e2 e3
          cases e
          obtain ⟨p, rfl⟩ := vCh_eq hx
          have s1 := opC_sh h1
          have t1 := opC_sh h2
          have hu := room_lt g.room
          refine ⟨PT.imp (pt_chain (vo_cmp (by omega) h1) (vo_cmp (by omega) h2) (ha.s g e1) (hb.s g e2) (hc.s g e3) (nset_ok hn)) (rd_test (rd_chain s1 t1 (fun x y H Q q => q.to g) fun x y H Q q => q.to g)), fun hb => ?_⟩
          cases hb
        · cases e
      · cases e
    · cases e
end
end TV

/-! V18: the check of the rest of the expressions. -/
namespace TV
open PySem PySem.Spec PyProof.Rows L2
/-- a list that is walked, targets -/
def assignEach_pl {e : Expr} {es : List Expr} {env : PySem.Env} (h : pl e = true) : assignEach (e :: es) env = (false, assign e env) :: assignEach es env := by cases e <;> first | rfl | cases h
mutual
def gOf (K : PySem.W.Frag) : Tg → TG
  | .v i => gName i
  | .t ts => gTup K ts.len (gsOf K ts)
def gsOf (K : PySem.W.Frag) : Tgs → TGs
  | .nil => gNil
  | .cons t ts => gCons (gOf K t) (gsOf K ts)
end
mutual
def ckT (T : Tb) (sc : Scope) (own : Str → Bool) : Tg → Expr → Bool
  | .v i, x => match vName x with
    | some y => decide (T.N[i]? = some y) && decide (T.κ[i]? = some .s) && isLoc own sc y
    | none => false
  | .t ts, x => match vTup x with
    | some es => ckTs T sc own ts es
    | none => false
def ckTs (T : Tb) (sc : Scope) (own : Str → Bool) : Tgs → List Expr → Bool
  | .nil, [] => true
  | .cons t ts, e :: es => pl e && ckT T sc own t e && ckTs T sc own ts es
  | _, _ => false
end
section
variable {T : Tb} {Γ : Nat → Fn} {C : Ct} {sc : Scope} {own : Str → Bool} {k : Nat} {X : Cx} {ev eva evb evc : TV.Env → R D} {ca cb cc : Ck}
theorem ckTs_each : ∀ {ts : Tgs} {es : List Expr} {env : PySem.Env}, ckTs T sc own ts es = true → (assignEach es env).length = ts.len ∧ (assignEach es env).findIdx? (·.1) = none
  | .nil, [], _, _ => ⟨rfl, rfl⟩
  | .cons t ts, e :: es, env, h => by
    simp only [ckTs, Bool.and_eq_true] at h
    obtain ⟨h1, h2⟩ := ckTs_each (env := env) h.2
    rw [assignEach_pl h.1.1]
    refine ⟨by simp [h1, Tgs.len], ?_⟩
    simp [List.findIdx?_cons, h2]
  | .nil, _ :: _, _, h => by simp [ckTs] at h
  | .cons _ _, [], _, h => by simp [ckTs] at h
mutual
theorem pg_of (g : GX T Γ C sc own k X) : ∀ {t : Tg} {x : Expr}, ckT T sc own t x = true → PG X x (gOf C.K t)
  | .v i, x, h => by
    simp only [ckT] at h
    split at h
    · rename_i hx
      simp only [Bool.and_eq_true, decide_eq_true_eq] at h
      obtain ⟨p, rfl⟩ := vName_eq hx
      obtain ⟨l1, l2⟩ := isLoc_ok h.2
      simp only [gOf]
      exact pg_name (by rw [g.N]; exact g.nd) (by rw [g.N]; exact h.1.1) (by rw [g.sc]; exact l1) (by rw [g.sc, g.own]; exact l2)
    · cases h
  | .t ts, x, h => by
    simp only [ckT] at h
    split at h
    · rename_i es hx
      obtain ⟨j, p, rfl⟩ := vTup_eq hx
      obtain ⟨h1, h2⟩ := ckTs_each (env := X.env) h
      simp only [gOf]
      have z := pg_tup (pos := p) (k := j) g.calm (pgs_of g h) h1 h2
      rw [g.K] at z
      exact z
    · cases h
theorem pgs_of (g : GX T Γ C sc own k X) : ∀ {ts : Tgs} {es : List Expr}, ckTs T sc own ts es = true → PGs X es (gsOf C.K ts)
  | .nil, [], _ => by simp only [gsOf]; exact pgs_nil
  | .cons t ts, e :: es, h => by
    simp only [ckTs, Bool.and_eq_true] at h
    simp only [gsOf]
    exact pgs_cons (pg_of g h.1.2) (pgs_of g h.2) (by rw [assignEach_pl h.1.1]; rfl)
  | .nil, _ :: _, h => by simp [ckTs] at h
  | .cons _ _, [], h => by simp [ckTs] at h
end
mutual
theorem tg_of (hκ : C.κ = T.κ) : ∀ {t : Tg} {x : Expr}, ckT T sc own t x = true → TgOk C (gOf C.K t) t
  | .v i, x, h => by
    simp only [ckT] at h
    split at h
    · simp only [Bool.and_eq_true, decide_eq_true_eq] at h
      simp only [gOf]
      exact tg_v (by rw [hκ]; exact h.1.2)
    · cases h
  | .t ts, x, h => by
    simp only [ckT] at h
    split at h
    · simp only [gOf]
      exact tg_t rfl (tgs_of hκ h)
    · cases h
theorem tgs_of (hκ : C.κ = T.κ) : ∀ {ts : Tgs} {es : List Expr}, ckTs T sc own ts es = true → TgsOk C (gsOf C.K ts) ts
  | .nil, [], _ => by simp only [gsOf]; exact tgs_nil
  | .cons t ts, e :: es, h => by
    simp only [ckTs, Bool.and_eq_true] at h
    simp only [gsOf]
    exact tgs_cons (tg_of hκ h.1.2) (tgs_of hκ h.2)
  | .nil, _ :: _, h => by simp [ckTs] at h
  | .cons _ _, [], h => by simp [ckTs] at h
end
/-! ### and, or, not, if -/
def rst (op : PySem.BoolOp) (b : Expr) (r : List Expr) (p : Pos) : Expr := match r with
  | [] => b
  | _ :: _ => .BoolOp op (b :: r) p
def ckBo (o : PySem.BoolOp) (ca cb : Ck) : Ck := fun sc own x => match vBool x with
  | some (op, a', b', r, p) => if op = o then (two (fun pa pb => (.s, pa && pb)) (toS (ca sc own a').1) (toS (cb sc own (rst op b' r p)).1), two (· && ·) (ca sc own a').2 (cb sc own (rst op b' r p)).2) else (none, none)
  | none => (none, none)
theorem so_and {a b : E} (ha : SoX T Γ (evE Γ a) ca) (hb : SoX T Γ (evE Γ b) cb) : SoX T Γ (evE Γ (.and_ a b)) (ckBo .And ca cb) where
  e := fun {C sc own k X x sh pu} g e => by
    unfold ckBo at e
    split at e
    · rename_i a1 b1 r p hx
      split at e
      · rename_i ho
        subst ho
        obtain ⟨pa, pb, e1, e2, e3⟩ := two_eq e
        cases e3
        rw [vBool_eq hx]
        cases r with
        | nil => exact pe_natS (te_andV (pe_and (ha.s g e1) (pe_one (hb.s g e2))))
        | cons c r => exact pe_natS (te_andV (pe_and (ha.s g e1) (hb.s g e2)))
      · cases e
    · cases e
  b := fun {C sc own k X x pu} g e => by
    unfold ckBo at e
    split at e
    · rename_i a1 b1 r p hx
      split at e
      · rename_i ho
        subst ho
        obtain ⟨pa, pb, e1, e2, e3⟩ := two_eq e
        cases e3
        rw [vBool_eq hx]
        have w : PW X (.BoolOp .And (a1 :: b1 :: r) p) (tAnd (tBo C (evE Γ a) pa) (tBo C (evE Γ b) pb)) := by
          cases r with
          | nil => exact pw_and (ha.b g e1).1 (pw_and1 (hb.b g e2).1)
          | cons c r => exact pw_and (ha.b g e1).1 ((hb.b g e2).2 rfl)
        have w2 : PW X _ (tBo C (andD (evE Γ a) (evE Γ b)) (pa && pb)) := ⟨fun wh pins s σ H Q I q => w.run wh pins s σ H Q I (rd_and σ H Q q)⟩
        exact ⟨w2.pt, fun _ => w2⟩
      · cases e
    · cases e
theorem so_or {a b : E} (ha : SoX T Γ (evE Γ a) ca) (hb : SoX T Γ (evE Γ b) cb) : SoX T Γ (evE Γ (.or_ a b)) (ckBo .Or ca cb) where
  e := fun {C sc own k X x sh pu} g e => by
    unfold ckBo at e
    split at e
    · rename_i a1 b1 r p hx
      split at e
      · rename_i ho
        subst ho
        obtain ⟨pa, pb, e1, e2, e3⟩ := two_eq e
        cases e3
        rw [vBool_eq hx]
        cases r with
        | nil => exact pe_natS (te_orV (pe_or (ha.s g e1) (pe_one (hb.s g e2))))
        | cons c r => exact pe_natS (te_orV (pe_or (ha.s g e1) (hb.s g e2)))
      · cases e
    · cases e
  b := fun {C sc own k X x pu} g e => by
    unfold ckBo at e
    split at e
    · rename_i a1 b1 r p hx
      split at e
      · rename_i ho
        subst ho
        obtain ⟨pa, pb, e1, e2, e3⟩ := two_eq e
        cases e3
        rw [vBool_eq hx]
        have w : PW X (.BoolOp .Or (a1 :: b1 :: r) p) (tOr (tBo C (evE Γ a) pa) (tBo C (evE Γ b) pb)) := by
          cases r with
          | nil => exact pw_or (ha.b g e1).1 (pw_or1 (hb.b g e2).1)
          | cons c r => exact pw_or (ha.b g e1).1 ((hb.b g e2).2 rfl)
        have w2 : PW X _ (tBo C (orD (evE Γ a) (evE Γ b)) (pa && pb)) := ⟨fun wh pins s σ H Q I q => w.run wh pins s σ H Q I (rd_or σ H Q q)⟩
        exact ⟨w2.pt, fun _ => w2⟩
      · cases e
    · cases e
def ckNot (ca : Ck) : Ck := fun sc own x => match vUn x with
  | some (.Not, a') => ((toS (ca sc own a').1).map fun pu => (.s, pu), (ca sc own a').2)
  | _ => (none, none)
theorem so_not {a : E} (ha : SoX T Γ (evE Γ a) ca) : SoX T Γ (evE Γ (.not_ a)) (ckNot ca) where
  e := fun {C sc own k X x sh pu} g e => by
    unfold ckNot at e
    split at e
    · rename_i hx
      have hs := map_pu e; clear e; obtain ⟨rfl, e⟩ := hs
      obtain ⟨p, rfl⟩ := vUn_eq hx
      exact pe_natS (te_notV (pe_not (ha.s g e)))
    · cases e
  b := fun {C sc own k X x pu} g e => by
    unfold ckNot at e
    split at e
    · rename_i hx
      obtain ⟨p, rfl⟩ := vUn_eq hx
      exact ⟨te_not (pt_not (ha.b g e).1), fun hb => by cases hb⟩
    · cases e
def ckIf (cc ca cb : Ck) : Ck := fun sc own x => match vIf x with
  | some (c', a', b') => (match (cc sc own c').2, (ca sc own a').1, (cb sc own b').1 with
    | some pc, some (sa, pa), some (sb, pb) => if sa = sb then some (sa, pc && (pa && pb)) else if sa.ok && sb.ok then some (.s, pc && (pa && pb)) else none
    | _, _, _ => none, none)
  | none => (none, none)
theorem so_if {a b c : E} (hc : SoX T Γ (evE Γ c) cc) (ha : SoX T Γ (evE Γ a) ca) (hb : SoX T Γ (evE Γ b) cb) : SoX T Γ (evE Γ (.ite c a b)) (ckIf cc ca cb) where
  e := fun {C sc own k X x sh pu} g e => by
    unfold ckIf at e
    split at e
    · rename_i hx
      obtain ⟨p, rfl⟩ := vIf_eq hx
      dsimp only at e
      split at e
      · rename_i e1 e2 e3
        split at e
        · rename_i hs
          cases e
          subst hs
          exact te_ite (pe_ifExp (hc.b g e1).1 (ha.e g e2) (hb.e g e3))
        · split at e
          · rename_i hs
            cases e
            rw [Bool.and_eq_true] at hs
            exact te_ite (pe_ifExp (hc.b g e1).1 (pe_natS (pe_share hs.1 (ha.e g e2))) (pe_natS (pe_share hs.2 (hb.e g e3))))
          · cases e
      · cases e
    · cases e
  b := fun {C sc own k X x pu} g e => by
    unfold ckIf at e
    split at e <;> cases e
/-! ### several -/
def natTo (sh : Sh) (r : Option (Sh × Bool)) : Option Bool := match r with
  | some (sh', pu) => if sh' = sh then some pu else if sh = .s ∧ sh'.ok = true then some pu else none
  | none => none
theorem natTo_eq {sh : Sh} {r : Option (Sh × Bool)} {pu : Bool} (h : natTo sh r = some pu) : ∃ sh', r = some (sh', pu) ∧ ∀ {C : Ct} {ev : TV.Env → R D} (σ : L2.St) (H : Hp) (Q : VK), tN C ev pu sh σ H Q → tN C ev pu sh' σ H Q := by
  unfold natTo at h
  split at h
  · split at h
    · rename_i hs
      cases h; subst hs
      exact ⟨_, rfl, fun _ _ _ q => q⟩
    · split at h
      · rename_i hs
        cases h
        obtain ⟨rfl, hs⟩ := hs
        exact ⟨_, rfl, fun σ H Q q => rd_share hs σ H Q (rd_natS σ H Q q)⟩
      · cases h
  · cases h
structure CkEs where
  kw : Scope → (Str → Bool) → List Keyword → Option Bool
  nt : Scope → (Str → Bool) → List Sh → List Expr → Bool
  es : Scope → (Str → Bool) → List Expr → Option Bool
  rc : Scope → (Str → Bool) → List (Str × Bool) → List (Option Expr) → List Expr → Option Bool
structure SoEs (T : Tb) (Γ : Nat → Fn) (ev : TV.Env → R (List D)) (c : CkEs) : Prop where
  kw : ∀ {C : Ct} {sc : Scope} {own : Str → Bool} {k : Nat} {X : Cx} {kws : List Keyword} {pu : Bool}, GX T Γ C sc own k X → c.kw sc own kws = some pu → PK X kws (tEs C ev pu)
  nil : ∀ {C : Ct} {sc : Scope} {own : Str → Bool} {pu : Bool}, c.es sc own [] = some pu → ∀ σ H (Q : List V → Hp → Prop), tEs C ev pu σ H Q → Q [] H
  len : ∀ {ρ ρ' : TV.Env} {ds : List D}, ev ρ = .ok ds ρ' → ∀ {sc : Scope} {own : Str → Bool} {kws : List Keyword} {xs : List Expr}, ((c.kw sc own kws).isSome = true → ds.length = kws.length) ∧ ((c.es sc own xs).isSome = true → xs.all pl = true → ds.length = xs.length)
  nt : ∀ {C : Ct} {sc : Scope} {own : Str → Bool} {k : Nat} {X : Cx} {shs : List Sh} {xs : List Expr}, GX T Γ C sc own k X → c.nt sc own shs xs = true → ∃ t, PA X xs t ∧ ParR C shs ev t
  es : ∀ {C : Ct} {sc : Scope} {own : Str → Bool} {k : Nat} {X : Cx} {xs : List Expr} {pu : Bool}, GX T Γ C sc own k X → c.es sc own xs = some pu → PA X xs (tEs C ev pu)
  rc : ∀ {C : Ct} {sc : Scope} {own : Str → Bool} {k : Nat} {X : Cx} {ks : List (Str × Bool)} {keys : List (Option Expr)} {vals : List Expr} {pu : Bool}, GX T Γ C sc own k X → c.rc sc own ks keys vals = some pu →
    ∃ trs, RecR C ks ev pu trs ∧ (∀ pos, PPs X pos keys vals trs) ∧ keys.length = ks.length ∧ vals.length = ks.length ∧ keys.all (·.isSome) = true
def ckNil : CkEs where
  kw := fun _ _ kws => match kws with
    | [] => some true
    | _ => none
  nt := fun _ _ shs xs => match shs, xs with
    | [], [] => true
    | _, _ => false
  es := fun _ _ xs => match xs with
    | [] => some true
    | _ => none
  rc := fun _ _ ks keys vals => match ks, keys, vals with
    | [], [], [] => some true
    | _, _, _ => none
theorem PK.imp {X : Cx} {kws : List Keyword} {t t' : TA} (h : PK X kws t) (i : ∀ σ H Q, t' σ H Q → t σ H Q) : PK X kws t' := ⟨fun pos pins s σ H Q I q => h.run pos pins s σ H Q I (i σ H Q q)⟩
theorem so_nil : SoEs T Γ (evEs Γ .nil) ckNil where
  kw := fun {C sc own k X kws pu} g e => by
    unfold ckNil at e
    dsimp only at e
    split at e
    · cases e; exact PK.imp pk_nil fun σ H Q ⟨ρ, B, G, fp, r, q⟩ => q B G H fp .refl (fun _ => Same.refl _) r [] .nil
    · cases e
  nil := fun {C sc own pu} e σ H Q ⟨ρ, B, G, fp, r, q⟩ => by
    cases e
    exact q B G H fp .refl (fun _ => Same.refl _) r [] .nil
  len := fun {ρ ρ' ds} e {sc own kws xs} => by
    simp only [evEs, R.ok.injEq] at e
    obtain ⟨rfl, rfl⟩ := e
    refine ⟨fun h => ?_, fun h _ => ?_⟩
    · cases kws with
      | nil => rfl
      | cons _ _ => cases h
    · cases xs with
      | nil => rfl
      | cons _ _ => cases h
  nt := fun {C sc own k X shs xs} g e => by
    unfold ckNil at e
    dsimp only at e
    split at e
    · exact ⟨_, pa_nil, .nil⟩
    · cases e
  es := fun {C sc own k X xs pu} g e => by
    unfold ckNil at e
    dsimp only at e
    split at e
    · cases e; exact te_nil pa_nil
    · cases e
  rc := fun {C sc own k X ks keys vals pu} g e => by
    unfold ckNil at e
    dsimp only at e
    split at e
    · cases e; exact ⟨[], .nil, fun _ => pps_nil, rfl, rfl, rfl⟩
    · cases e
def vStar : Expr → Option Expr
  | .Starred e _ => some e
  | _ => none
theorem vStar_eq {x e : Expr} (h : vStar x = some e) : ∃ p, x = .Starred e p := by cases x <;> simp [vStar] at h; subst h; exact ⟨_, rfl⟩
def fSho (b : Bool) (r : Option (Sh × Bool)) : Option Bool := if b then (match r with
  | some (.l .s, pu) => some pu
  | _ => none) else toS r
theorem fSho_pe {b : Bool} {x : Expr} {pu : Bool} {c : Ck} (h : SoX T Γ ev c) (g : GX T Γ C sc own k X) (e : fSho b (c sc own x).1 = some pu) : PE X x (tN C ev pu (fSh b)) := by
  unfold fSho at e
  cases b with
  | false => exact pe_natS (h.s g (by simpa using e))
  | true =>
    simp only [if_true] at e
    split at e
    · rename_i e1
      cases e
      exact h.e g e1
    · cases e
theorem evEs_cons {a : E} {es : Es} {ρ ρ' : TV.Env} {ds : List D} (e : evEs Γ (.cons a es) ρ = .ok ds ρ') : ∃ d ρ1 r, evE Γ a ρ = .ok d ρ1 ∧ evEs Γ es ρ1 = .ok r ρ' ∧ ds = d :: r := by
  simp only [evEs] at e
  cases q : evE Γ a ρ with
  | ok d ρ1 =>
    rw [q, R.bind_ok] at e
    cases q2 : evEs Γ es ρ1 with
    | ok r ρ2 =>
      rw [q2, R.bind_ok] at e
      simp only [R.ok.injEq] at e
      obtain ⟨rfl, rfl⟩ := e
      exact ⟨_, _, _, rfl, q2, rfl⟩
    | err x ρ2 => rw [q2] at e; cases e
    | no => rw [q2] at e; cases e
  | err x ρ1 => rw [q] at e; cases e
  | no => rw [q] at e; cases e
def ckCons (ce : Ck) (cs : CkEs) : CkEs where
  kw := fun sc own kws => match kws with
    | k :: kws => two (· && ·) (toS (ce sc own k.value).1) (cs.kw sc own kws)
    | _ => none
  nt := fun sc own shs xs => match shs, xs with
    | sh :: shs, x :: xs => pl x && (natTo sh (ce sc own x).1).isSome && cs.nt sc own shs xs
    | _, _ => false
  es := fun sc own xs => match xs with
    | x :: xs => if pl x then two (· && ·) (toS (ce sc own x).1) (cs.es sc own xs) else none
    | _ => none
  rc := fun sc own ks keys vals => match ks, keys, vals with
    | (k, b) :: ks, some kx :: keys, x :: vals => if vConst kx = some (.str k) then two (· && ·) (fSho b (ce sc own x).1) (cs.rc sc own ks keys vals) else none
    | _, _, _ => none
theorem so_cons {a : E} {es : Es} {cs : CkEs} (ha : SoX T Γ (evE Γ a) ca) (hs : SoEs T Γ (evEs Γ es) cs) : SoEs T Γ (evEs Γ (.cons a es)) (ckCons ca cs) where
  kw := fun {C sc own k X kws pu} g e => by
    unfold ckCons at e
    dsimp only at e
    split at e
    · rename_i kw kws
      obtain ⟨pa, pb, e1, e2, rfl⟩ := two_eq e
      obtain ⟨nm, v, kp⟩ := kw
      exact PK.imp (pk_cons (ha.s g e1) (hs.kw g e2)) (rd_cons)
    · cases e
  nil := fun {C sc own pu} e => by cases e
  len := fun {ρ ρ' ds} e {sc own kws xs} => by
    obtain ⟨d, ρ1, r, _, e2, rfl⟩ := evEs_cons e
    refine ⟨fun h => ?_, fun h hp => ?_⟩
    · cases kws with
      | nil => cases h
      | cons kw kws =>
        obtain ⟨pu, h⟩ := Option.isSome_iff_exists.mp h
        obtain ⟨pa, pb, e1, e3, rfl⟩ := two_eq h
        have := (hs.len e2 (kws := kws) (sc := sc) (own := own) (xs := [])).1 (by rw [e3]; rfl)
        simp [this]
    · cases xs with
      | nil => cases h
      | cons x xs =>
        obtain ⟨pu, h⟩ := Option.isSome_iff_exists.mp h
        unfold ckCons at h
        dsimp only at h
        split at h
        · obtain ⟨pa, pb, e1, e3, rfl⟩ := two_eq h
          rw [List.all_cons, Bool.and_eq_true] at hp
          have := (hs.len e2 (kws := []) (sc := sc) (own := own) (xs := xs)).2 (by rw [e3]; rfl) hp.2
          simp [this]
        · cases h
  nt := fun {C sc own k X shs xs} g e => by
    unfold ckCons at e
    dsimp only at e
    split at e
    · simp only [Bool.and_eq_true] at e
      obtain ⟨⟨e1, e2⟩, e3⟩ := e
      obtain ⟨pu, e2⟩ := Option.isSome_iff_exists.mp e2
      obtain ⟨sh', e4, e5⟩ := natTo_eq e2
      obtain ⟨t, t1, t2⟩ := hs.nt g e3
      exact ⟨_, pa_cons (PE.imp (ha.e g e4) e5) t1 (starEach_pl e1), .cons t2⟩
    · cases e
  es := fun {C sc own k X xs pu} g e => by
    unfold ckCons at e
    dsimp only at e
    split at e
    · split at e
      · rename_i hp
        obtain ⟨pa, pb, e1, e2, rfl⟩ := two_eq e
        exact te_cons (pa_cons (ha.s g e1) (hs.es g e2) (starEach_pl hp))
      · cases e
    · cases e
  rc := fun {C sc own k X ks keys vals pu} g e => by
    unfold ckCons at e
    dsimp only at e
    split at e
    · split at e
      · rename_i hk
        obtain ⟨pa, pb, e1, e2, rfl⟩ := two_eq e
        obtain ⟨trs, r1, r2, r3, r4, r5⟩ := hs.rc g e2
        obtain ⟨j, p, rfl⟩ := vConst_eq hk
        exact ⟨_, .cons r1, fun pos => pps_cons pe_str (fSho_pe ha g e1) (r2 pos), by simp [r3], by simp [r4], by simpa using r5⟩
      · cases e
    · cases e
def ckStar (T : Tb) (a : E) (ce : Ck) (cs : CkEs) : CkEs where
  kw := fun _ _ _ => none
  nt := fun _ _ _ _ => false
  es := fun sc own xs => match xs with
    | x :: xs => match vStar x with
      | some y => two (· && ·) (toZ T a ce sc own y) (cs.es sc own xs)
      | none => none
    | _ => none
  rc := fun _ _ _ _ _ => none
theorem so_star {a : E} {es : Es} {cs : CkEs} (ha : SoX T Γ (evE Γ a) ca) (hs : SoEs T Γ (evEs Γ es) cs) : SoEs T Γ (evEs Γ (.star a es)) (ckStar T a ca cs) where
  kw := fun {C sc own k X kws pu} g e => by cases e
  nil := fun {C sc own pu} e => by cases e
  len := fun {ρ ρ' ds} e {sc own kws xs} => by
    refine ⟨(fun h => by cases h), fun h hp => ?_⟩
    cases xs with
    | nil => cases h
    | cons x xs =>
      unfold ckStar at h
      dsimp only at h
      split at h
      · rename_i hx
        obtain ⟨p, rfl⟩ := vStar_eq hx
        rw [List.all_cons, Bool.and_eq_true] at hp
        cases hp.1
      · cases h
  nt := fun {C sc own k X shs xs} g e => by cases e
  es := fun {C sc own k X xs pu} g e => by
    unfold ckStar at e
    dsimp only at e
    split at e
    · split at e
      · rename_i hx
        obtain ⟨pa, pb, e1, e2, rfl⟩ := two_eq e
        obtain ⟨p, rfl⟩ := vStar_eq hx
        have z := StX.pa_star (p := p) (ha.z g e1) (hs.es g e2)
        rw [g.K] at z
        exact te_star z
      · cases e
    · cases e
  rc := fun {C sc own k X ks keys vals pu} g e => by cases e
def ckTup (cs : CkEs) : Ck := fun sc own => dfl fun x => match vTup x with
  | some es => (cs.es sc own es).map fun pu => (.s, pu)
  | none => none
theorem so_tup {es : Es} {cs : CkEs} (hs : SoEs T Γ (evEs Γ es) cs) : SoX T Γ (evE Γ (.tup es)) (ckTup cs) := so_dfl fun {C sc own k X x sh pu} g e => by
  split at e
  · rename_i hx
    have h := map_pu e; clear e; obtain ⟨rfl, e⟩ := h
    obtain ⟨j, p, rfl⟩ := vTup_eq hx
    exact pe_natS (te_tup (pe_tup (hs.es g e)))
  · cases e
def ckLst (cs : CkEs) : Ck := fun sc own => dfl fun x => match vLst x with
  | some es => (cs.es sc own es).map fun pu => (.l .s, pu)
  | none => none
theorem so_lst {es : Es} {cs : CkEs} (hs : SoEs T Γ (evEs Γ es) cs) : SoX T Γ (evE Γ (.lst es)) (ckLst cs) := so_dfl fun {C sc own k X x sh pu} g e => by
  split at e
  · rename_i hx
    have h := map_pu e; clear e; obtain ⟨rfl, e⟩ := h
    obtain ⟨p, rfl⟩ := vLst_eq hx
    exact te_lst (pe_lst (hs.es g e))
  · cases e
def ckRec (ks : List (Str × Bool)) (cs : CkEs) : Ck := fun sc own => dfl fun x => match vDict x with
  | some (keys, vals) => match cs.rc sc own ks keys vals with
    | some _ => if ks.length ≤ 15 ∧ ks ≠ [] ∧ (ks.map (·.1)).Nodup then some (.r ks, false) else none
    | none => none
  | none => none
theorem so_rec {ks : List (Str × Bool)} {es : Es} {cs : CkEs} (hs : SoEs T Γ (evEs Γ es) cs) : SoX T Γ (evE Γ (.rec_ ks es)) (ckRec ks cs) := so_dfl fun {C sc own k X x sh pu} g e => by
  split at e
  · rename_i hx
    split at e
    · rename_i e1
      split at e
      · rename_i hc
        cases e
        obtain ⟨h1, h2, h3⟩ := hc
        obtain ⟨trs, r1, r2, r3, r4, r5⟩ := hs.rc g e1
        obtain ⟨p, rfl⟩ := vDict_eq hx
        exact te_rec h1 h3 r1 (pe_disp (r2 p) r5 (by rw [r3, r4]) (fun z => h2 (by rw [z] at r3; exact List.length_eq_zero_iff.mp r3.symm)) (by rw [r3]; exact h1))
      · cases e
    · cases e
  · cases e
/-! ### calls of defs -/
abbrev CkAs := Scope → (Str → Bool) → List Expr → List Sh → Option Bool
def SoAs (T : Tb) (Γ : Nat → Fn) (ev : TV.Env → R (List Ar)) (c : CkAs) : Prop :=
  ∀ {C : Ct} {sc : Scope} {own : Str → Bool} {k : Nat} {X : Cx} {xs : List Expr} {ps : List Sh} {pu : Bool}, GX T Γ C sc own k X → c sc own xs ps = some pu → PA X xs (tAs C ev pu ps)
def ckANil : CkAs := fun _ _ xs ps => match xs, ps with
  | [], [] => some true
  | _, _ => none
theorem so_anil : SoAs T Γ (evAs Γ .nil) ckANil := fun {C sc own k X xs ps pu} g e => by
  unfold ckANil at e
  split at e
  · cases e; exact ta_nil pa_nil
  · cases e
def ckAVal (ce : Ck) (cs : CkAs) : CkAs := fun sc own xs ps => match xs, ps with
  | x :: xs, .s :: ps => if pl x then two (· && ·) (toS (ce sc own x).1) (cs sc own xs ps) else none
  | _, _ => none
theorem so_aval {a : E} {es : As} {cs : CkAs} (ha : SoX T Γ (evE Γ a) ca) (hs : SoAs T Γ (evAs Γ es) cs) : SoAs T Γ (evAs Γ (.val a es)) (ckAVal ca cs) := fun {C sc own k X xs ps pu} g e => by
  unfold ckAVal at e
  split at e
  · split at e
    · rename_i hp
      obtain ⟨pa, pb, e1, e2, rfl⟩ := two_eq e
      exact ta_val (pa_cons (ha.s g e1) (hs g e2) (starEach_pl hp))
    · cases e
  · cases e
def ckAIo (T : Tb) (i : Nat) (cs : CkAs) : CkAs := fun sc own xs ps => match xs, ps with
  | x :: xs, p :: ps => match vName x with
    | some y => if okN T sc i y = true ∧ T.κ[i]? = some p ∧ p.isM = true then cs sc own xs ps else none
    | none => none
  | _, _ => none
theorem so_aio {i : Nat} {es : As} {cs : CkAs} (hs : SoAs T Γ (evAs Γ es) cs) : SoAs T Γ (evAs Γ (.io i es)) (ckAIo T i cs) := fun {C sc own k X xs ps pu} g e => by
  unfold ckAIo at e
  split at e
  · split at e
    · rename_i hx
      split at e
      · rename_i hc
        obtain ⟨h1, h2, h3⟩ := hc
        obtain ⟨p, rfl⟩ := vName_eq hx
        exact ta_io h3 (by rw [g.κ]; exact h2) (pa_cons (okN_ok g h1) (hs g e))
      · cases e
    · cases e
  · cases e
def ckAPk (T : Tb) (i : Nat) (cs : CkAs) : CkAs := fun sc own xs ps => match xs, ps with
  | x :: xs, .z :: ps => match vName x with
    | some y => if okN T sc i y = true ∧ (T.κ[i]? = some .z ∨ T.κ[i]? = some (.l .s)) then cs sc own xs ps else none
    | none => none
  | _, _ => none
theorem so_apk {i : Nat} {es : As} {cs : CkAs} (hs : SoAs T Γ (evAs Γ es) cs) : SoAs T Γ (evAs Γ (.pk i es)) (ckAPk T i cs) := fun {C sc own k X xs ps pu} g e => by
  unfold ckAPk at e
  split at e
  · split at e
    · rename_i hx
      split at e
      · rename_i hc
        obtain ⟨h1, h2⟩ := hc
        obtain ⟨p, rfl⟩ := vName_eq hx
        rcases h2 with h2 | h2
        · exact ta_pk (.inl rfl) (by rw [g.κ]; exact h2) (pa_cons (okN_ok g h1) (hs g e))
        · exact ta_pk (.inr rfl) (by rw [g.κ]; exact h2) (pa_cons (okN_ok g h1) (hs g e))
      · cases e
    · cases e
  · cases e
def ckCall (T : Tb) (f : Nat) (es : As) (cs : CkAs) : Ck := fun sc own => dfl fun x => match vCall x with
  | some (y, e :: es') => match T.F.find? (fun fe => decide (fe.name = y)) with
    | some fe => match cs sc own (e :: es') fe.ps with
      | some _ => if fe.ix = f ∧ isGl sc y = true ∧ (e :: es').all pl = true ∧ fe.ret.noz = true ∧ (rootsE es).Nodup ∧ (∀ i ∈ pksE es, i ∉ rootsE es) ∧ (y == ("__debug__" : Str)) = false then some (fe.ret, false) else none
      | none => none
    | none => none
  | _ => none
theorem so_call {f : Nat} {es : As} {cs : CkAs} (hs : SoAs T Γ (evAs Γ es) cs) : SoX T Γ (evE Γ (.call f es)) (ckCall T f es cs) := so_dfl fun {C sc own k X x sh pu} g e => by
  split at e
  · rename_i hx
    split at e
    · rename_i fe hf
      split at e
      · rename_i hc
        split at e
        · rename_i hh
          cases e
          obtain ⟨rfl, h1, h2, h3, h4, h5, h6⟩ := hh
          obtain ⟨p, q, rfl⟩ := vCall_eq hx
          obtain ⟨f, fd, k1, k2, k3, _, k4⟩ := g.fns fe (List.mem_of_find?_eq_some hf)
          have hn := List.find?_some hf
          simp only [decide_eq_true_eq] at hn
          rw [hn] at k1
          rw [List.all_cons, Bool.and_eq_true] at h2
          exact te_call (fi := ⟨fe.name, fe.ps, fe.ret, Γ fe.ix⟩) h3 h4 h5 (pe_callG (E := fun σ => WE C.W σ) k4 g.room g.gd (isGl_ok g.sc h1) k1 k2 k3 (passAt g.tk) (hs g hc) h6 (starEach_pl h2.1) (any_pl h2.2))
        · cases e
      · cases e
    · cases e
  · cases e
/-! ### by keywords -/
def vCallK : Expr → Option (Str × List Expr × List Keyword)
  | .Call (.Name f _) es (k :: ks) _ => some (f, es, k :: ks)
  | _ => none
theorem vCallK_eq {x : Expr} {f : Str} {es : List Expr} {ks : List Keyword} (h : vCallK x = some (f, es, ks)) : ∃ p q, x = .Call (.Name f p) es ks q := by
  unfold vCallK at h
  split at h
  · cases h; exact ⟨_, _, rfl⟩
  · cases h
theorem rd_esLen {evs : TV.Env → R (List D)} {pu : Bool} {n : Nat} (h : ∀ ρ ρ' ds, evs ρ = .ok ds ρ' → ds.length = n) (σ : L2.St) (H : Hp) (Q : List V → Hp → Prop) : tEs C evs pu σ H Q → tEs C evs pu σ H fun vs H1 => vs.length = n ∧ Q vs H1 := fun ⟨ρ, B, G, fp, r, q⟩ => by
  refine ⟨ρ, B, G, fp, r, ?_⟩
  cases e : evs ρ with
  | ok ds ρ' =>
    rw [e] at q
    exact fun B' G' H' fp' u p r' vs hvs => ⟨hvs.length.trans (h _ _ _ e), q B' G' H' fp' u p r' vs hvs⟩
  | err x ρ' => rw [e] at q; exact q
  | no => rw [e] at q; exact q
theorem arv_perm {B : Hp} {σ : L2.St} {vs : List V} {ds : List D} (h : DvAll C.K B vs ds) : ∀ {perm : List Nat} {ps : List Sh}, ps.length = perm.length → ps.all (fun p => decide (p = .s)) = true → ArV C.K C.κ σ B ps (permA perm ds) (perm.map fun j => vs.getD j .non)
  | [], [], _, _ => .nil
  | j :: perm, p :: ps, hl, hp => by
    rw [List.all_cons, Bool.and_eq_true, decide_eq_true_eq] at hp
    obtain ⟨rfl, hp⟩ := hp
    refine .s ?_ (arv_perm h (by simpa using hl) hp)
    show Dv C.K B (vs.getD j .non) (ds.getD j .none)
    rw [List.getD_eq_getElem?_getD, List.getD_eq_getElem?_getD]
    cases e : ds[j]? with
    | none =>
      have : vs[j]? = none := by
        rw [List.getElem?_eq_none_iff] at e ⊢
        rw [h.length]; exact e
      rw [this]; exact .non
    | some d =>
      obtain ⟨v, e2, r⟩ := h.get e
      rw [e2]; exact r
  | [], _ :: _, hl, _ => by simp at hl
  | _ :: _, [], hl, _ => by simp at hl
theorem roots_perm : ∀ {perm : List Nat} {ds : List D}, roots (permA perm ds) = [] ∧ pks (permA perm ds) = []
  | [], _ => ⟨rfl, rfl⟩
  | _ :: perm, ds => roots_perm (perm := perm) (ds := ds)
def ckCallK (T : Tb) (f : Nat) (perm : List Nat) (cs ck : CkEs) : Ck := fun sc own => dfl fun x => match vCallK x with
  | some (y, es, kws) => match T.F.find? (fun fe => decide (fe.name = y)) with
    | some fe => match cs.es sc own es, ck.kw sc own kws, fe.kw.find? (fun kp => decide (kp.n = es.length) && decide (kws.map (·.arg) = kp.ks.map some) && decide (kp.perm = perm)) with
      | some _, some _, some _ => if fe.ix = f ∧ isGl sc y = true ∧ es.all pl = true ∧ fe.ret.noz = true ∧ fe.ps.length = perm.length ∧ fe.ps.all (fun p => decide (p = .s)) = true ∧ (y == ("__debug__" : Str)) = false then some (fe.ret, false) else none
      | _, _, _ => none
    | none => none
  | _ => none
theorem kw_names {env : PySem.Env} {pos : Pos} : ∀ {kws : List Keyword} {ks : List Str}, kws.map (·.arg) = ks.map some → (backToKw pos (keywordEach kws env)).all (·.1.isSome) = true ∧ (backToKw pos (keywordEach kws env)).filterMap (·.1) = ks
  | [], [], _ => ⟨rfl, rfl⟩
  | ⟨n, v, p⟩ :: kws, k :: ks, h => by
    simp only [List.map_cons, List.cons.injEq] at h
    obtain ⟨h1, h2⟩ := kw_names (env := env) (pos := pos) h.2
    obtain ⟨rfl, _⟩ := h
    refine ⟨?_, ?_⟩
    · show (true && (backToKw pos (keywordEach kws env)).all (·.1.isSome)) = true
      rw [h1]; rfl
    · show k :: (backToKw pos (keywordEach kws env)).filterMap (·.1) = k :: ks
      rw [h2]
  | [], _ :: _, h => by simp at h
  | _ :: _, [], h => by simp at h
theorem so_callK {f : Nat} {perm : List Nat} {es ks : Es} {cs ck : CkEs} (hs : SoEs T Γ (evEs Γ es) cs) (hk : SoEs T Γ (evEs Γ ks) ck) : SoX T Γ (evE Γ (.callK f perm es ks)) (ckCallK T f perm cs ck) := so_dfl fun {C sc own k X x sh pu} g e => by
  split at e
  · rename_i hx
    split at e
    · rename_i fe hf
      split at e
      · rename_i e1 e2 e3
        split at e
        · rename_i hh
          cases e
          obtain ⟨rfl, h1, h2, h3, h4, h5, h6⟩ := hh
          obtain ⟨p, q, rfl⟩ := vCallK_eq hx
          obtain ⟨f, fd, k1, k2, _, k3, k4⟩ := g.fns fe (List.mem_of_find?_eq_some hf)
          have hn := List.find?_some hf
          simp only [decide_eq_true_eq] at hn
          rw [hn] at k1
          have hkp := List.find?_some e3
          simp only [Bool.and_eq_true, decide_eq_true_eq] at hkp
          obtain ⟨⟨n1, n2⟩, rfl⟩ := hkp
          refine PE.imp (pe_callGK (E := fun σ => WE C.W σ) k4 g.room g.gd (isGl_ok g.sc h1) k1 k2 (k3 _ (List.mem_of_find?_eq_some e3)) (passAt g.tk) (hs.es g e1) (hk.kw g e2) (fun pos => (kw_names n2).1) (fun pos => (kw_names n2).2) h6
            (fun σ H Q => rd_esLen (fun ρ ρ' ds q => by rw [n1]; exact (hs.len q (kws := [])).2 (by rw [e1]; rfl) h2) σ H Q)
            (fun σ H Q => rd_esLen (fun ρ ρ' ds q => by
              have l1 := (hk.len q (xs := []) (sc := sc) (own := own)).1 (by rw [e2]; rfl)
              have l2 := congrArg List.length n2
              simp only [List.length_map] at l2
              omega) σ H Q)
            (fun e r z => by subst z; rw [List.all_cons, Bool.and_eq_true] at h2; exact starEach_pl h2.1) (fun pos => any_pl h2) (fun z => by subst z; exact hs.nil e1)) ?_
          rintro σ H Q ⟨ρ, B, G, fp, R0, q⟩
          have q : Post C B G H σ false _ _ := q
          refine ⟨ρ, B, G, fp, R0, (q.bind (pu1 := _) (pu2 := false) (by simp)).mono fun ds B1 G1 H1 fp1 ρ1 _ _ r1 k vs hvs => ?_⟩
          refine ⟨ρ1, B1, G1, fp1, r1, (k.bind (pu1 := _) (pu2 := false) (by simp)).mono fun zs B2 G2 H2 fp2 ρ2 b2 _ r2 k ws hws => ?_⟩
          exact call_core (fi := ⟨fe.name, fe.ps, fe.ret, Γ fe.ix⟩) h3 (by rw [roots_perm.1]; exact List.nodup_nil) (fun i hi => by rw [roots_perm.2] at hi; cases hi) r2 (arv_perm ((hvs.mono b2.b).append hws) h4 h5) k
        · cases e
      · cases e
    · cases e
  · cases e
/-! isinstance, a module's int -/
def ckIsi (T : Tb) (n : String) (a : E) (ca : Ck) : Ck := fun sc own => dfl fun x => match vCall x with
  | some (y, [a', c']) => match vName c' with
    | some z => if y = ("isinstance" : Str) ∧ z = Str.ofString n ∧ okB T sc y = true ∧ okB T sc z = true ∧ pl a' = true then (toZ T a ca sc own a').map fun pu => (.s, pu) else none
    | none => none
  | _ => none
theorem isi_names {f : B1} {n : String} (hf : isTyN f = some n) : bootBuiltins (Str.ofString n) = some (.type n) ∧ Str.ofString n ≠ "__name__" ∧ (Str.ofString n == ("__debug__" : Str)) = false ∧ f.sh = .s := by
  cases f <;> simp only [isTyN, Option.some.injEq, reduceCtorEq] at hf <;> subst hf <;> exact ⟨rfl, by decide, by decide, rfl⟩
theorem so_isi {f : B1} {n : String} (hf : isTyN f = some n) {a : E} (h : SoX T Γ (evE Γ a) ca) : SoX T Γ (evE Γ (.b1 f a)) (ckIsi T n a ca) := so_dfl fun {C sc own k X x sh pu} g e => by
  split at e
  · rename_i hx
    split at e
    · rename_i hz
      split at e
      · rename_i hc
        have hs := map_pu e; clear e; obtain ⟨rfl, e⟩ := hs
        obtain ⟨rfl, rfl, c1, c2, c3⟩ := hc
        obtain ⟨p, q, rfl⟩ := vCall_eq hx
        obtain ⟨pz, rfl⟩ := vName_eq hz
        obtain ⟨n1, n2, n3, n4⟩ := isi_names hf
        have hn : PE X (.Name (Str.ofString n) pz) (tC (.ty n)) := pe_bltn (okB_ok g c2).1 (okB_ok g c2).2 n1 rfl n2 n3
        have hp : PE X (.Call (.Name "isinstance" p) [_, .Name (Str.ofString n) pz] [] q) (tCB (rIsi X.K) (L2.tCons (tZ C (evE Γ a) pu) (L2.tCons (tC (.ty n)) L2.tNil))) := pe_callB call_isi (okB_ok g c1).1 (okB_ok g c1).2 rfl (pa_cons (h.z g e) (pa_cons hn pa_nil rfl) (starEach_pl c3)) (by decide) (by decide) (starEach_pl c3) rfl
        refine PE.imp hp fun σ H Q hq => ?_
        have := rd_un (C := C) (eva := evE Γ a) (pa := pu) (g := b1 f) (sh := .s) (r := fun x H Q => rIsi X.K [x, .ty n] H Q) (fun x H Q h => ri_isi hf (by rw [← g.K] at h; exact h)) σ H Q hq
        exact this
      · cases e
    · cases e
  · cases e
def ckB1 (T : Tb) (f : B1) (a : E) (ca : Ck) : Ck := match isTyN f with
  | some n => ckIsi T n a ca
  | none => ckB1o T f a ca
theorem so_b1 {f : B1} {a : E} (h : SoX T Γ (evE Γ a) ca) : SoX T Γ (evE Γ (.b1 f a)) (ckB1 T f a ca) := by
  unfold ckB1
  split
  · rename_i hf
    exact so_isi hf h
  · exact so_b1o h
def ckGc (T : Tb) (y : Str) (d : D) : Ck := fun sc own => dfl fun x => match vName x, d with
  | some z, .int i => if z = y ∧ isGl sc z = true ∧ T.B.contains (z, some i) = true ∧ (z == ("__debug__" : Str)) = false then some (.s, true) else none
  | _, _ => none
theorem so_gc {y : Str} {d : D} : SoX T Γ (evE Γ (.gc y d)) (ckGc T y d) := so_dfl fun {C sc own k X x sh pu} g e => by
  split at e
  · rename_i hx
    split at e
    · rename_i hc
      obtain ⟨rfl, c1, c2, c3⟩ := hc
      cases e
      obtain ⟨p, rfl⟩ := vName_eq hx
      obtain ⟨t, ht⟩ := g.free _ (by simpa using c2)
      exact pe_natS (te_const (pe_glob (v := .int _) (isGl_ok g.sc c1) ht ⟨t, rfl⟩ c3) fun _ => .int _)
    · cases e
  · cases e
end
end TV

/-! V19: what is walked, comprehensions, pops; all expressions. -/
namespace TV
open PySem PySem.Spec PyProof.Rows L2
mutual
def Tg.slotsB : Tg → List Nat
  | .v i => [i]
  | .t ts => Tgs.slotsB ts
def Tgs.slotsB : Tgs → List Nat
  | .nil => []
  | .cons t ts => Tg.slotsB t ++ Tgs.slotsB ts
end
section
variable {T : Tb} {Γ : Nat → Fn} {C : Ct} {sc : Scope} {own : Str → Bool} {k : Nat} {X : Cx} {ev eva evb evc : TV.Env → R D} {ca cb cc : Ck}
abbrev CkW := Scope → (Str → Bool) → Expr → Expr → Option Bool
def SoW (T : Tb) (Γ : Nat → Fn) (ev : TV.Env → R (List D)) (c : CkW) : Prop :=
  ∀ {C : Ct} {sc : Scope} {own : Str → Bool} {k : Nat} {X : Cx} {tg x : Expr} {pu : Bool}, GX T Γ C sc own k X → c sc own tg x = some pu → PI X tg x (tW C ev pu) ∧ ∀ z, foldedSetIterable x X.env z = pure z
def ckWSeq (ca : Ck) : CkW := fun sc own _ x => if noSet x then toS (ca sc own x).1 else none
theorem so_wseq {a : E} (ha : SoX T Γ (evE Γ a) ca) : SoW T Γ (evW Γ (.seq a)) (ckWSeq ca) := fun {C sc own k X tg x pu} g e => by
  unfold ckWSeq at e
  split at e
  · rename_i hn
    refine ⟨tw_seq ?_, noSet_is hn⟩
    rw [← g.K]
    exact pi_seq (ha.s g e)
  · cases e
def ckWR1 (T : Tb) (ca : Ck) : CkW := fun sc own _ x => match vCall x with
  | some (y, [a']) => if y = ("range" : Str) ∧ okB T sc y = true ∧ pl a' = true then toS (ca sc own a').1 else none
  | _ => none
theorem so_wr1 {a : E} (ha : SoX T Γ (evE Γ a) ca) : SoW T Γ (evW Γ (.rng1 a)) (ckWR1 T ca) := fun {C sc own k X tg x pu} g e => by
  unfold ckWR1 at e
  split at e
  · rename_i hx
    split at e
    · rename_i hc
      obtain ⟨rfl, h1, h2⟩ := hc
      obtain ⟨p, q, rfl⟩ := vCall_eq hx
      exact ⟨tw_rng1 (pi_range1 (okB_ok g h1).1 (okB_ok g h1).2 (pa_cons (ha.s g e) pa_nil (starEach_pl h2)) (starEach_pl h2)), fun _ => rfl⟩
    · cases e
  · cases e
def ckWR2 (T : Tb) (ca cb : Ck) : CkW := fun sc own _ x => match vCall x with
  | some (y, [a', b']) => if y = ("range" : Str) ∧ okB T sc y = true ∧ pl a' = true ∧ pl b' = true then two (· && ·) (toS (ca sc own a').1) (toS (cb sc own b').1) else none
  | _ => none
theorem so_wr2 {a b : E} (ha : SoX T Γ (evE Γ a) ca) (hb : SoX T Γ (evE Γ b) cb) : SoW T Γ (evW Γ (.rng2 a b)) (ckWR2 T ca cb) := fun {C sc own k X tg x pu} g e => by
  unfold ckWR2 at e
  split at e
  · rename_i hx
    split at e
    · rename_i hc
      obtain ⟨rfl, h1, h2, h3⟩ := hc
      obtain ⟨pa, pb, e1, e2, rfl⟩ := two_eq e
      obtain ⟨p, q, rfl⟩ := vCall_eq hx
      exact ⟨tw_rng2 (pi_range2 (okB_ok g h1).1 (okB_ok g h1).2 (pa_cons (ha.s g e1) (pa_cons (hb.s g e2) pa_nil (starEach_pl h3)) (starEach_pl h2)) (by rw [starEach_pl h2, starEach_pl h3]; rfl) (starEach_pl h3)), fun _ => rfl⟩
    · cases e
  · cases e
def ckWR3 (T : Tb) (ca cb cc : Ck) : CkW := fun sc own _ x => match vCall x with
  | some (y, [a', b', c']) => if y = ("range" : Str) ∧ okB T sc y = true ∧ pl a' = true ∧ pl b' = true ∧ pl c' = true then two (· && ·) (toS (ca sc own a').1) (two (· && ·) (toS (cb sc own b').1) (toS (cc sc own c').1)) else none
  | _ => none
theorem so_wr3 {a b c : E} (ha : SoX T Γ (evE Γ a) ca) (hb : SoX T Γ (evE Γ b) cb) (hc : SoX T Γ (evE Γ c) cc) : SoW T Γ (evW Γ (.rng3 a b c)) (ckWR3 T ca cb cc) := fun {C sc own k X tg x pu} g e => by
  unfold ckWR3 at e
  split at e
  · rename_i hx
    split at e
    · rename_i hh
      obtain ⟨rfl, h1, h2, h3, h4⟩ := hh
      obtain ⟨pa, pq, e1, e2, rfl⟩ := two_eq e
      obtain ⟨pb, pc, e4, e5, rfl⟩ := two_eq e2
      obtain ⟨p, q, rfl⟩ := vCall_eq hx
      exact ⟨tw_rng3 (pi_range3 (okB_ok g h1).1 (okB_ok g h1).2 (pa_cons (ha.s g e1) (pa_cons (hb.s g e4) (pa_cons (hc.s g e5) pa_nil (starEach_pl h4)) (starEach_pl h3)) (starEach_pl h2)) (starEach_pl h2) (any_pl (by simp [h3, h4]))), fun _ => rfl⟩
    · cases e
  · cases e
def ckWEnum (T : Tb) (ca : Ck) : CkW := fun sc own tg x => match vCall x, vTup tg with
  | some (y, [a']), some _ => if y = ("enumerate" : Str) ∧ okB T sc y = true ∧ pl a' = true then toS (ca sc own a').1 else none
  | _, _ => none
theorem so_wenum {a : E} (ha : SoX T Γ (evE Γ a) ca) : SoW T Γ (evW Γ (.enum a)) (ckWEnum T ca) := fun {C sc own k X tg x pu} g e => by
  unfold ckWEnum at e
  split at e
  · rename_i hx ht
    split at e
    · rename_i hc
      obtain ⟨rfl, h1, h2⟩ := hc
      obtain ⟨p, q, rfl⟩ := vCall_eq hx
      obtain ⟨j, r, rfl⟩ := vTup_eq ht
      refine ⟨tw_enum ?_, fun _ => rfl⟩
      rw [← g.K]
      exact pi_enumA (okB_ok g h1).1 (okB_ok g h1).2 (pa_cons (ha.s g e) pa_nil (starEach_pl h2)) (starEach_pl h2)
    · cases e
  · cases e
def ckWZip (T : Tb) (ca cb : Ck) : CkW := fun sc own tg x => match vCall x, vTup tg with
  | some (y, [a', b']), some _ => if y = ("zip" : Str) ∧ okB T sc y = true ∧ pl a' = true ∧ pl b' = true then two (· && ·) (toS (ca sc own a').1) (toS (cb sc own b').1) else none
  | _, _ => none
theorem so_wzip {a b : E} (ha : SoX T Γ (evE Γ a) ca) (hb : SoX T Γ (evE Γ b) cb) : SoW T Γ (evW Γ (.zip a b)) (ckWZip T ca cb) := fun {C sc own k X tg x pu} g e => by
  unfold ckWZip at e
  split at e
  · rename_i hx ht
    split at e
    · rename_i hc
      obtain ⟨rfl, h1, h2, h3⟩ := hc
      obtain ⟨pa, pb, e1, e2, rfl⟩ := two_eq e
      obtain ⟨p, q, rfl⟩ := vCall_eq hx
      obtain ⟨j, r, rfl⟩ := vTup_eq ht
      refine ⟨tw_zip ?_, fun _ => rfl⟩
      rw [← g.K]
      exact RZ.pi_zipA (okB_ok g h1).1 (okB_ok g h1).2 (pa_cons (ha.s g e1) (pa_cons (hb.s g e2) pa_nil (starEach_pl h3)) (starEach_pl h2)) (starEach_pl h2) (any_pl (by simp [h3]))
    · cases e
  · cases e
/-! ### comprehensions -/
def owB (scope : Scope) : Str → Bool := fun x => scope.names.lookup x == some .cell
def owN (T : Tb) (vs : List Nat) : List (Str × Nat) := vs.map fun i => (T.N.getD i default, i)
theorem owN_snd {vs : List Nat} : (owN T vs).map (·.2) = vs := by unfold owN; simp [Function.comp_def]
theorem GX.blk (g : GX T Γ C sc own k X) (scope : Scope) (s : Shared) (H : Hp) (c : Addr) (cl : List (Str × Addr)) (fp : List Addr) : GX T Γ C.blk (relS scope sc) (owB scope) k (X.blk s H scope (compEnvC scope cl c X.env) fp) where
  N := g.N
  nd := g.nd
  K := g.K
  κ := g.κ
  sc := by
    show relS scope X.env.scope = _
    rw [g.sc]
  own := rfl
  calm := g.calm
  gd := g.gd
  room := g.room
  tk := takes0
  free := g.free
  fns := g.fns
def lcOk (T : Tb) (sc : Scope) (vs : List Nat) (tg : Tg) (scope : Scope) (tg' : Expr) : Bool := blkC T.N sc scope (owN T vs) && vs.all (fun i => decide (T.κ[i]? = some .s)) && tg.slots.all (fun j => vs.contains j) && ckT T (relS scope sc) (owB scope) tg tg'
def eLc (T : Tb) (vs : List Nat) (tg : Tg) (cw : CkW) (ce : Ck) (sc : Scope) (own : Str → Bool) (x : Expr) : Option (Sh × Bool) := match vLc x with
  | some (elt, tg', it, [], scope) => if lcOk T sc vs tg scope tg' then two (fun a b => (.l .s, a && b)) (cw sc own tg' it) (toS (ce (relS scope sc) (owB scope) elt).1) else none
  | _ => none
def eLci (T : Tb) (vs : List Nat) (tg : Tg) (cw : CkW) (cc ce : Ck) (sc : Scope) (own : Str → Bool) (x : Expr) : Option (Sh × Bool) := match vLc x with
  | some (elt, tg', it, [c'], scope) => if lcOk T sc vs tg scope tg' then two (fun a b => (.l .s, a && b)) (cw sc own tg' it) (two (· && ·) (cc (relS scope sc) (owB scope) c').2 (toS (ce (relS scope sc) (owB scope) elt).1)) else none
  | _ => none
theorem eLc_ok {vs : List Nat} {tg : Tg} {w : W} {e : E} {cw : CkW} {ce : Ck} {x : Expr} {sh : Sh} {pu : Bool} (hw : SoW T Γ (evW Γ w) cw) (he : SoX T Γ (evE Γ e) ce) (g : GX T Γ C sc own k X) (h : eLc T vs tg cw ce sc own x = some (sh, pu)) : PE X x (tN C (evE Γ (.lc vs w tg e)) pu sh) := by
  unfold eLc at h
  split at h
  · rename_i scope hx
    split at h
    · rename_i hl
      obtain ⟨pa, pb, e1, e2, e3⟩ := two_eq h
      cases e3
      obtain ⟨p, rfl⟩ := vLc_eq hx
      unfold lcOk at hl
      simp only [Bool.and_eq_true] at hl
      obtain ⟨⟨⟨l1, l2⟩, l3⟩, l4⟩ := hl
      obtain ⟨w1, w2⟩ := hw g e1
      refine te_lc (fun v hv => ?_) (fun j hj => ?_) (tg_of (C := C.blk) g.κ l4) body_all ?_
      · rw [g.κ]
        simpa using List.all_eq_true.mp l2 v hv
      · simpa using List.all_eq_true.mp l3 j hj
      · have z := pe_lc (X := X) (pos := p) (own := owN T vs) g.calm (by rw [g.N]; exact g.nd) w1 (by rw [g.N, g.sc]; exact blkOk_by l1) (fun s H c cl fp => pg_of (g.blk scope s H c cl fp) l4) (fun s H c cl fp => pts_nil) (fun s H c cl fp => he.s (g.blk scope s H c cl fp) e2) w2
        rw [owN_snd] at z
        exact z
    · cases h
  · cases h
theorem eLci_ok {vs : List Nat} {tg : Tg} {w : W} {c e : E} {cw : CkW} {ce : Ck} {x : Expr} {sh : Sh} {pu : Bool} (hw : SoW T Γ (evW Γ w) cw) (hc : SoX T Γ (evE Γ c) cc) (he : SoX T Γ (evE Γ e) ce) (g : GX T Γ C sc own k X) (h : eLci T vs tg cw cc ce sc own x = some (sh, pu)) : PE X x (tN C (evE Γ (.lci vs w tg c e)) pu sh) := by
  unfold eLci at h
  split at h
  · rename_i scope hx
    split at h
    · rename_i hl
      obtain ⟨pa, pb, e1, e2, e3⟩ := two_eq h
      cases e3
      obtain ⟨pc, pe, e4, e5, rfl⟩ := two_eq e2
      obtain ⟨p, rfl⟩ := vLc_eq hx
      unfold lcOk at hl
      simp only [Bool.and_eq_true] at hl
      obtain ⟨⟨⟨l1, l2⟩, l3⟩, l4⟩ := hl
      obtain ⟨w1, w2⟩ := hw g e1
      refine te_lc (fun v hv => ?_) (fun j hj => ?_) (tg_of (C := C.blk) g.κ l4) body_if ?_
      · rw [g.κ]
        simpa using List.all_eq_true.mp l2 v hv
      · simpa using List.all_eq_true.mp l3 j hj
      · have z := pe_lc (X := X) (pos := p) (own := owN T vs) g.calm (by rw [g.N]; exact g.nd) w1 (by rw [g.N, g.sc]; exact blkOk_by l1) (fun s H c cl fp => pg_of (g.blk scope s H c cl fp) l4) (fun s H c cl fp => pts_one (hc.b (g.blk scope s H c cl fp) e4).1) (fun s H c cl fp => he.s (g.blk scope s H c cl fp) e5) w2
        rw [owN_snd] at z
        exact z
    · cases h
  · cases h
/-! ### places -/
def ckPl (T : Tb) (sc : Scope) : Pl → Expr → Bool
  | .v i, x => match vName x with
    | some y => okN T sc i y
    | none => false
  | .f i j k, x => match vSub x with
    | some (o, ix) => match vName o with
      | some y => okN T sc i y && decide (vConst ix = some (.str k))
      | none => false
    | none => false
theorem so_pl {p : Pl} {x : Expr} (g : GX T Γ C sc own k X) (h : ckPl T sc p x = true) : PE X x (tPl p) ∧ noSup x = true := by
  have hu := room_lt g.room
  cases p with
  | v i =>
    simp only [ckPl] at h
    split at h
    · rename_i hx
      obtain ⟨p, rfl⟩ := vName_eq hx
      exact ⟨te_plV (okN_ok g h), rfl⟩
    · cases h
  | f i j f =>
    simp only [ckPl] at h
    split at h
    · rename_i hx
      split at h
      · rename_i hy
        simp only [Bool.and_eq_true, decide_eq_true_eq] at h
        obtain ⟨p, rfl⟩ := vSub_eq hx
        obtain ⟨p', rfl⟩ := vName_eq hy
        obtain ⟨j', p2, rfl⟩ := vConst_eq h.2
        exact ⟨te_plF (e := .Constant .none 0 p) (by omega) (okN_ok g h.1) pe_str (fun _ _ => rfl), rfl⟩
      · cases h
    · cases h
def ckPop (T : Tb) (p : Pl) : Ck := fun sc _ => dfl fun x => match vMeth x with
  | some (o, m, []) => if m = ("pop" : Str) ∧ ckPl T sc p o = true ∧ plOk T.κ p = true then some (.s, false) else none
  | _ => none
theorem so_pop {p : Pl} : SoX T Γ (evE Γ (.pop p)) (ckPop T p) := so_dfl fun {C sc own k X x sh pu} g e => by
  split at e
  · rename_i hx
    split at e
    · rename_i hc
      cases e
      obtain ⟨rfl, h1, h2⟩ := hc
      obtain ⟨q, r, rfl, hl⟩ := vMeth_eq hx
      obtain ⟨z1, z2⟩ := so_pl g h1
      have z := pe_bm0 PySem.F.plainAttrs_list PySem.F.slot_list_pop PySem.F.type_list_pop mt_pop z1 (noSup_base z2) hl
      rw [g.K] at z
      exact pe_natS (te_pop (by rw [g.κ]; exact h2) z)
    · cases e
  · cases e
def isVP : Pl → Bool
  | .v _ => true
  | _ => false
def ckPopAt (T : Tb) (p : Pl) (ca : Ck) : Ck := fun sc own => dfl fun x => match vMeth x with
  | some (o, m, [a']) => match toS (ca sc own a').1 with
    | some pa => if m = ("pop" : Str) ∧ ckPl T sc p o = true ∧ plOk T.κ p = true ∧ pl a' = true ∧ (p.isV = true ∨ pa = true) then some (.s, false) else none
    | none => none
  | _ => none
theorem so_popAt {p : Pl} {a : E} (ha : SoX T Γ (evE Γ a) ca) : SoX T Γ (evE Γ (.popAt p a)) (ckPopAt T p ca) := so_dfl fun {C sc own k X x sh pu} g e => by
  split at e
  · rename_i hx
    split at e
    · rename_i ea
      split at e
      · rename_i hc
        cases e
        obtain ⟨rfl, h1, h2, h3, h4⟩ := hc
        obtain ⟨q, r, rfl, hl⟩ := vMeth_eq hx
        obtain ⟨z1, z2⟩ := so_pl g h1
        have z := pe_bm PySem.F.plainAttrs_list PySem.F.slot_list_pop PySem.F.type_list_pop mt_popAt z1 (pa_cons (ha.s g ea) pa_nil (starEach_pl h3)) (noSup_base z2) (by rw [few_pl (by simp [h3])]; rfl) hl (starEach_pl h3) rfl
        rw [g.K] at z
        exact pe_natS (te_popAt (by rw [g.κ]; exact h2) h4 z)
      · cases e
    · cases e
  · cases e
/-! ### an owned list walked, a dict asked -/
def ckLcp (T : Tb) (i : Nat) (vs : List Nat) (tg : Tg) (ce : Ck) : Ck := fun sc own => dfl fun x => match vLc x with
  | some (elt, tg', it, [], scope) => match vName it, toS (ce (relS scope sc) (owB scope) elt).1 with
    | some y, some pe => if lcOk T sc vs tg scope tg' = true ∧ okN T sc i y = true ∧ T.κ[i]? = some (.l .s) then some (.l .s, pe) else none
    | _, _ => none
  | _ => none
theorem so_lcp {i : Nat} {vs : List Nat} {tg : Tg} {e : E} {ce : Ck} (he : SoX T Γ (evE Γ e) ce) : SoX T Γ (evE Γ (.lcp i vs tg e)) (ckLcp T i vs tg ce) := so_dfl fun {C sc own k X x sh pu} g h => by
  split at h
  · rename_i hx
    split at h
    · rename_i hy e2
      split at h
      · rename_i hc
        cases h
        obtain ⟨hl, h1, h2⟩ := hc
        obtain ⟨p, rfl⟩ := vLc_eq hx
        obtain ⟨q, rfl⟩ := vName_eq hy
        unfold lcOk at hl
        simp only [Bool.and_eq_true] at hl
        obtain ⟨⟨⟨l1, l2⟩, l3⟩, l4⟩ := hl
        refine te_lcp (by rw [g.κ]; exact h2) (fun v hv => ?_) (fun j hj => ?_) (tg_of (C := C.blk) g.κ l4) body_all ?_
        · rw [g.κ]
          simpa using List.all_eq_true.mp l2 v hv
        · simpa using List.all_eq_true.mp l3 j hj
        · have z := pe_lc (X := X) (pos := p) (own := owN T vs) g.calm (by rw [g.N]; exact g.nd) (pi_seq (okN_ok (p := q) g h1)) (by rw [g.N, g.sc]; exact blkOk_by l1) (fun s H c cl fp => pg_of (g.blk _ s H c cl fp) l4) (fun s H c cl fp => pts_nil) (fun s H c cl fp => he.s (g.blk _ s H c cl fp) e2) (fun _ => rfl)
          rw [owN_snd] at z
          rw [← g.K]
          exact z
      · cases h
    · cases h
  · cases h
def ckDnew : Ck := fun _ _ => dfl fun x => match vDict x with
  | some ([], []) => some (.r [], true)
  | _ => none
theorem so_dnew : SoX T Γ (evE Γ .dnew) ckDnew := so_dfl fun {C sc own k X x sh pu} g h => by
  split at h
  · rename_i hx
    cases h
    obtain ⟨p, rfl⟩ := vDict_eq hx
    exact te_dnew pe_dnewK
  · cases h
def ckAddO (T : Tb) (f : B2) (i : Nat) (b : E) (cb : Ck) : Ck := fun sc own => dfl fun x => match vBin x with
  | some (op, a', b') => match vName a', toP T b cb sc own b' with
    | some y, some pu => if op = .Add ∧ okN T sc i y = true ∧ T.κ[i]? = some (.l .s) ∧ (f = .add ∨ f = .addL) then some (f.sh, pu) else none
    | _, _ => none
  | _ => none
theorem so_addO {f : B2} {i : Nat} {b : E} {cb : Ck} (hb : SoX T Γ (evE Γ b) cb) : SoX T Γ (evE Γ (.addO f i b)) (ckAddO T f i b cb) := so_dfl fun {C sc own k X x sh pu} g h => by
  split at h
  · rename_i hx
    split at h
    · rename_i hy eb
      split at h
      · rename_i hc
        cases h
        obtain ⟨rfl, h1, h2, h3⟩ := hc
        obtain ⟨p, rfl⟩ := vBin_eq hx
        obtain ⟨q, rfl⟩ := vName_eq hy
        rcases h3 with rfl | rfl
        · exact te_addO (by rw [g.κ]; exact h2) (pe_op vo_add (okN_ok g h1) (hb.p g eb)) fun x y H Q h => h.to g
        · exact te_addO (by rw [g.κ]; exact h2) (pe_op vo_addL (okN_ok g h1) (hb.p g eb)) fun x y H Q h => h.to g
      · cases h
    · cases h
  · cases h
def ckDget (T : Tb) (i : Nat) (ca cb : Ck) : Ck := fun sc own => dfl fun x => match vMeth x with
  | some (o, m, [a', b']) => match vName o, toS (ca sc own a').1, toS (cb sc own b').1 with
    | some y, some pa, some pb => if m = ("get" : Str) ∧ okN T sc i y = true ∧ T.κ[i]? = some (.r []) ∧ pl a' = true ∧ pl b' = true then some (.s, pa && pb) else none
    | _, _, _ => none
  | _ => none
theorem so_dget {i : Nat} {a b : E} {ca cb : Ck} (ha : SoX T Γ (evE Γ a) ca) (hb : SoX T Γ (evE Γ b) cb) : SoX T Γ (evE Γ (.dget i a b)) (ckDget T i ca cb) := so_dfl fun {C sc own k X x sh pu} g h => by
  have hu := room_lt g.room
  split at h
  · rename_i hx
    split at h
    · rename_i hy e1 e2
      split at h
      · rename_i hc
        cases h
        obtain ⟨rfl, h1, h2, h3, h4⟩ := hc
        obtain ⟨q, r, rfl, hl⟩ := vMeth_eq hx
        obtain ⟨q2, rfl⟩ := vName_eq hy
        exact pe_natS (te_dget (by rw [g.κ]; exact h2) (pe_dget2 (by omega) (okN_ok g h1) (ha.s g e1) (hb.s g e2) ⟨noSup_base rfl, by rw [few_pl (by simp [h3, h4])]; rfl, hl, by rw [starEach_pl h3, starEach_pl h4]; rfl⟩))
      · cases h
    · cases h
  · cases h
end
/-! ### all -/
def ckNo : Ck := fun _ _ _ => (none, none)
def ckWNo : CkW := fun _ _ _ _ => none
mutual
def chX (T : Tb) : E → Ck
  | .v i => ckV T i
  | .mv i => ckMv T i
  | .c d => ckC d
  | .gc x d => ckGc T x d
  | .fld i j k => ckFld T i j k
  | .b1 f a => ckB1 T f a (chX T a)
  | .b2 f a b => ckB2 T f a b (chX T a) (chX T b)
  | .ch f g a b c => ckCh T f g (chX T a) (chX T b) (chX T c)
  | .and_ a b => ckBo .And (chX T a) (chX T b)
  | .or_ a b => ckBo .Or (chX T a) (chX T b)
  | .not_ a => ckNot (chX T a)
  | .ite c a b => ckIf (chX T c) (chX T a) (chX T b)
  | .tup es => ckTup (chEs T es)
  | .lst es => ckLst (chEs T es)
  | .rec_ ks es => ckRec ks (chEs T es)
  | .call f es => ckCall T f es (chAs T es)
  | .callK f perm es ks => ckCallK T f perm (chEs T es) (chEs T ks)
  | .lc vs w tg e => fun sc own => dfl (eLc T vs tg (chW T w) (chX T e) sc own)
  | .lci vs w tg c e => fun sc own => dfl (eLci T vs tg (chW T w) (chX T c) (chX T e) sc own)
  | .lcp i vs tg e => ckLcp T i vs tg (chX T e)
  | .dget i a b => ckDget T i (chX T a) (chX T b)
  | .dnew => ckDnew
  | .addO f i b => ckAddO T f i b (chX T b)
  | .pop p => ckPop T p
  | .popAt p e => ckPopAt T p (chX T e)
def chEs (T : Tb) : Es → CkEs
  | .nil => ckNil
  | .cons e es => ckCons (chX T e) (chEs T es)
  | .star e es => ckStar T e (chX T e) (chEs T es)
def chAs (T : Tb) : As → CkAs
  | .nil => ckANil
  | .val e es => ckAVal (chX T e) (chAs T es)
  | .io i es => ckAIo T i (chAs T es)
  | .pk i es => ckAPk T i (chAs T es)
def chW (T : Tb) : W → CkW
  | .seq e => ckWSeq (chX T e)
  | .rng1 e => ckWR1 T (chX T e)
  | .rng2 a b => ckWR2 T (chX T a) (chX T b)
  | .rng3 a b c => ckWR3 T (chX T a) (chX T b) (chX T c)
  | .enum e => ckWEnum T (chX T e)
  | .zip a b => ckWZip T (chX T a) (chX T b)
end
section
variable {T : Tb} {Γ : Nat → Fn}
theorem so_no {ev : TV.Env → R D} : SoX T Γ ev ckNo where
  e := fun _ h => by cases h
  b := fun _ h => by cases h
mutual
theorem soX : ∀ e : E, SoX T Γ (evE Γ e) (chX T e)
  | .v i => by unfold chX; exact so_v
  | .mv i => by unfold chX; exact so_mv
  | .c d => by unfold chX; exact so_c
  | .gc x d => by unfold chX; exact so_gc
  | .fld i j k => by unfold chX; exact so_fld
  | .b1 f a => by unfold chX; exact so_b1 (soX a)
  | .b2 f a b => by unfold chX; exact so_b2 (soX a) (soX b)
  | .ch f g a b c => by unfold chX; exact so_ch (soX a) (soX b) (soX c)
  | .and_ a b => by unfold chX; exact so_and (soX a) (soX b)
  | .or_ a b => by unfold chX; exact so_or (soX a) (soX b)
  | .not_ a => by unfold chX; exact so_not (soX a)
  | .ite c a b => by unfold chX; exact so_if (soX c) (soX a) (soX b)
  | .tup es => by unfold chX; exact so_tup (soEs es)
  | .lst es => by unfold chX; exact so_lst (soEs es)
  | .rec_ ks es => by unfold chX; exact so_rec (soEs es)
  | .call f es => by unfold chX; exact so_call (soAs es)
  | .callK f perm es ks => by unfold chX; exact so_callK (soEs es) (soEs ks)
  | .lc vs w tg e => by unfold chX; exact so_dfl fun g h => eLc_ok (soW w) (soX e) g h
  | .lci vs w tg c e => by unfold chX; exact so_dfl fun g h => eLci_ok (soW w) (soX c) (soX e) g h
  | .lcp i vs tg e => by unfold chX; exact so_lcp (soX e)
  | .dget i a b => by unfold chX; exact so_dget (soX a) (soX b)
  | .dnew => by unfold chX; exact so_dnew
  | .addO f i b => by unfold chX; exact so_addO (soX b)
  | .pop p => by unfold chX; exact so_pop
  | .popAt p e => by unfold chX; exact so_popAt (soX e)
theorem soEs : ∀ es : Es, SoEs T Γ (evEs Γ es) (chEs T es)
  | .nil => by unfold chEs; exact so_nil
  | .cons e es => by unfold chEs; exact so_cons (soX e) (soEs es)
  | .star e es => by unfold chEs; exact so_star (soX e) (soEs es)
theorem soAs : ∀ es : As, SoAs T Γ (evAs Γ es) (chAs T es)
  | .nil => by unfold chAs; exact so_anil
  | .val e es => by unfold chAs; exact so_aval (soX e) (soAs es)
  | .io i es => by unfold chAs; exact so_aio (soAs es)
  | .pk i es => by unfold chAs; exact so_apk (soAs es)
theorem soW : ∀ w : W, SoW T Γ (evW Γ w) (chW T w)
  | .seq e => by unfold chW; exact so_wseq (soX e)
  | .rng1 e => by unfold chW; exact so_wr1 (soX e)
  | .rng2 a b => by unfold chW; exact so_wr2 (soX a) (soX b)
  | .rng3 a b c => by unfold chW; exact so_wr3 (soX a) (soX b) (soX c)
  | .enum e => by unfold chW; exact so_wenum (soX e)
  | .zip a b => by unfold chW; exact so_wzip (soX a) (soX b)
end
end
end TV

/-! V20: the check of statements. -/
namespace TV
open PySem PySem.Spec PyProof.Rows L2
/-! ### what the text must show -/
def nlc : Expr → Bool
  | .ListComp .. => false
  | .SetComp .. => false
  | .DictComp .. => false
  | _ => true
theorem sw_nlc {e : Expr} {t : Option Expr} {l : Nat} {env : PySem.Env} (h : nlc e = true) : swapsWith e t l env = pure false := by cases e <;> first | rfl | cases h
def nnm : Expr → Bool
  | .Name .. => false
  | _ => true
theorem sw_nnm {e t : Expr} {l : Nat} {env : PySem.Env} (h : nnm t = true) : swapsWith e (some t) l env = pure false := by
  cases e <;> first | rfl | (cases t <;> first | rfl | cases h)
theorem sw_cell {elt : Expr} {gs : List Comprehension} {scope : Scope} {pos py : Pos} {y : Str} {l : Nat} {env : PySem.Env} (hy : env.scope.names.lookup y ≠ some .local) : swapsWith (.ListComp elt gs scope pos) (some (.Name y py)) l env = pure false := by
  have ky : (env.kindOf y == some .local) = false := by
    unfold Env.kindOf
    simpa using hy
  unfold swapsWith
  simp only [ky]
  simp
/-- swapped stores: none -/
def swNo (sc : Scope) (ts vs : List Expr) : Bool :=
  !(ts.length == 2 || ts.length == 3) || vs.length != ts.length || (vs.any fun | .Starred .. => true | _ => false) ||
  ((ts.filterMap fun
    | .Name id pos => if sc.names.lookup id == some .local && pos.line == (ts.head?.map (·.pos.line)).getD 0 then some id else none
    | _ => none).length != ts.length) || vs.all (foldedForSure 8)
theorem bk_fun {env : PySem.Env} (h : env.scope.kind = .function) : env.blockKind = .function := by unfold Env.blockKind; rw [h]; rfl
theorem sw_no {env : PySem.Env} {ts vs : List Expr} {k1 k2 : Nat} {p1 p2 : Pos} (hk : env.scope.kind = .function) (h : swNo env.scope ts vs = true) : swappedStores [.Tuple ts k1 p1] (.Tuple vs k2 p2) env = pure none := by
  have hb := bk_fun hk
  unfold swNo at h
  simp only [Bool.or_eq_true] at h
  unfold swappedStores Env.kindOf
  dsimp only
  split
  · rfl
  rename_i n1
  split
  · rfl
  rename_i n2
  split
  · rfl
  rename_i n3
  split
  · rfl
  rename_i n4
  exfalso
  rcases h with (((h | h) | h) | h) | h
  · exact n1 (by simp [h])
  · exact n1 (by simp [h])
  · exact n2 h
  · exact n3 (by
      rw [Bool.or_eq_true]
      exact .inl h)
  · exact n4 h
def swNames (sc : Scope) (ts : List Expr) : List Str := ts.filterMap fun
    | .Name id pos => if sc.names.lookup id == some .local && pos.line == (ts.head?.map (·.pos.line)).getD 0 then some id else none
    | _ => none
def swYes (sc : Scope) (ts vs : List Expr) (names : List Str) : Bool :=
  (ts.length == 2 || ts.length == 3) && vs.length == ts.length && !(vs.any fun | .Starred .. => true | _ => false) &&
  decide (swNames sc ts = names) && names.length == ts.length && names.eraseDups.length == names.length && !(vs.all (foldedForSure 8)) && !(vs.all (constantsAlone 8))
theorem sw_yes {env : PySem.Env} {ts vs : List Expr} {names : List Str} {k1 k2 : Nat} {p1 p2 : Pos} (hk : env.scope.kind = .function) (h : swYes env.scope ts vs names = true) : swappedStores [.Tuple ts k1 p1] (.Tuple vs k2 p2) env = pure (some names) := by
  have hb := bk_fun hk
  unfold swYes at h
  simp only [Bool.and_eq_true, decide_eq_true_eq, Bool.not_eq_true'] at h
  obtain ⟨⟨⟨⟨⟨⟨⟨h1, h2⟩, h3⟩, h4⟩, h5⟩, h6⟩, h7⟩, h8⟩ := h
  have key : ∀ l : List Str, l = names → ¬ ((l.length != ts.length || l.eraseDups.length != l.length) = true) := fun l e => by
    subst e
    simp at h5 h6 ⊢
    exact ⟨h5, h6⟩
  unfold swappedStores Env.kindOf
  dsimp only
  split
  · rename_i n1
    rw [h1, hb] at n1
    simp at n1 h2
    exact absurd h2 n1
  split
  · rename_i n2
    exact absurd n2 (by rw [Bool.not_eq_true]; exact h3)
  split
  · rename_i n3
    exact (key _ h4 n3).elim
  split
  · rename_i n4
    exact absurd n4 (by rw [Bool.not_eq_true]; exact h7)
  split
  · rename_i n5
    exact absurd n5 (by rw [Bool.not_eq_true]; exact h8)
  exact congrArg (fun l => pure (some l)) h4
/-! ### views -/
def sAsg : Stmt → Option (Expr × Expr × Nat)
  | .Assign [t] e p => some (t, e, p.line)
  | _ => none
theorem sAsg_eq {st : Stmt} {t e : Expr} {l : Nat} (h : sAsg st = some (t, e, l)) : ∃ p, st = .Assign [t] e p ∧ p.line = l := by
  unfold sAsg at h
  split at h
  · cases h; exact ⟨_, rfl, rfl⟩
  · cases h
def sExpr : Stmt → Option Expr
  | .Expr e _ => some e
  | _ => none
theorem sExpr_eq {st : Stmt} {e : Expr} (h : sExpr st = some e) : ∃ p, st = .Expr e p := by cases st <;> simp [sExpr] at h; subst h; exact ⟨_, rfl⟩
def sRet : Stmt → Option (Option Expr)
  | .Return e _ => some e
  | _ => none
theorem sRet_eq {st : Stmt} {e : Option Expr} (h : sRet st = some e) : ∃ p, st = .Return e p := by cases st <;> simp [sRet] at h; subst h; exact ⟨_, rfl⟩
def sIf : Stmt → Option (Expr × List Stmt × List Stmt)
  | .If c a b _ => some (c, a, b)
  | _ => none
theorem sIf_eq {st : Stmt} {c : Expr} {a b : List Stmt} (h : sIf st = some (c, a, b)) : ∃ p, st = .If c a b p := by cases st <;> simp [sIf] at h; obtain ⟨rfl, rfl, rfl⟩ := h; exact ⟨_, rfl⟩
def sFor : Stmt → Option (Expr × Expr × List Stmt)
  | .For t i b [] _ => some (t, i, b)
  | _ => none
theorem sFor_eq {st : Stmt} {t i : Expr} {b : List Stmt} (h : sFor st = some (t, i, b)) : ∃ p, st = .For t i b [] p := by
  unfold sFor at h
  split at h
  · cases h; exact ⟨_, rfl⟩
  · cases h
def sWhl : Stmt → Option (Expr × List Stmt)
  | .While c b [] _ => some (c, b)
  | _ => none
theorem sWhl_eq {st : Stmt} {c : Expr} {b : List Stmt} (h : sWhl st = some (c, b)) : ∃ p, st = .While c b [] p := by
  unfold sWhl at h
  split at h
  · cases h; exact ⟨_, rfl⟩
  · cases h
/-! ### the context of a body -/
structure GS (T : Tb) (Γ : Nat → Fn) (rt : Sh) (fx : List Nat) (C : Ct) (sc : Scope) (k : Nat) (X : Cx) : Prop where
  x : GX T Γ C sc (fun _ => true) k X
  po : PassesOwn (model X.prog X.w) X.A X.env X.xe
  ret : C.ret = rt
  fix : ∀ p ∈ C.fix, p.1 ∈ fx
  kind : sc.kind = .function
abbrev CkS := Scope → Stmt → Bool
abbrev CkSs := Scope → List Stmt → Bool
def SoS (T : Tb) (Γ : Nat → Fn) (rt : Sh) (fx : List Nat) (ex : TV.Env → Fl) (c : CkS) : Prop := ∀ {C : Ct} {sc : Scope} {k : Nat} {X : Cx} {st : Stmt}, GS T Γ rt fx C sc k X → c sc st = true → PS X st (tX C ex)
def SoSs (T : Tb) (Γ : Nat → Fn) (rt : Sh) (fx : List Nat) (ex : TV.Env → Fl) (c : CkSs) : Prop := ∀ {C : Ct} {sc : Scope} {k : Nat} {X : Cx} {sts : List Stmt}, GS T Γ rt fx C sc k X → c sc sts = true → PSs X sts (tX C ex)
section
variable {T : Tb} {Γ : Nat → Fn} {rt : Sh} {fx : List Nat} {C : Ct} {sc : Scope} {own : Str → Bool} {k : Nat} {X : Cx} {ev eva evb evc : TV.Env → R D} {ca cb cc : Ck} {exa exb : TV.Env → Fl} {sa sb : CkSs}
theorem SoX.n {x : Expr} {pu : Bool} {sh : Sh} {c : Ck} (h : SoX T Γ ev c) (g : GX T Γ C sc own k X) (hc : natTo sh (c sc own x).1 = some pu) : PE X x (tN C ev pu sh) := by
  obtain ⟨sh', e4, e5⟩ := natTo_eq hc
  exact PE.imp (h.e g e4) e5
/-- x = [.. for ..] on one line -/
def lcT1 (T : Tb) (e : E) (sc : Scope) (x : Expr) : Option (Sh × Bool) := match e with
  | .lc vs w tg e2 => eLc T vs tg (chW T w) (chX T e2) sc (fun _ => true) x
  | .lci vs w tg c e2 => eLci T vs tg (chW T w) (chX T c) (chX T e2) sc (fun _ => true) x
  | _ => none
def lcScope : Expr → Option (Scope × Nat)
  | .ListComp _ _ s p => some (s, p.line)
  | _ => none
def lcFree (y : Str) (l : Nat) (x : Expr) : Bool := match lcScope x with
  | some (s, l') => l == l' && !(s.names.any fun (n, k) => n == y && (k == .local || k == .cell))
  | none => false
theorem setLc_ok {e : E} {x : Expr} {y : Str} {py spos : Pos} {i : Nat} {sh : Sh} {pu : Bool} (g : GX T Γ C sc (fun _ => true) k X) (hk : sc.kind = .function) (hy : T.N[i]? = some y) (hl : sc.names.lookup y = some .local) (hf : lcFree y py.line x = true) (h : lcT1 T e sc x = some (sh, pu)) :
    PS X (.Assign [.Name y py] x spos) (tAsg (tN C (evE Γ e) pu sh) (gName i)) := by
  have sw : ∀ {elt : Expr} {gs : List Comprehension} {scope : Scope} {pos : Pos} {l : Nat}, lcFree y py.line (.ListComp elt gs scope pos) = true → swapsWith (.ListComp elt gs scope pos) (some (.Name y py)) l X.env = pure true := fun {elt gs scope pos l} h => by
    unfold lcFree lcScope at h
    simp only [Bool.and_eq_true, Bool.not_eq_true'] at h
    exact sw_true (by rw [g.sc]; exact hk) (by rw [g.sc]; exact hl) h.1 h.2
  unfold lcT1 at h
  split at h
  · rename_i vs w tg e2
    unfold eLc at h
    split at h
    · rename_i scope hx
      split at h
      · rename_i hl'
        obtain ⟨pa, pb, e1, e2', e3⟩ := two_eq h
        cases e3
        obtain ⟨p, rfl⟩ := vLc_eq hx
        unfold lcOk at hl'
        simp only [Bool.and_eq_true] at hl'
        obtain ⟨⟨⟨l1, l2⟩, l3⟩, l4⟩ := hl'
        obtain ⟨w1, w2⟩ := soW (Γ := Γ) w g e1
        have z := ps_setLc (X := X) (i := i) (y := y) (py := py) (pos := p) (spos := spos) (own := owN T vs) g.calm (by rw [g.N]; exact g.nd) (by rw [g.N]; exact hy) (by rw [g.sc]; exact hl) (sw hf) w1 (by rw [g.N, g.sc]; exact blkOk_by l1) (fun s H c cl fp => pg_of (g.blk scope s H c cl fp) l4) (fun s H c cl fp => pts_nil) (fun s H c cl fp => (soX (Γ := Γ) e2).s (g.blk scope s H c cl fp) e2') w2
        rw [owN_snd] at z
        exact PS.imp z fun D σ H q => rd_lc (fun v hv => by rw [g.κ]; simpa using List.all_eq_true.mp l2 v hv) (fun j hj => by simpa using List.all_eq_true.mp l3 j hj) (tg_of (C := C.blk) g.κ l4) body_all σ H _ q
      · cases h
    · cases h
  · rename_i vs w tg c e2
    unfold eLci at h
    split at h
    · rename_i scope hx
      split at h
      · rename_i hl'
        obtain ⟨pa, pb, e1, e2', e3⟩ := two_eq h
        cases e3
        obtain ⟨pc, pe, e4, e5, rfl⟩ := two_eq e2'
        obtain ⟨p, rfl⟩ := vLc_eq hx
        unfold lcOk at hl'
        simp only [Bool.and_eq_true] at hl'
        obtain ⟨⟨⟨l1, l2⟩, l3⟩, l4⟩ := hl'
        obtain ⟨w1, w2⟩ := soW (Γ := Γ) w g e1
        have z := ps_setLc (X := X) (i := i) (y := y) (py := py) (pos := p) (spos := spos) (own := owN T vs) g.calm (by rw [g.N]; exact g.nd) (by rw [g.N]; exact hy) (by rw [g.sc]; exact hl) (sw hf) w1 (by rw [g.N, g.sc]; exact blkOk_by l1) (fun s H c cl fp => pg_of (g.blk scope s H c cl fp) l4) (fun s H cC cl fp => pts_one ((soX (Γ := Γ) c).b (g.blk scope s H cC cl fp) e4).1) (fun s H c cl fp => (soX (Γ := Γ) e2).s (g.blk scope s H c cl fp) e5) w2
        rw [owN_snd] at z
        exact PS.imp z fun D σ H q => rd_lc (fun v hv => by rw [g.κ]; simpa using List.all_eq_true.mp l2 v hv) (fun j hj => by simpa using List.all_eq_true.mp l3 j hj) (tg_of (C := C.blk) g.κ l4) body_if σ H _ q
      · cases h
    · cases h
  · cases h
def ckAsgV (T : Tb) (fx : List Nat) (i : Nat) (e : E) : CkS := fun sc st => match sAsg st with
  | some (.Name y py, x, l) => match T.κ[i]? with
    | some sh => decide (T.N[i]? = some y) && isLoc (fun _ => true) sc y && !(fx.contains i) &&
      (if nlc x || (decide (sc.names.lookup y ≠ some .local) && (lcScope x).isSome) then (natTo sh (chX T e sc (fun _ => true) x).1).isSome else decide (sc.names.lookup y = some .local) && lcFree y py.line x && (natTo sh (lcT1 T e sc x)).isSome)
    | none => false
  | _ => false
theorem lcScope_eq {x : Expr} (h : (lcScope x).isSome = true) : ∃ elt gs s p, x = .ListComp elt gs s p := by cases x <;> simp [lcScope] at h; exact ⟨_, _, _, _, rfl⟩
theorem so_asgV {i : Nat} {e : E} : SoS T Γ rt fx (exS Γ (.asg (.v i) e)) (ckAsgV T fx i e) := fun {C sc k X st} g h => by
  unfold ckAsgV at h
  split at h
  · rename_i y py x l hx
    split at h
    · rename_i sh hk
      simp only [Bool.and_eq_true, decide_eq_true_eq, Bool.not_eq_true'] at h
      obtain ⟨⟨⟨h1, h2⟩, h3⟩, h4⟩ := h
      obtain ⟨p, rfl, rfl⟩ := sAsg_eq hx
      obtain ⟨l1, l2⟩ := isLoc_ok h2
      have hf : ∀ q ∈ C.fix, q.1 ≠ i := fun q hq z => by
        have := g.fix q hq
        rw [z] at this
        simp [this] at h3
      split at h4
      · rename_i hc
        obtain ⟨pu, h4⟩ := Option.isSome_iff_exists.mp h4
        refine tx_set hf (by rw [g.x.κ]; exact hk) (ps_set (by rw [g.x.N]; exact g.x.nd) (by rw [g.x.N]; exact h1) (by rw [g.x.sc]; exact l1) ((soX e).n g.x h4) ?_ (by rw [g.x.sc, g.x.own]; exact l2))
        simp only [Bool.or_eq_true, Bool.and_eq_true, decide_eq_true_eq] at hc
        rcases hc with hc | ⟨hc, hd⟩
        · exact sw_nlc hc
        · obtain ⟨elt, gs, s, p', rfl⟩ := lcScope_eq hd
          exact sw_cell (by rw [g.x.sc]; exact hc)
      · simp only [Bool.and_eq_true, decide_eq_true_eq] at h4
        obtain ⟨⟨h5, h6⟩, h7⟩ := h4
        obtain ⟨pu, h7⟩ := Option.isSome_iff_exists.mp h7
        obtain ⟨sh', e4, e5⟩ := natTo_eq h7
        exact tx_set hf (by rw [g.x.κ]; exact hk) (PS.imp (setLc_ok g.x g.kind h1 h5 h6 e4) fun D σ H q => e5 σ H _ q)
    · cases h
  · cases h
def ckAsgT (T : Tb) (fx : List Nat) (ts : Tgs) (e : E) : CkS := fun sc st => match sAsg st with
  | some (t, x, _) => nnm t && ckT T sc (fun _ => true) (.t ts) t && (Tg.t ts).slots.all (fun j => !(fx.contains j)) && (toS (chX T e sc (fun _ => true) x).1).isSome && (match t, x with
    | .Tuple es _ _, .Tuple vs _ _ => swNo sc es vs
    | .Tuple _ _ _, _ => true
    | _, _ => false)
  | none => false
theorem so_asgT {ts : Tgs} {e : E} : SoS T Γ rt fx (exS Γ (.asg (.t ts) e)) (ckAsgT T fx ts e) := fun {C sc k X st} g h => by
  unfold ckAsgT at h
  split at h
  · rename_i t x l hx
    simp only [Bool.and_eq_true] at h
    obtain ⟨⟨⟨⟨h1, h2⟩, h3⟩, h4⟩, h5⟩ := h
    obtain ⟨p, rfl, rfl⟩ := sAsg_eq hx
    obtain ⟨pu, h4⟩ := Option.isSome_iff_exists.mp h4
    have hf : ∀ q ∈ C.fix, q.1 ∉ (Tg.t ts).slots := fun q hq z => by
      have := List.all_eq_true.mp h3 _ z
      have h := g.fix q hq
      simp [h] at this
    refine tx_asg hf (tg_of g.x.κ h2) (ps_asg ((soX e).s g.x h4) (pg_of g.x h2) (sw_nnm h1) ?_ ?_)
    · split at h5
      · exact sw_no (by rw [g.x.sc]; exact g.kind) (by rw [g.x.sc]; exact h5)
      · rename_i es k1 p1 hne
        unfold swappedStores
        cases x <;> first | rfl | exact absurd rfl (hne _ _ _)
      · cases h5
    · rw [assignEach_pl (by cases t <;> first | rfl | (simp [ckT, vTup] at h2))]
      rfl
  · cases h
theorem parN {σ : L2.St} : ∀ (is : List Nat) (vs : List V), (is.zip vs).foldl (fun s q => s.set q.1 (some q.2)) σ = (is.zip vs).foldl (fun s q => s.set q.1 (some q.2)) σ := fun _ _ => rfl
def ckPar (T : Tb) (fx : List Nat) (is : List Nat) (es : Es) : CkS := fun sc st => match sAsg st with
  | some (.Tuple ts _ _, .Tuple vs _ _, _) => match is.mapM (fun i => T.κ[i]?), is.mapM (fun i => T.N[i]?) with
    | some shs, some names => swYes sc ts vs names && decide (ts.map vName = names.map some) && names.all (fun y => decide (sc.names.lookup y = some .local)) && decide is.Nodup && is.all (fun j => !(fx.contains j)) && (chEs T es).nt sc (fun _ => true) shs vs
    | _, _ => false
  | _ => false
theorem mapM_some {α β : Type} {f : α → Option β} : ∀ {l : List α} {r : List β}, l.mapM f = some r → l.map f = r.map some
  | [], r, h => by simp at h; subst h; rfl
  | a :: l, r, h => by
    rw [List.mapM_cons] at h
    cases e1 : f a with
    | none => rw [e1] at h; cases h
    | some b =>
      rw [e1] at h
      cases e2 : l.mapM f with
      | none => rw [e2] at h; cases h
      | some r' =>
        rw [e2] at h
        cases h
        simp [e1, mapM_some e2]
end
end TV

/-! V21: the check of a body. -/
namespace TV
open PySem PySem.Spec PyProof.Rows L2
section
variable {T : Tb} {Γ : Nat → Fn} {rt : Sh} {fx : List Nat} {C : Ct} {sc : Scope} {own : Str → Bool} {k : Nat} {X : Cx} {ev eva evb evc : TV.Env → R D} {ca cb cc : Ck} {exa exb : TV.Env → Fl} {sa sb : CkSs}
theorem fx_no (g : GS T Γ rt fx C sc k X) {is : List Nat} (h : is.all (fun j => !(fx.contains j)) = true) : ∀ q ∈ C.fix, q.1 ∉ is := fun q hq z => by
  have := List.all_eq_true.mp h _ z
  have h := g.fix q hq
  simp [h] at this
theorem par_mono {shs : List Sh} {evs : TV.Env → R (List D)} {t : TA} (h : ParR C shs evs t) : ∀ {σ : L2.St} {H : Hp} {P P' : List V → Hp → Prop}, t σ H P → (∀ vs H1, vs.length = shs.length → P vs H1 → P' vs H1) → t σ H P' := by
  induction h with
  | nil => exact fun {σ H P P'} q i => i [] H rfl q
  | cons _ ih => exact fun {σ H P P'} ⟨ρ, B, G, fp, r, q⟩ i => ⟨ρ, B, G, fp, r, q.mono fun d B' G' H' fp' ρ' _ _ _ k v as ow nd out => ih (k v as ow nd out) fun vs H1 hl p => i (v :: vs) H1 (by simp [hl]) p⟩
theorem so_par {is : List Nat} {es : Es} : SoS T Γ rt fx (exS Γ (.par is es)) (ckPar T fx is es) := fun {C sc k X st} g h => by
  unfold ckPar at h
  split at h
  · rename_i ts k1 p1 vs k2 p2 l hx
    split at h
    · rename_i shs names hs hn
      simp only [Bool.and_eq_true, decide_eq_true_eq] at h
      obtain ⟨⟨⟨⟨⟨h1, h2⟩, h3⟩, h4⟩, h5⟩, h6⟩ := h
      obtain ⟨p, rfl, rfl⟩ := sAsg_eq hx
      obtain ⟨t, t1, t2⟩ := (soEs (Γ := Γ) es).nt g.x h6
      have hs := mapM_some hs
      have hn := mapM_some hn
      have sy := sw_yes (env := X.env) (k1 := k1) (p1 := p1) (k2 := k2) (p2 := p2) (by rw [g.x.sc]; exact g.kind) (by rw [g.x.sc]; exact h1)
      have lens : ts.length = names.length := by simpa using congrArg List.length h2
      have len2 : is.length = names.length := by simpa using congrArg List.length hn
      have loc : ∀ y ∈ names, X.env.scope.names.lookup y = some .local := fun y hy => by
        rw [g.x.sc]
        simpa using List.all_eq_true.mp h3 y hy
      unfold swYes at h1
      simp only [Bool.and_eq_true] at h1
      obtain ⟨⟨⟨⟨⟨⟨⟨l1, l2⟩, _⟩, _⟩, _⟩, _⟩, _⟩, _⟩ := h1
      simp only [Bool.or_eq_true, beq_iff_eq] at l1 l2
      refine tx_par (shs := shs) (fx_no g h5) (by rw [g.x.κ]; exact hs) t2 ?_
      rcases l1 with l1 | l1
      · match ts, names, is, vs, lens, len2, l1, l2, h2, hn with
        | [a, b], [x, y], [i, j], [u, v], _, _, _, _, h2, hn =>
          simp only [List.map_cons, List.map_nil, List.cons.injEq, and_true] at h2 hn
          obtain ⟨pa, rfl⟩ := vName_eq h2.1
          obtain ⟨pb, rfl⟩ := vName_eq h2.2
          have hij : i ≠ j := fun z => by subst z; simp at h4
          refine PS.imp (ps_par g.x.calm (by rw [g.x.N]; exact g.x.nd) (by rw [g.x.N]; exact hn.1) (by rw [g.x.N]; exact hn.2) hij (loc x (by simp)) (loc y (by simp)) t1 sy rfl) fun D σ H q => ?_
          refine par_mono t2 q fun vs H1 hl p => ?_
          have hl : vs.length = 2 := by
            have := congrArg List.length hs
            simp at this
            omega
          match vs, hl with
          | [v, w], _ => exact ⟨v, w, rfl, p rfl rfl⟩
      · match ts, names, is, vs, lens, len2, l1, l2, h2, hn with
        | [a, b, c], [x, y, z], [i, j, m], [u, v, w], _, _, _, _, h2, hn =>
          simp only [List.map_cons, List.map_nil, List.cons.injEq, and_true] at h2 hn
          obtain ⟨pa, rfl⟩ := vName_eq h2.1
          obtain ⟨pb, rfl⟩ := vName_eq h2.2.1
          obtain ⟨pc, rfl⟩ := vName_eq h2.2.2
          have hnd := h4
          simp only [List.nodup_cons, List.mem_cons, List.not_mem_nil, or_false, not_or] at hnd
          refine PS.imp (ps_par3 g.x.calm (by rw [g.x.N]; exact g.x.nd) (by rw [g.x.N]; exact hn.1) (by rw [g.x.N]; exact hn.2.1) (by rw [g.x.N]; exact hn.2.2) hnd.1.1 hnd.1.2 hnd.2.1 (loc x (by simp)) (loc y (by simp)) (loc z (by simp)) t1 sy rfl) fun D σ H q => ?_
          refine par_mono t2 q fun vs H1 hl p => ?_
          have hl : vs.length = 3 := by
            have := congrArg List.length hs
            simp at this
            omega
          match vs, hl with
          | [v, w, u], _ => exact ⟨v, w, u, rfl, p rfl rfl⟩
    · cases h
  · cases h
/-! two names by way of a tuple (names of comprehensions among them) -/
theorem Rel.more {K : PySem.W.Frag} {κ : List Sh} {Z B G H H' : Hp} {ρ : TV.Env} {σ : L2.St} {fp : Nat → List Addr} (r : Rel K κ Z B G H ρ σ fp) (e : Same H H') : Rel K κ Z B G H' ρ σ fp where
  bg := r.bg
  gh := r.gh.trans e
  zg := r.zg
  len := r.len
  at_ := fun i d h => let ⟨v, s, h1, h2, h3⟩ := r.at_ i d h; ⟨v, s, h1, h2, h3.mono (Same.refl _) (Same.refl _) fun a _ o q => e a o q⟩
  nd := r.nd
  dj := r.dj
  out := fun i a ha => ⟨(r.out i a ha).1, let ⟨o, ho⟩ := (r.out i a ha).2; ⟨o, e _ _ ho⟩⟩
theorem tx_par2 {st : Stmt} {is : List Nat} {shs : List Sh} {evs : TV.Env → R (List D)} {t : TA} (hf : ∀ p ∈ C.fix, p.1 ∉ is) (hk : is.map (fun i => C.κ[i]?) = shs.map some) (hp : ParR C shs evs t)
    (h : PS X st fun E σ H => t σ H fun vs H1 => ∀ p, H1 p = none → E.nx ((is.zip vs).foldl (fun s q => s.set q.1 (some q.2)) σ) (upd H1 p (.tup vs))) :
    PS X st (tX C fun ρ => (evs ρ).fl fun ds ρ => Fl.of (bindL is ds ρ)) := PS.imp h fun E σ H ⟨ρ, B, G, fp, r, fx, q⟩ =>
  par_run hp r ((q.fl fx false).mono fun ds B' G' H' fp' ρ' u _ r' k vs fs ow nd out p hpn => by
    cases e : bindL is ds ρ' with
    | none => rw [e] at k; exact k.elim
    | some ρ2 =>
      rw [e] at k
      obtain ⟨σ2, fp2, h1, h2, _⟩ := store_all hk ow nd out r' e
      subst h2
      exact k _ B' G' _ fp2 .refl (h1.more (same_upd hpn _)) (fx.keep hf fun j hj => fold_keep hj))
def ckPar2 (T : Tb) (fx : List Nat) (is : List Nat) (es : Es) : CkS := fun sc st => match sAsg st, is with
  | some (.Tuple [.Name x px, .Name y py] _ _, .Tuple [u, v] _ _, _), [i, j] => match T.κ[i]?, T.κ[j]? with
    | some s1, some s2 => decide (T.N[i]? = some x) && decide (T.N[j]? = some y) && isLoc (fun _ => true) sc x && isLoc (fun _ => true) sc y && !(fx.contains i) && !(fx.contains j) && swNo sc [.Name x px, .Name y py] [u, v] && (chEs T es).nt sc (fun _ => true) [s1, s2] [u, v]
    | _, _ => false
  | _, _ => false
theorem so_par2 {is : List Nat} {es : Es} : SoS T Γ rt fx (exS Γ (.par is es)) (ckPar2 T fx is es) := fun {C sc k X st} g h => by
  unfold ckPar2 at h
  split at h
  · rename_i x px y py k1 p1 u v k2 p2 l i j hx
    split at h
    · rename_i s1 s2 hs1 hs2
      simp only [Bool.and_eq_true, decide_eq_true_eq, Bool.not_eq_true'] at h
      obtain ⟨⟨⟨⟨⟨⟨⟨n1, n2⟩, o1⟩, o2⟩, f1⟩, f2⟩, sn⟩, ne⟩ := h
      obtain ⟨p, rfl, rfl⟩ := sAsg_eq hx
      obtain ⟨t, t1, t2⟩ := (soEs (Γ := Γ) es).nt g.x ne
      obtain ⟨a1, a2⟩ := isLoc_ok o1
      obtain ⟨b1, b2⟩ := isLoc_ok o2
      have hf : ∀ q ∈ C.fix, q.1 ∉ [i, j] := fun q hq z => by
        have := g.fix q hq
        simp only [List.mem_cons, List.not_mem_nil, or_false] at z
        rcases z with z | z
        · rw [z] at this; simp [this] at f1
        · rw [z] at this; simp [this] at f2
      refine tx_par2 (shs := [s1, s2]) hf (by rw [g.x.κ]; simp [hs1, hs2]) t2 ?_
      refine PS.imp (ps_asg (pe_tup t1) (pg_tup g.x.calm (pgs_cons (pg_name (by rw [g.x.N]; exact g.x.nd) (by rw [g.x.N]; exact n1) (by rw [g.x.sc]; exact a1) (by rw [g.x.sc, g.x.own]; exact a2)) (pgs_cons (pg_name (by rw [g.x.N]; exact g.x.nd) (by rw [g.x.N]; exact n2) (by rw [g.x.sc]; exact b1) (by rw [g.x.sc, g.x.own]; exact b2)) pgs_nil)) rfl rfl) (by rfl) (sw_no (by rw [g.x.sc]; exact g.kind) (by rw [g.x.sc]; exact sn)) rfl) fun E σ H q => ?_
      refine par_mono t2 q fun vs H1 hl z => ?_
      match vs, hl with
      | [v1, v2], _ => exact ⟨by show 2 ≤ sizeLine; decide, fun a ha => ⟨a, [v1, v2], rfl, .of upd_same, rfl, v1, [v2], rfl, v2, [], rfl, rfl, z a ha⟩⟩
    · cases h
  · cases h
end
end TV

/-! V22: the check of a whole body. -/
namespace TV
open PySem PySem.Spec PyProof.Rows L2
section
variable {T : Tb} {Γ : Nat → Fn} {rt : Sh} {fx : List Nat} {C : Ct} {sc : Scope} {own : Str → Bool} {k : Nat} {X : Cx} {ev eva evb evc : TV.Env → R D} {ca cb cc : Ck} {exa exb : TV.Env → Fl} {sa sb : CkSs}
def ckNilS : CkSs := fun _ sts => match sts with
  | [] => true
  | _ => false
theorem so_nilS : SoSs T Γ rt fx (exSs Γ .nil) ckNilS := fun {C sc k X sts} g h => by
  unfold ckNilS at h
  split at h
  · exact tx_nil pss_nil
  · cases h
def ckConsS (c : CkS) (cs : CkSs) : CkSs := fun sc sts => match sts with
  | st :: sts => c sc st && cs sc sts
  | _ => false
theorem so_consS {s : S} {ss : Ss} {c : CkS} {cs : CkSs} (h1 : SoS T Γ rt fx (exS Γ s) c) (h2 : SoSs T Γ rt fx (exSs Γ ss) cs) : SoSs T Γ rt fx (exSs Γ (.cons s ss)) (ckConsS c cs) := fun {C sc k X sts} g h => by
  unfold ckConsS at h
  split at h
  · rw [Bool.and_eq_true] at h
    exact tx_seq (pss_cons (h1 g h.1) (h2 g h.2))
  · cases h
def ckIfs (c : E) (ca cb : CkSs) (T : Tb) : CkS := fun sc st => match sIf st with
  | some (c', a', b') => (chX T c sc (fun _ => true) c').2.isSome && ca sc a' && cb sc b'
  | none => false
theorem so_ifs {c : E} {a b : Ss} {ca cb : CkSs} (ha : SoSs T Γ rt fx (exSs Γ a) ca) (hb : SoSs T Γ rt fx (exSs Γ b) cb) : SoS T Γ rt fx (exS Γ (.ifs c a b)) (ckIfs c ca cb T) := fun {C sc k X st} g h => by
  unfold ckIfs at h
  split at h
  · rename_i hx
    simp only [Bool.and_eq_true] at h
    obtain ⟨p, rfl⟩ := sIf_eq hx
    obtain ⟨pu, h1⟩ := Option.isSome_iff_exists.mp h.1.1
    exact tx_if (ps_if ((soX c).b g.x h1).1 (ha g h.1.2) (hb g h.2))
  · cases h
def ckFor (T : Tb) (fx : List Nat) (w : W) (tg : Tg) (cb : CkSs) : CkS := fun sc st => match sFor st with
  | some (t, i, b) => (chW T w sc (fun _ => true) t i).isSome && ckT T sc (fun _ => true) tg t && tg.slots.all (fun j => !(fx.contains j)) && cb sc b
  | none => false
theorem so_for {w : W} {tg : Tg} {b : Ss} {cb : CkSs} (hb : SoSs T Γ rt fx (exSs Γ b) cb) : SoS T Γ rt fx (exS Γ (.for_ w tg b)) (ckFor T fx w tg cb) := fun {C sc k X st} g h => by
  unfold ckFor at h
  split at h
  · rename_i hx
    simp only [Bool.and_eq_true] at h
    obtain ⟨⟨⟨h1, h2⟩, h3⟩, h4⟩ := h
    obtain ⟨p, rfl⟩ := sFor_eq hx
    obtain ⟨pu, h1⟩ := Option.isSome_iff_exists.mp h1
    obtain ⟨w1, w2⟩ := soW (Γ := Γ) w g.x h1
    exact tx_for (fx_no g h3) (tg_of g.x.κ h2) (ps_for g.po g.x.calm w1 (pg_of g.x h2) (hb g h4) w2)
  · cases h
def ckWhl (T : Tb) (c : E) (cb : CkSs) : CkS := fun sc st => match sWhl st with
  | some (c', b) => (chX T c sc (fun _ => true) c').2.isSome && cb sc b
  | none => false
theorem so_whl {n : Nat} {c : E} {b : Ss} {cb : CkSs} (hb : SoSs T Γ rt fx (exSs Γ b) cb) : SoS T Γ rt fx (exS Γ (.whl n c b)) (ckWhl T c cb) := fun {C sc k X st} g h => by
  unfold ckWhl at h
  split at h
  · rename_i hx
    simp only [Bool.and_eq_true] at h
    obtain ⟨p, rfl⟩ := sWhl_eq hx
    obtain ⟨pu, h1⟩ := Option.isSome_iff_exists.mp h.1
    exact tx_whl (ps_while g.po ((soX c).b g.x h1).1 (hb g h.2))
  · cases h
def ckRet (T : Tb) (rt : Sh) (e : E) : CkS := fun sc st => match sRet st with
  | some (some e') => (natTo rt (chX T e sc (fun _ => true) e').1).isSome
  | _ => false
theorem so_ret {e : E} : SoS T Γ rt fx (exS Γ (.ret e)) (ckRet T rt e) := fun {C sc k X st} g h => by
  unfold ckRet at h
  split at h
  · rename_i hx
    obtain ⟨p, rfl⟩ := sRet_eq hx
    obtain ⟨pu, h1⟩ := Option.isSome_iff_exists.mp h
    exact tx_ret g.ret (ps_ret ((soX e).n g.x h1))
  · cases h
def ckRetN (rt : Sh) : CkS := fun _ st => match sRet st with
  | some none => decide (rt = .s)
  | _ => false
theorem so_retN : SoS T Γ rt fx (exS Γ .retN) (ckRetN rt) := fun {C sc k X st} g h => by
  unfold ckRetN at h
  split at h
  · rename_i hx
    obtain ⟨p, rfl⟩ := sRet_eq hx
    exact tx_retN (g.ret.trans (of_decide_eq_true h)) ps_retN
  · cases h
def ckEx (T : Tb) (e : E) : CkS := fun sc st => match sExpr st with
  | some e' => nlc e' && (toS (chX T e sc (fun _ => true) e').1).isSome
  | none => false
theorem so_ex {e : E} : SoS T Γ rt fx (exS Γ (.ex e)) (ckEx T e) := fun {C sc k X st} g h => by
  unfold ckEx at h
  split at h
  · rename_i hx
    rw [Bool.and_eq_true] at h
    obtain ⟨p, rfl⟩ := sExpr_eq hx
    obtain ⟨pu, h1⟩ := Option.isSome_iff_exists.mp h.2
    exact tx_ex (ps_expr ((soX e).s g.x h1) (sw_nlc h.1))
  · cases h
def ckApp (T : Tb) (p : Pl) (e : E) : CkS := fun sc st => match sExpr st with
  | some x => match vMeth x with
    | some (o, m, [a']) => match toS (chX T e sc (fun _ => true) a').1 with
      | some pa => decide (m = ("append" : Str)) && ckPl T sc p o && plOk T.κ p && pl a' && (p.isV || pa)
      | none => false
    | _ => false
  | none => false
theorem so_app {p : Pl} {e : E} : SoS T Γ rt fx (exS Γ (.app p e)) (ckApp T p e) := fun {C sc k X st} g h => by
  unfold ckApp at h
  split at h
  · rename_i hx
    split at h
    · rename_i hm
      split at h
      · rename_i ha
        simp only [Bool.and_eq_true, decide_eq_true_eq, Bool.or_eq_true] at h
        obtain ⟨⟨⟨⟨rfl, h1⟩, h2⟩, h3⟩, h4⟩ := h
        obtain ⟨q, rfl⟩ := sExpr_eq hx
        obtain ⟨q1, q2, rfl, hl⟩ := vMeth_eq hm
        obtain ⟨z1, z2⟩ := so_pl g.x h1
        have z := pe_bm PySem.F.plainAttrs_list PySem.F.slot_list_append PySem.F.type_list_append mt_append z1 (pa_cons ((soX (Γ := Γ) e).s g.x ha) pa_nil (starEach_pl h3)) (noSup_base z2) (by rw [few_pl (by simp [h3])]; rfl) hl (starEach_pl h3) rfl
        rw [g.x.K] at z
        exact tx_app (by rw [g.x.κ]; exact h2) h4 (ps_expr z rfl)
      · cases h
    · cases h
  · cases h
def ckExt (T : Tb) (p : Pl) (e : E) : CkS := fun sc st => match sExpr st with
  | some x => match vMeth x with
    | some (o, m, [a']) => match toP T e (chX T e) sc (fun _ => true) a' with
      | some pa => decide (m = ("extend" : Str)) && ckPl T sc p o && plOk T.κ p && pl a' && (p.isV || pa)
      | none => false
    | _ => false
  | none => false
theorem so_ext {p : Pl} {e : E} : SoS T Γ rt fx (exS Γ (.ext p e)) (ckExt T p e) := fun {C sc k X st} g h => by
  unfold ckExt at h
  split at h
  · rename_i hx
    split at h
    · rename_i hm
      split at h
      · rename_i ha
        simp only [Bool.and_eq_true, decide_eq_true_eq, Bool.or_eq_true] at h
        obtain ⟨⟨⟨⟨rfl, h1⟩, h2⟩, h3⟩, h4⟩ := h
        obtain ⟨q, rfl⟩ := sExpr_eq hx
        obtain ⟨q1, q2, rfl, hl⟩ := vMeth_eq hm
        obtain ⟨z1, z2⟩ := so_pl g.x h1
        have z := pe_bm PySem.F.plainAttrs_list PySem.F.slot_list_extend PySem.F.type_list_extend mt_extend z1 (pa_cons ((soX (Γ := Γ) e).p g.x ha) pa_nil (starEach_pl h3)) (noSup_base z2) (by rw [few_pl (by simp [h3])]; rfl) hl (starEach_pl h3) rfl
        rw [g.x.K] at z
        exact tx_ext (by rw [g.x.κ]; exact h2) h4 (ps_expr z rfl)
      · cases h
    · cases h
  · cases h
def ckSetF (T : Tb) (i j : Nat) (k : Str) (e : E) : CkS := fun sc st => match sAsg st with
  | some (t, x, _) => match vSub t with
    | some (o, ix) => match vName o, T.κ[i]? with
      | some y, some (.r ks) => match ks[j]? with
        | some (k', b) => decide (k' = k) && okN T sc i y && decide (vConst ix = some (.str k)) && decide ((ks.map (·.1)).Nodup) && decide (ks.length ≤ 15) && (natTo (fSh b) (chX T e sc (fun _ => true) x).1).isSome
        | none => false
      | _, _ => false
    | none => false
  | none => false
theorem so_setF {i j : Nat} {f : Str} {e : E} : SoS T Γ rt fx (exS Γ (.setF i j f e)) (ckSetF T i j f e) := fun {C sc k X st} g h => by
  have hu := room_lt g.x.room
  unfold ckSetF at h
  split at h
  · rename_i hx
    split at h
    · rename_i hs
      split at h
      · rename_i hy hk
        split at h
        · rename_i hj
          simp only [Bool.and_eq_true, decide_eq_true_eq] at h
          obtain ⟨⟨⟨⟨⟨rfl, h1⟩, h2⟩, h3⟩, h4⟩, h5⟩ := h
          obtain ⟨p, rfl, rfl⟩ := sAsg_eq hx
          obtain ⟨q, rfl⟩ := vSub_eq hs
          obtain ⟨q1, rfl⟩ := vName_eq hy
          obtain ⟨j', q2, rfl⟩ := vConst_eq h2
          obtain ⟨pu, h5⟩ := Option.isSome_iff_exists.mp h5
          exact tx_setF (by rw [g.x.κ]; exact hk) hj h3 h4 (ps_dput (by omega) (okN_ok g.x h1) pe_str ((soX e).n g.x h5) (sw_nnm rfl))
        · cases h
      · cases h
    · cases h
  · cases h
theorem sw_sole {e t : Expr} {l : Nat} {env : PySem.Env} (h : nnm t = true) : swapsWithSole [t] e l env = pure false := sw_nnm h
theorem assign_sub {o i : Expr} {pos : Pos} {env : PySem.Env} (h : noSl i = true) : ∀ v, assign (.Subscript o i pos) env v = (do
      let ov ← holding [v] (eval o env)
      let iv ← holding [v, ov] (eval i env)
      standAt pos
      holding [v, ov, iv] (setItem ov iv v)
      release [v, ov, iv] []) := by cases i <;> first | (intro _; rfl) | cases h
def ckSetI (T : Tb) (p : Pl) (a e : E) : CkS := fun sc st => match sAsg st with
  | some (t, x, _) => match vSub t with
    | some (o, ix) => match toS (chX T a sc (fun _ => true) ix).1 with
      | some pa => noSl ix && (ckPl T sc p o && plOk T.κ p && (p.isV || pa) && (toS (chX T e sc (fun _ => true) x).1).isSome)
      | none => false
    | none => false
  | none => false
theorem so_setI {p : Pl} {a e : E} : SoS T Γ rt fx (exS Γ (.setI p a e)) (ckSetI T p a e) := fun {C sc k X st} g h => by
  unfold ckSetI at h
  split at h
  · rename_i hx
    split at h
    · rename_i hs
      split at h
      · rename_i ha
        simp only [Bool.and_eq_true, Bool.or_eq_true] at h
        obtain ⟨h0, ⟨⟨h1, h2⟩, h3⟩, h4⟩ := h
        obtain ⟨q, rfl, rfl⟩ := sAsg_eq hx
        obtain ⟨q1, rfl⟩ := vSub_eq hs
        obtain ⟨pu, h4⟩ := Option.isSome_iff_exists.mp h4
        obtain ⟨z1, z2⟩ := so_pl g.x h1
        exact tx_setI (by rw [g.x.κ]; exact h2) h3 (ps_asg ((soX e).s g.x h4) (pg_sub z1 ((soX a).s g.x ha) set_list (assign_sub h0)) (sw_sole rfl) (by unfold swappedStores; rfl) rfl)
      · cases h
    · cases h
  · cases h
def ckDset (T : Tb) (i : Nat) (a e : E) : CkS := fun sc st => match sAsg st with
  | some (t, x, _) => match vSub t with
    | some (o, ix) => match vName o, toS (chX T a sc (fun _ => true) ix).1, toS (chX T e sc (fun _ => true) x).1 with
      | some y, some _, some _ => okN T sc i y && decide (T.κ[i]? = some (.r []))
      | _, _, _ => false
    | none => false
  | none => false
theorem so_dset {i : Nat} {a e : E} : SoS T Γ rt fx (exS Γ (.dset i a e)) (ckDset T i a e) := fun {C sc k X st} g h => by
  have hu := room_lt g.x.room
  unfold ckDset at h
  split at h
  · rename_i hx
    split at h
    · rename_i hs
      split at h
      · rename_i hy ha he
        simp only [Bool.and_eq_true, decide_eq_true_eq] at h
        obtain ⟨h1, h2⟩ := h
        obtain ⟨p, rfl, rfl⟩ := sAsg_eq hx
        obtain ⟨q, rfl⟩ := vSub_eq hs
        obtain ⟨q1, rfl⟩ := vName_eq hy
        exact tx_dset (by rw [g.x.κ]; exact h2) (ps_dput (by omega) (okN_ok g.x h1) ((soX a).s g.x ha) ((soX e).s g.x he) (sw_nnm rfl))
      · cases h
    · cases h
  · cases h
def ckPass : CkS := fun _ st => match st with
  | .Pass _ => true
  | _ => false
theorem so_pass : SoS T Γ rt fx (exS Γ .pass) ckPass := fun {C sc k X st} g h => by
  unfold ckPass at h
  split at h
  · exact tx_pass ps_pass
  · cases h
def ckBrk : CkS := fun _ st => match st with
  | .Break _ => true
  | _ => false
theorem so_brk : SoS T Γ rt fx (exS Γ .brk) ckBrk := fun {C sc k X st} g h => by
  unfold ckBrk at h
  split at h
  · exact tx_brk ps_break
  · cases h
def ckCt : CkS := fun _ st => match st with
  | .Continue _ => true
  | _ => false
theorem so_ct : SoS T Γ rt fx (exS Γ .ct) ckCt := fun {C sc k X st} g h => by
  unfold ckCt at h
  split at h
  · exact tx_ct ps_continue
  · cases h
theorem so_stop : SoS T Γ rt fx (exS Γ .stop) (fun _ _ => true) := fun {C sc k X st} g h => ⟨fun pins s σ H D I ⟨_, _, _, _, _, _, q⟩ => (show False from q).elim⟩
end
mutual
def chS (T : Tb) (rt : Sh) (fx : List Nat) : S → CkS
  | .asg (.v i) e => ckAsgV T fx i e
  | .asg (.t ts) e => ckAsgT T fx ts e
  | .par is es => fun sc st => ckPar T fx is es sc st || ckPar2 T fx is es sc st
  | .ifs c a b => ckIfs c (chSs T rt fx a) (chSs T rt fx b) T
  | .for_ w tg b => ckFor T fx w tg (chSs T rt fx b)
  | .whl _ c b => ckWhl T c (chSs T rt fx b)
  | .ret e => ckRet T rt e
  | .retN => ckRetN rt
  | .ex e => ckEx T e
  | .app p e => ckApp T p e
  | .ext p e => ckExt T p e
  | .setF i j k e => ckSetF T i j k e
  | .setI p a e => ckSetI T p a e
  | .dset i a e => ckDset T i a e
  | .pass => ckPass
  | .brk => ckBrk
  | .ct => ckCt
  | .stop => fun _ _ => true
def chSs (T : Tb) (rt : Sh) (fx : List Nat) : Ss → CkSs
  | .nil => ckNilS
  | .cons s ss => ckConsS (chS T rt fx s) (chSs T rt fx ss)
end
section
variable {T : Tb} {Γ : Nat → Fn} {rt : Sh} {fx : List Nat}
mutual
theorem soS : ∀ s : S, SoS T Γ rt fx (exS Γ s) (chS T rt fx s)
  | .asg (.v i) e => by unfold chS; exact so_asgV
  | .asg (.t ts) e => by unfold chS; exact so_asgT
  | .par is es => by
    unfold chS
    intro g h
    exact (Bool.or_eq_true_iff.mp h).elim (so_par g) (so_par2 g)
  | .ifs c a b => by unfold chS; exact so_ifs (soSs a) (soSs b)
  | .for_ w tg b => by unfold chS; exact so_for (soSs b)
  | .whl _ c b => by unfold chS; exact so_whl (soSs b)
  | .ret e => by unfold chS; exact so_ret
  | .retN => by unfold chS; exact so_retN
  | .ex e => by unfold chS; exact so_ex
  | .app p e => by unfold chS; exact so_app
  | .ext p e => by unfold chS; exact so_ext
  | .setF i j k e => by unfold chS; exact so_setF
  | .setI p a e => by unfold chS; exact so_setI
  | .dset i a e => by unfold chS; exact so_dset
  | .pass => by unfold chS; exact so_pass
  | .brk => by unfold chS; exact so_brk
  | .ct => by unfold chS; exact so_ct
  | .stop => by unfold chS; exact so_stop
theorem soSs : ∀ ss : Ss, SoSs T Γ rt fx (exSs Γ ss) (chSs T rt fx ss)
  | .nil => by unfold chSs; exact so_nilS
  | .cons s ss => by unfold chSs; exact so_consS (soS s) (soSs ss)
end
end
end TV

/-! V23: a def keeps its promise; all of them. -/
namespace TV
open PySem PySem.Spec PyProof.Rows L2
def iosOf : Nat → List Sh → List Nat
  | _, [] => []
  | i, p :: ps => if p.isM then i :: iosOf (i + 1) ps else iosOf (i + 1) ps
structure Df where
  nm : Str
  pn : List Str
  ps : List Sh
  ret : Sh
  N : List Str
  κ : List Sh
  kw : List KPat
  body : Ss
def Df.ios (d : Df) : List Nat := iosOf 0 d.ps
def Df.fe (d : Df) (i : Nat) : FE := ⟨d.nm, d.ps, d.pn, d.ret, d.kw, i⟩
def Df.sem (d : Df) (Γ : Nat → Fn) : Fn := run Γ d.N.length d.ios (decide (d.ret = .s)) d.body
def fes (l : List Df) : List FE := l.zipIdx.map fun p => p.1.fe p.2
def Df.T (d : Df) (l : List Df) (B : List BN) : Tb := ⟨d.N, d.κ, fes l, B⟩
/-- what the defs do, down to the depth k -/
def Gam (l : List Df) : Nat → Nat → Fn
  | 0 => fun _ _ => .no
  | k + 1 => fun i => match l[i]? with
    | some d => d.sem (Gam l k)
    | none => fun _ => .no
def Sh.par (s : Sh) : Bool := s.isM || decide (s = .s) || decide (s = .z)
/-- the check of a def -/
def okDf (l : List Df) (B : List BN) (d : Df) (params : Arguments) (body : List Stmt) (scope : Scope) : Bool :=
  decide d.N.Nodup && decide (d.N.take d.pn.length = d.pn) && decide (d.ps.length = d.pn.length) && decide (d.κ.take d.ps.length = d.ps) && d.ret.noz && d.ps.all Sh.par &&
  decide (scope.kind = .function) && !scope.isCoroutine && !scope.isGenerator && d.pn.all (fun x => decide (scope.names.lookup x = some .local) || decide (scope.names.lookup x = some .cell)) && scope.names.all (fun y => decide (y.2 ≠ .free)) &&
  chSs (d.T l B) d.ret d.ios d.body scope body
section
variable {K : PySem.W.Frag} {κ : List Sh} {Z B G H B' G' H' : Hp} {σ : L2.St} {ρ ρ' : Env} {fp fp' : Nat → List Addr}
theorem ArgsR.len {ps : List Sh} {ds : List D} {vs : List V} {fs : List (List Addr)} (h : ArgsR K B G H ps ds vs fs) : vs.length = ps.length ∧ ds.length = ps.length ∧ fs.length = ps.length := by
  induction h with
  | nil => exact ⟨rfl, rfl, rfl⟩
  | cons _ _ ih => exact ⟨by simp [ih.1], by simp [ih.2.1], by simp [ih.2.2]⟩
theorem ArgsR.at_ {ps : List Sh} {ds : List D} {vs : List V} {fs : List (List Addr)} (h : ArgsR K B G H ps ds vs fs) : ∀ {i : Nat} {d : D}, ds[i]? = some d → ∃ p v as, ps[i]? = some p ∧ vs[i]? = some v ∧ fs[i]? = some as ∧ Ow K B G H p d v as := by
  induction h with
  | nil => intro i d e; simp at e
  | cons o _ ih =>
    intro i d e
    cases i with
    | zero => simp at e; subst e; exact ⟨_, _, _, rfl, rfl, rfl, o⟩
    | succ i => exact ih (by simpa using e)
theorem fs_flat {fs : List (List Addr)} {i : Nat} {as : List Addr} (e : fs[i]? = some as) : ∀ a ∈ as, a ∈ fs.flatten := fun a ha => List.mem_flatten.mpr ⟨as, List.mem_of_getElem? e, ha⟩
theorem fs_dj : ∀ {fs : List (List Addr)} {i j : Nat} {as bs : List Addr}, fs.flatten.Nodup → fs[i]? = some as → fs[j]? = some bs → i ≠ j → ∀ a ∈ as, a ∉ bs
  | [], i, j, as, bs, _, e, _, _, a, _ => by simp at e
  | f :: fs, 0, 0, _, _, _, _, _, h, _, _ => absurd rfl h
  | f :: fs, 0, j + 1, as, bs, nd, e, e2, _, a, ha => by
    simp at e e2; subst e
    rw [List.flatten_cons, List.nodup_append] at nd
    exact fun hb => nd.2.2 a ha a (fs_flat e2 a hb) rfl
  | f :: fs, i + 1, 0, as, bs, nd, e, e2, _, a, ha => by
    simp at e e2; subst e2
    rw [List.flatten_cons, List.nodup_append] at nd
    exact fun hb => nd.2.2 a hb a (fs_flat e a ha) rfl
  | f :: fs, i + 1, j + 1, as, bs, nd, e, e2, h, a, ha => by
    rw [List.flatten_cons, List.nodup_append] at nd
    exact fs_dj nd.2.1 (by simpa using e) (by simpa using e2) (fun z => h (by omega)) a ha
/-- the entry -/
theorem rel_start {ps : List Sh} {ds : List D} {vs : List V} {fs : List (List Addr)} {N : List Str} (bg : Same B G) (gh : Same G H) (hA : ArgsR K B G H ps ds vs fs) (nd : fs.flatten.Nodup) (hn : ∀ a ∈ fs.flatten, G a = none) (hκ : κ.take ps.length = ps) (hl : ps.length ≤ N.length) :
    Rel K κ G B G H (ds.map some ++ List.replicate (N.length - ds.length) none) (start N vs) (fun i => fs.getD i []) := by
  obtain ⟨l1, l2, l3⟩ := hA.len
  have get : ∀ i, fs.getD i [] ≠ [] → fs[i]? = some (fs.getD i []) := fun i h => by
    rw [List.getD_eq_getElem?_getD] at h ⊢
    cases e : fs[i]? with
    | none => rw [e] at h; exact absurd rfl h
    | some a => rfl
  have mem : ∀ i a, a ∈ fs.getD i [] → fs[i]? = some (fs.getD i []) := fun i a ha => get i fun z => by rw [z] at ha; cases ha
  refine ⟨bg, gh, Same.refl _, by unfold L2.start; simp [l1, l2], fun i d e => ?_, fun i => ?_, fun i j hij a ha hb => ?_, fun i a ha => ?_⟩
  · have hi : i < ds.length := by
      by_cases hi : i < ds.length
      · exact hi
      · rw [List.getElem?_append_right (by simpa using hi), List.getElem?_replicate] at e
        split at e <;> cases e
    rw [List.getElem?_append_left (by simpa using hi), List.getElem?_map] at e
    have e : ds[i]? = some d := by
      cases q : ds[i]? with
      | none => rw [q] at e; cases e
      | some x => rw [q] at e; cases e; rfl
    obtain ⟨p, v, as, h1, h2, h3, ow⟩ := hA.at_ e
    refine ⟨v, p, ?_, ?_, ?_⟩
    · unfold L2.start
      rw [List.getElem?_append_left (by simp; omega), List.getElem?_map, h2]; rfl
    · rw [← hκ, List.getElem?_take_of_lt (by omega)] at h1
      exact h1
    · rw [List.getD_eq_getElem?_getD, h3]; exact ow
  · by_cases h : fs.getD i [] = []
    · rw [h]; exact List.nodup_nil
    · exact flat_nd nd (List.mem_of_getElem? (get i h))
  · exact fs_dj nd (mem i a ha) (mem j a hb) hij a ha hb
  · refine ⟨hn a (fs_flat (mem i a ha) a ha), ?_⟩
    have hi : i < ds.length := by
      have := (List.getElem?_eq_some_iff.mp (mem i a ha)).1
      omega
    obtain ⟨p, v, as, h1, h2, h3, ow⟩ := hA.at_ (List.getElem?_eq_getElem hi)
    rw [mem i a ha] at h3
    cases h3
    exact ow.inH a ha
/-- the end: the owned parameters as they are left -/
theorem outs_of (r : Rel K κ Z B' G' H' ρ' σ fp) : ∀ {ps : List Sh} {vs : List V} {i : Nat}, vs.length = ps.length → ps.all Sh.par = true → (∀ j p, ps[j]? = some p → κ[i + j]? = some p) → (∀ j p v, ps[j]? = some p → p.isM = true → vs[j]? = some v → σ[i + j]? = some (some v)) →
    OutsR K B' G' H' ps vs ((iosOf i ps).map (gv ρ')) ((iosOf i ps).map fp)
  | [], [], i, _, _, _, _ => .nil
  | p :: ps, v :: vs, i, hl, hp, hκ, hσ => by
    rw [List.all_cons, Bool.and_eq_true] at hp
    have ih := outs_of r (ps := ps) (vs := vs) (i := i + 1) (by simpa using hl) hp.2 (fun j q e => by
      have := hκ (j + 1) q (by simpa using e)
      rw [show i + (j + 1) = i + 1 + j by omega] at this
      exact this) (fun j q v e m e2 => by
      have := hσ (j + 1) q v (by simpa using e) m (by simpa using e2)
      rw [show i + (j + 1) = i + 1 + j by omega] at this
      exact this)
    unfold iosOf
    cases hm : p.isM with
    | false =>
      simp only [Bool.false_eq_true, if_false]
      exact .skip hm ih
    | true =>
      simp only [if_true, List.map_cons]
      refine .m hm (fun d e => ?_) ih
      obtain ⟨w, s, h1, h2, ow⟩ := r.at_ i d (gv_some e)
      have k := hκ 0 p rfl
      rw [Nat.add_zero, h2] at k
      cases k
      have z := hσ 0 p v rfl hm rfl
      rw [Nat.add_zero, h1] at z
      cases z
      exact ow.anyG (noz_of_isM hm)
  | [], _ :: _, _, hl, _, _, _ => by simp at hl
  | _ :: _, [], _, hl, _, _, _ => by simp at hl
theorem iosOf_lt : ∀ {ps : List Sh} {i j : Nat}, j ∈ iosOf i ps → i ≤ j ∧ ∃ p, ps[j - i]? = some p ∧ p.isM = true
  | [], _, _, h => by simp [iosOf] at h
  | p :: ps, i, j, h => by
    unfold iosOf at h
    split at h
    · rename_i hm
      rcases List.mem_cons.mp h with e | h
      · subst e; exact ⟨Nat.le_refl _, p, by simp, hm⟩
      · obtain ⟨h1, q, h2, h3⟩ := iosOf_lt h
        refine ⟨by omega, q, ?_, h3⟩
        rw [show j - i = (j - (i + 1)) + 1 by omega]
        simpa using h2
    · obtain ⟨h1, q, h2, h3⟩ := iosOf_lt h
      refine ⟨by omega, q, ?_, h3⟩
      rw [show j - i = (j - (i + 1)) + 1 by omega]
      simpa using h2
theorem iosOf_nd : ∀ {ps : List Sh} {i : Nat}, (iosOf i ps).Nodup
  | [], _ => by simp [iosOf]
  | p :: ps, i => by
    unfold iosOf
    split
    · refine List.nodup_cons.mpr ⟨fun h => ?_, iosOf_nd⟩
      have := (iosOf_lt h).1
      omega
    · exact iosOf_nd
theorem fps_nd (r : Rel K κ Z B' G' H' ρ' σ fp) : ∀ {is : List Nat}, is.Nodup → ((is.map fp).flatten).Nodup
  | [], _ => by simp
  | i :: is, h => by
    rw [List.map_cons, List.flatten_cons, List.nodup_append]
    obtain ⟨h1, h2⟩ := List.nodup_cons.mp h
    refine ⟨r.nd i, fps_nd r h2, fun a ha b hb e => ?_⟩
    subst e
    obtain ⟨f, hf, hb⟩ := List.mem_flatten.mp hb
    obtain ⟨j, hj, rfl⟩ := List.mem_map.mp hf
    exact r.dj i j (fun z => h1 (z ▸ hj)) a ha hb
end
/-- THE RULE: a def by its check -/
theorem fnG_of {P : Program} {w : World} {K : PySem.W.Frag} {mg : Str → Option Value} {base : Heap} {EX : D → Value → Option Addr → Hp → Hp → Prop} {l : List Df} {Bn : List BN} {d : Df} {k : Nat} {name qual : Str} {params : Arguments} {stmts : List Stmt} {scope : Scope} {dvs : List V} {kws : List (Str × V)} {f : Addr} {fd : FuncData} {Γ : Nat → Fn}
    (F : FunD K name qual params stmts scope dvs kws f fd) (hok : okDf l Bn d params stmts scope = true) (free : ∀ b ∈ Bn, Fr mg b)
    (fns : ∀ fe ∈ fes l, ∃ f fd, mg fe.name = some (.ref f) ∧ PySem.W.keepIn K (.ref f) = true ∧ Binds K fd fe.pn [] ∧ (∀ kp ∈ fe.kw, KBd K fd fe.pn kp) ∧ FnG P w K mg base (L2.CX P w) k f fd fe.pn (spOf K EX ⟨fe.name, fe.ps, fe.ret, Γ fe.ix⟩)) :
    FnG P w K mg base (L2.CX P w) (k + 1) f fd d.pn (spOf K EX ⟨d.nm, d.ps, d.ret, d.sem Γ⟩) := by
  unfold okDf at hok
  simp only [Bool.and_eq_true, decide_eq_true_eq, Bool.not_eq_true'] at hok
  obtain ⟨⟨⟨⟨⟨⟨⟨⟨⟨⟨⟨o1, o2⟩, o3⟩, o4⟩, o5⟩, o6⟩, o7⟩, o8⟩, o9⟩, o10⟩, o11⟩, o12⟩ := hok
  have S : FnScope d.N d.pn scope := ⟨o7, o8, o9, o1, o2, fun x hx => by
    have := List.all_eq_true.mp o10 x hx
    simpa using this, fun y hy => by
    have := List.all_eq_true.mp o11 y hy
    simpa using this⟩
  have hpn : d.pn.length ≤ d.N.length := by
    have := congrArg List.length o2
    rw [List.length_take] at this
    omega
  have len : ∀ vs H Q E, spOf K EX ⟨d.nm, d.ps, d.ret, d.sem Γ⟩ vs H Q E → vs.length = d.pn.length := fun vs H Q E ⟨ds, B, G, fs, _, _, hA, _⟩ => by rw [← o3]; exact hA.len.1
  obtain ⟨_, _, dfV, kwV, dcV, pmV, anV, cdv, ctV, oslV, rfl, look, hcode, _, _⟩ := F.ex
  refine ⟨len, fun A outer s H args us vs Q E hr hgd e0 hb r hsp => ?_⟩
  have hl := len _ _ _ _ hsp
  have kinH : K.In s.heap := e0.mod.kin.keeps fun p o he => (e0.bs p o he).1
  have noLim : s.heap.NoLimit := e0.mod.nolimit.keeps fun p o he => (e0.bs p o he).1
  have kinds : ∀ y ∈ d.pn.zip us, scope.names.lookup y.1 = some .local ∨ (scope.names.lookup y.1 = some .cell ∧ ((cellsFrom (s.heap.objs.size + 1) scope.names []).lookup y.1).isSome = true) := fun ⟨n, v⟩ hy => by
    rcases S.par n (List.of_mem_zip hy).1 with isL | isC
    · exact .inl isL
    · exact .inr ⟨isC, PySem.W.cellsFrom_some _ _ _ (.inl isC)⟩
  refine codeAny_call_function hr.depth (kinH _ _ look) rfl S.co S.gen rfl (PySem.W.codeRec_of kinH hcode) (hb _ _ _ _ ?_)
  refine wpAny_newFunctionEnv_cells S.kind kinds fun env he s1 inC => ?_
  subst he
  refine ⟨noLim.keeps inC.toInCall.keep, codeAny_func ?_⟩
  have I : Inv (cxOf (L2.CX P w) P w K mg base d.N qual scope f cdv A outer s H E) [] (start d.N vs) H s1 := inv_start S hr.hd e0 hl r inC
  obtain ⟨ds, B, G, fs, bg, gh, hA, nd, hn, post⟩ := hsp
  obtain ⟨al1, al2, al3⟩ := hA.len
  let C : Ct := ⟨K, d.κ, G, d.ret, d.ios.map fun i => (i, vs.getD i .non), fun cls dd _ H => E cls dd H, EX⟩
  have g : GS (d.T l Bn) Γ d.ret d.ios C scope k (cxOf (L2.CX P w) P w K mg base d.N qual scope f cdv A outer s H E) :=
    { x := { N := rfl, nd := o1, K := rfl, κ := rfl, sc := rfl, own := rfl, calm := rfl, gd := hgd, room := hr.deeper _, tk := takes_of rfl rfl rfl rfl, free := free, fns := fns }
      po := passes_of rfl
      ret := rfl
      fix := fun p hp => by
        obtain ⟨i, hi, rfl⟩ := List.mem_map.mp hp
        exact hi
      kind := o7 }
  have hS := soSs d.body g o12
  have rel : Rel K d.κ G B G H (ds.map some ++ List.replicate (d.N.length - ds.length) none) (start d.N vs) (fun i => fs.getD i []) := rel_start bg gh hA nd hn o4 (by omega)
  have σat : ∀ i v, vs[i]? = some v → (start d.N vs)[i]? = some (some v) := fun i v e => by
    unfold L2.start
    rw [List.getElem?_append_left (by simpa using (List.getElem?_eq_some_iff.mp e).1), List.getElem?_map, e]; rfl
  have fx0 : Fx C (start d.N vs) := fun p hp => by
    obtain ⟨i, hi, rfl⟩ := List.mem_map.mp hp
    obtain ⟨_, q, h2, _⟩ := iosOf_lt hi
    have hi2 : i < vs.length := by
      have := (List.getElem?_eq_some_iff.mp h2).1
      omega
    refine σat i _ ?_
    rw [List.getD_eq_getElem?_getD, List.getElem?_eq_getElem hi2]; rfl
  have fin : ∀ {σ' : L2.St} {B' G' H' : Hp} {ρ' : Env} {fp' : Nat → List Addr}, Rel K d.κ G B' G' H' ρ' σ' fp' → Fx C σ' → OutsR K B' G' H' d.ps vs (d.ios.map (gv ρ')) (d.ios.map fp') := fun {σ' B' G' H' ρ' fp'} r' fx => by
    refine outs_of r' (by omega) o6 (fun j p e => ?_) (fun j p v e m e2 => ?_)
    · rw [Nat.zero_add]
      have hj := (List.getElem?_eq_some_iff.mp e).1
      have e2 : (d.κ.take d.ps.length)[j]? = some p := by rw [o4]; exact e
      rw [List.getElem?_take_of_lt hj] at e2
      exact e2
    · rw [Nat.zero_add]
      have hj : j ∈ d.ios := by
        unfold Df.ios
        have key : ∀ (ps : List Sh) (i j : Nat) (p : Sh), ps[j]? = some p → p.isM = true → i + j ∈ iosOf i ps := fun ps => by
          induction ps with
          | nil => intro i j p e; simp at e
          | cons q ps ih =>
            intro i j p e m
            cases j with
            | zero =>
              simp at e; subst e
              simp [iosOf, m]
            | succ j =>
              have := ih (i + 1) j p (by simpa using e) m
              rw [show i + (j + 1) = i + 1 + j by omega]
              unfold iosOf
              split
              · exact List.mem_cons_of_mem _ this
              · exact this
        have := key d.ps 0 j p e m
        rwa [Nat.zero_add] at this
      have := fx (j, vs.getD j .non) (List.mem_map.mpr ⟨j, hj, rfl⟩)
      rw [List.getD_eq_getElem?_getD, e2] at this
      exact this
  have none' : ∀ {σ' : L2.St} {B' G' H' : Hp} {ρ' : Env} {fp' : Nat → List Addr}, Rel K d.κ G B' G' H' ρ' σ' fp' → ∀ a ∈ (d.ios.map fp').flatten, G' a = none ∧ ∃ o, H' a = some o := fun {σ' B' G' H' ρ' fp'} r' a ha => by
    obtain ⟨f, hf, hb⟩ := List.mem_flatten.mp ha
    obtain ⟨j, _, rfl⟩ := List.mem_map.mp hf
    exact r'.out j a hb
  have hq : tX C (exSs Γ d.body) { nx := fun _ H' => Q .non H', rt := Q } (start d.N vs) H := by
    refine ⟨_, B, G, _, rel, fx0, ?_⟩
    have post : PostF K EX ⟨d.nm, d.ps, d.ret, d.sem Γ⟩ B G vs Q E (d.sem Γ ds) := post
    unfold Df.sem run at post
    cases ex : exSs Γ d.body (ds.map some ++ List.replicate (d.N.length - ds.length) none) with
    | ret dv ρ' =>
      rw [ex] at post
      intro v σ' B' G' H' fp' as u r' fx ow nd' out
      refine post v H' B' G' as _ u r'.bg r'.gh (ow.anyG o5) (fin r' fx) ?_ fun a ha => ?_
      · rw [List.nodup_append]
        refine ⟨nd', fps_nd r' iosOf_nd, fun a ha b hb e => ?_⟩
        subst e
        obtain ⟨f, hf, hb⟩ := List.mem_flatten.mp hb
        obtain ⟨j, _, rfl⟩ := List.mem_map.mp hf
        exact (out a ha).2 j hb
      · rcases List.mem_append.mp ha with ha | ha
        · exact ⟨(out a ha).1, ow.inH a ha⟩
        · exact none' r' a ha
    | nx ρ' =>
      rw [ex] at post
      by_cases hret : d.ret = .s
      · simp only [hret, decide_true, if_true] at post
        intro σ' B' G' H' fp' u r' fx
        exact post .non H' B' G' [] _ u r'.bg r'.gh (.s .non) (fin r' fx) (by rw [List.nil_append]; exact fps_nd r' iosOf_nd) fun a ha => none' r' a (by simpa using ha)
      · simp only [hret, decide_false] at post
        exact post.elim
    | err xd ρ' =>
      rw [ex] at post
      intro cls dx σ' B' G' H' fp' u r' fx he
      exact post cls dx H' B' G' _ u r'.bg r'.gh (fin r' fx) (fps_nd r' iosOf_nd) (none' r') he
    | brk ρ' => rw [ex] at post; exact post.elim
    | ct ρ' => rw [ex] at post; exact post.elim
    | no => rw [ex] at post; exact post.elim
  refine wpAny_mono (hS.run [] s1 (start d.N vs) H _ I hq) (fun fl s' hs => ?_) fun e s' hs => hs
  have fin2 : ∀ {σ' : L2.St} {H' : Hp} {v : V} {u : Value}, Inv (cxOf (L2.CX P w) P w K mg base d.N qual scope f cdv A outer s H E) [] σ' H' s' → RelV v u → Q v H' → CE outer P w H s Q u s' :=
    fun {σ' H' v u} inv rv q => ⟨v, H', inv.os, inv.bare, inv.base, inv.hok, rv, q⟩
  cases fl with
  | ret u =>
    obtain ⟨v, σ', H', inv, rv, q⟩ := hs
    exact fin2 inv rv q
  | next =>
    obtain ⟨σ', H', inv, q⟩ := hs
    exact fin2 (v := V.non) (u := Value.none) inv rfl q
  | brk =>
    obtain ⟨_, _, _, q⟩ := hs
    exact False.elim q
  | cont =>
    obtain ⟨_, _, _, q⟩ := hs
    exact False.elim q
end TV

/-! V24: all defs of a text; the law's end. -/
namespace TV
open PySem PySem.Spec PyProof.Rows L2
/-- a def as it stands: its function object, its name, its check -/
structure DfOk (K : PySem.W.Frag) (mg : Str → Option Value) (l : List Df) (Bn : List BN) (d : Df) (f : Addr) (fd : FuncData) : Prop where
  ok : ∃ name qual params stmts scope dvs kws, FunD K name qual params stmts scope dvs kws f fd ∧ okDf l Bn d params stmts scope = true
  mg : mg d.nm = some (.ref f)
  bd : Binds K fd d.pn []
  kb : ∀ kp ∈ d.kw, KBd K fd d.pn kp
theorem mem_fes {l : List Df} {fe : FE} (h : fe ∈ fes l) : ∃ (i : Nat) (d : Df), l[i]? = some d ∧ fe = d.fe i := by
  unfold fes at h
  obtain ⟨⟨d, i⟩, h1, rfl⟩ := List.mem_map.mp h
  have := List.mem_zipIdx_iff_getElem?.mp h1
  exact ⟨i, d, this, rfl⟩
section
variable {P : Program} {w : World} {K : PySem.W.Frag} {mg : Str → Option Value} {base : Heap} {EX : D → Value → Option Addr → Hp → Hp → Prop} {l : List Df} {Bn : List BN}
/-- all defs, at every depth -/
theorem tower (h : ∀ d ∈ l, ∃ f fd, DfOk K mg l Bn d f fd) (free : ∀ b ∈ Bn, Fr mg b) : ∀ (k : Nat), ∀ fe ∈ fes l, ∃ f fd, mg fe.name = some (.ref f) ∧ PySem.W.keepIn K (.ref f) = true ∧ Binds K fd fe.pn [] ∧ (∀ kp ∈ fe.kw, KBd K fd fe.pn kp) ∧
    FnG P w K mg base (L2.CX P w) k f fd fe.pn (spOf K EX ⟨fe.name, fe.ps, fe.ret, Gam l k fe.ix⟩)
  | 0, fe, hfe => by
    obtain ⟨i, d, hd, rfl⟩ := mem_fes hfe
    obtain ⟨f, fd, ⟨⟨name, qual, params, stmts, scope, dvs, kws, F, _⟩, hm, hb, kb⟩⟩ := h d (List.mem_of_getElem? hd)
    have no : ∀ vs H Q E, ¬ spOf K EX ⟨d.nm, d.ps, d.ret, Gam l 0 i⟩ vs H Q E := fun vs H Q E ⟨ds, B, G, fs, _, _, _, _, _, q⟩ => q
    exact ⟨f, fd, hm, F.kp, hb, kb, fun vs H Q E q => (no vs H Q E q).elim, fun A outer s H args us vs Q E _ _ _ _ _ q => (no vs H Q E q).elim⟩
  | k + 1, fe, hfe => by
    have ih := tower h free k
    obtain ⟨i, d, hd, rfl⟩ := mem_fes hfe
    obtain ⟨f, fd, ⟨⟨name, qual, params, stmts, scope, dvs, kws, F, ok⟩, hm, hb, kb⟩⟩ := h d (List.mem_of_getElem? hd)
    refine ⟨f, fd, hm, F.kp, hb, kb, ?_⟩
    have e : Gam l (k + 1) i = d.sem (Gam l k) := by simp only [Gam, hd]
    show FnG P w K mg base (L2.CX P w) (k + 1) f fd d.pn (spOf K EX ⟨d.nm, d.ps, d.ret, Gam l (k + 1) i⟩)
    rw [e]
    exact fnG_of F ok free ih
/-- the whole thing of a text -/
theorem law_fn {i : Nat} {d : Df} {fa : Addr} (h : ∀ d ∈ l, ∃ f fd, DfOk K mg l Bn d f fd) (free : ∀ b ∈ Bn, Fr mg b) (hd : l[i]? = some d) (hm : mg d.nm = some (.ref fa)) (k : Nat) :
    ∃ fd, Binds K fd d.pn [] ∧ FnG P w K mg base (L2.CX P w) k fa fd d.pn (spOf K EX ⟨d.nm, d.ps, d.ret, Gam l k i⟩) := by
  have hfe : d.fe i ∈ fes l := by
    unfold fes
    exact List.mem_map.mpr ⟨(d, i), List.mem_zipIdx_iff_getElem?.mpr hd, rfl⟩
  obtain ⟨f, fd, h1, _, h3, _, h4⟩ := tower (P := P) (w := w) (base := base) (EX := EX) h free k (d.fe i) hfe
  have h1 : mg d.nm = some (.ref f) := h1
  rw [hm] at h1
  cases h1
  exact ⟨fd, h3, h4⟩
end
/-- the law's promise at a script -/
theorem sp_law {K : PySem.W.Frag} {EX : D → Value → Option Addr → Hp → Hp → Prop} {nm : Str} {sem : Fn} {H : Hp} {a : Addr} {ns : List Int} (hS : SqL K H a (ns.map V.int)) {os : Env} (hs : sem [.list (ns.map .int)] = .ok (.bool true) os) :
    spOf K EX ⟨nm, [.z], .s, sem⟩ [.ref a] H (fun v _ => v = .bl true) fun _ _ _ => False := by
  have dv : ∀ ns : List Int, DvAll K (fun _ => none) (ns.map V.int) (ns.map PyData.int) := fun ns => by
    induction ns with
    | nil => exact .nil
    | cons n ns ih => exact .cons (.int n) ih
  refine ⟨[.list (ns.map .int)], fun _ => none, H, [[]], fun _ _ e => by simp at e, Same.refl _, .cons (.z hS (dv ns)) .nil, by simp, fun a ha => by simp at ha, ?_⟩
  show PostF K EX ⟨nm, [.z], .s, sem⟩ _ _ _ _ _ (sem [.list (ns.map .int)])
  rw [hs]
  intro v H' B' G' as fs _ _ _ ow _ _ _
  have ow : Ow K B' G' H' .s (.bool true) v as := ow
  cases ow with
  | s h => exact h.bl'
end TV

/-! V25: the law's call behind the top, by a promise of FnG's kind. -/
namespace TV
open PySem PySem.Spec PyProof.Rows L2
section
variable {P : Program} {w : World} {K : PySem.W.Frag} {mg mb : Str → Option Value} {k : Nat} {fa a : Addr} {fd : FuncData} {x : Str} {sp : Sp} {t1 : Shared} {us : List Value} {ns : List Int}
/-- from an abstract heap that knows the script at most -/
theorem call_from {T : Hp} (only : ∀ b, T b ≠ none → b = a) (froz : T a = none ∨ ∃ o xs, T a = some (.frz o (.lst xs))) (hok : HOk P w T t1.heap) (apart : T a ≠ none → K.lookup a = none)
    (inK : K.In t1.heap) (nsG : t1.heap.Ns mainGlobals mg) (nsB : t1.heap.Ns builtinsNs mb) (boot : ∀ x : Str, x ≠ "__name__" → mb x = bootBuiltins x) (noL : t1.heap.NoLimit) (gens : t1.gens = #[])
    (at_ : t1.heap.get? a = some { cls := .type "list", data := .seq us.toArray }) (room : Room k callerA)
    (F : ∀ base : Heap, K.In base → base.Ns mainGlobals mg → FnG P w K mg base (L2.CX P w) k fa fd [x] sp) (bind : ∀ (s : Shared) (u : Value), BindsTo s fd ⟨[u], []⟩ [(x, u)])
    (hsp : sp [.ref a] T (fun v _ => v = .bl true) fun _ _ _ => False) :
    codeAny (model P w) callerA (.call (.ref fa) ⟨[.ref a], []⟩) (fun r t => r = .ok (.ret (.bool true)) ∧ OldK t1.heap t.heap ∧ t.os = t1.os ∧ AllBare t.gens) t1 := by
  have down : ∀ {b : Addr} {o : Obj}, t1.heap.get? b = some o → T b = none → (hidT t1.heap T).get? b = some o := fun he hn => hidT_get he hn
  have free : ∀ {b : Addr}, b ≠ a → T b = none := fun {b} hb => by
    cases hT : T b with
    | none => rfl
    | some u => exact absurd (only b (by rw [hT]; simp)) hb
  have dictNo : ∀ {b : Addr} {m : Str → Option Value}, t1.heap.Ns b m → T b = none := fun {b m} ⟨o, es, ep, he, hd, _⟩ => free fun hb => by
    rw [hb, at_] at he
    cases he
    exact absurd hd (by simp)
  have nsD : ∀ {b : Addr} {m : Str → Option Value}, t1.heap.Ns b m → (hidT t1.heap T).Ns b m := fun {b m} hb => by
    have hn := dictNo hb
    obtain ⟨o, es, ep, he, hd, hr⟩ := hb
    exact ⟨o, es, ep, down he hn, hd, hr⟩
  have inK2 : K.In (hidT t1.heap T) := fun b o he => down (inK b o he) (by
    cases hT : T b with
    | none => rfl
    | some u =>
      have hb := only b (by rw [hT]; simp)
      subst hb
      rw [apart (by rw [hT]; simp)] at he
      cases he)
  have md : Mod K mg (hidT t1.heap T) := ⟨inK2, nsD nsG, ⟨mb, nsD nsB, boot⟩, let ⟨mc, h1, h2⟩ := noL; ⟨mc, nsD h1, h2⟩⟩
  have env : Env0 P w K mg (hidT t1.heap T) callerA [] t1 T :=
    { frames := rfl, mod := md, bs := fun b o he => of_hidT he, bsz := Nat.le_of_eq (hidT_size _ _), funs := trivial, frf := (fun b hb => absurd (show b ∈ ([] : List Addr) from hb) (by simp)), hok := hok, bare := .of_eq gens }
  refine codeAny_mono ((F _ inK2 (nsD nsG)).run callerA [] t1 T ⟨[.ref a], []⟩ [.ref a] [.ref a] _ _ room rfl env (bind t1 (.ref a)) (.cons rfl .nil) hsp) fun r t h => ?_
  cases r with
  | error e =>
    obtain ⟨_, _, _, _, _, _, _, _, _, _, _, _, z⟩ : L2.CX P w [] T t1 (fun _ _ _ => False) e t := h
    exact z.elim
  | ok fl =>
    cases fl with
    | next => exact False.elim h
    | brk => exact False.elim h
    | cont => exact False.elim h
    | ret u =>
      obtain ⟨v, T', hos, hb, un, hok2, rv, q⟩ := h
      have q : v = .bl true := q
      subst q
      obtain rfl : u = Value.bool true := rv
      refine ⟨rfl, OldK.of_keep fun b o he => ?_, hos, hb⟩
      cases hT : T b with
      | none => exact un.keep b o he hT (fun z => by cases z) (by simp)
      | some u =>
        have hb := only b (by rw [hT]; simp)
        subst hb
        rcases froz with z | ⟨ob, xs, z⟩
        · rw [hT] at z; cases z
        · obtain ⟨e1, _⟩ := hok b _ z
          obtain ⟨e2, _⟩ := hok2 b _ (un.frzs b ob _ z)
          rw [he] at e1
          cases e1
          exact e2
theorem call_law (inK : K.In t1.heap) (nsG : t1.heap.Ns mainGlobals mg) (nsB : t1.heap.Ns builtinsNs mb) (boot : ∀ x : Str, x ≠ "__name__" → mb x = bootBuiltins x) (noL : t1.heap.NoLimit) (gens : t1.gens = #[])
    (at_ : t1.heap.get? a = some { cls := .type "list", data := .seq us.toArray }) (areI : IntsAre us ns) (few : ns.length ≤ sizeLine) (room : Room k callerA)
    (F : ∀ base : Heap, K.In base → base.Ns mainGlobals mg → FnG P w K mg base (L2.CX P w) k fa fd [x] sp) (bind : ∀ (s : Shared) (u : Value), BindsTo s fd ⟨[u], []⟩ [(x, u)])
    (hsp : ∀ T : Hp, SqL K T a (ns.map V.int) → sp [.ref a] T (fun v _ => v = .bl true) fun _ _ _ => False) :
    codeAny (model P w) callerA (.call (.ref fa) ⟨[.ref a], []⟩) (fun r t => r = .ok (.ret (.bool true)) ∧ OldK t1.heap t.heap ∧ t.os = t1.os ∧ AllBare t.gens) t1 := by
  have rel := vals_ints areI
  have ln := areI.length
  cases hk : K.lookup a with
  | some o =>
    have he := inK a o hk
    rw [at_] at he
    cases he
    refine call_from (T := fun _ => none) (fun b z => absurd rfl z) (.inl rfl) (fun b u z => by cases z) (fun z => absurd rfl z) inK nsG nsB boot noL gens at_ room F bind (hsp _ ?_)
    exact .inr ⟨_, us.toArray, _, hk, rfl, rfl, rfl, by rw [List.size_toArray, ln]; exact few, by simpa using rel⟩
  | none =>
    refine call_from (T := fun b => if b = a then some (.frz { cls := .type "list", data := .seq us.toArray } (.lst (ns.map V.int))) else none) (fun b z => ?_) (.inr ⟨_, _, if_pos rfl⟩) (fun b u z => ?_) (fun _ => hk) inK nsG nsB boot noL gens at_ room F bind (hsp _ (.inl (.inr ⟨_, if_pos rfl⟩)))
    · by_cases hb : b = a
      · exact hb
      · exact absurd (if_neg hb) z
    · by_cases hb : b = a
      · subst hb
        have z := (if_pos rfl).symm.trans z
        cases z
        exact ⟨at_, by rw [List.length_map]; exact few, us, _, rel, at_⟩
      · have z := (if_neg hb).symm.trans z
        cases z
end
/-- the walk of a law by facts of its defs -/
theorem walk_law {l : PySem.W.OpenLaw} {n k : Nat} {q : Program} {loose : List Str} {XP : (Str → Option Value) → Heap → Prop} {YP : World → Heap → Prop} {d : DefRec} {x : Str}
    (hn : l.most = some n) (hn2 : n ≤ sizeLine) (hdf : d.params.defaults = []) (room : Room k callerA)
    (F : ∀ (w : World) (mg : Str → Option Value) (fa : Addr) (h : Heap), YP w h → h.Ns mainGlobals mg → mg d.name = some (.ref fa) →
      ∃ (K : PySem.W.Frag) (fd : FuncData) (sp : List Int → Sp), K.In h ∧ (∀ (s : Shared) (u : Value), BindsTo s fd ⟨[u], []⟩ [(x, u)]) ∧
        ∀ ns : List Int, ns.length ≤ n → (∀ (T : Hp) (a : Addr), SqL K T a (ns.map V.int) → sp ns [.ref a] T (fun v _ => v = .bl true) fun _ _ _ => False) ∧
        ∀ base : Heap, K.In base → base.Ns mainGlobals mg → FnG l.prog w K mg base (L2.CX l.prog w) k fa fd [x] (sp ns)) :
    PySem.W.WalkO q loose XP YP l.row.toRowW d [] (fun f vs => PySem.call f vs) := by
  refine Att.attach_call hn hdf fun w s0 t1 mg mb fa o pm cd doc a us ns G Y ho hd hcd hmg hobj hints hlen hg => ?_
  obtain ⟨K, fd, sp, inK, bind, hF⟩ := F w mg fa _ Y G.T.g hmg
  obtain ⟨h1, h2⟩ := hF ns hlen
  exact call_law inK G.T.g G.T.b G.T.builtins G.T.nolimit hg hobj hints (Nat.le_trans hlen hn2) room h2 bind fun T hS => h1 T a hS
end TV

/-! V26: to reckon step by step: an evaluation at an environment that is there. -/
namespace TV
open PySem
section
variable {Γ : Nat → Fn} {a : Option D} {as : Env} {d : D}
@[simp] theorem gv_z : gv (some d :: as) 0 = some d := rfl
@[simp] theorem gv_n : gv (none :: as) 0 = none := rfl
@[simp] theorem gv_s {i : Nat} : gv (a :: as) (i + 1) = gv as i := rfl
/-! continuations -/
def ifK (A B : Env → Fl) : D → Env → Fl := fun x ρ => match x with
  | .bool true => A ρ
  | .bool false => B ρ
  | _ => .no
@[simp] theorem ifK_b {A B : Env → Fl} {b : Bool} {ρ : Env} : ifK A B (.bool b) ρ = if b = true then A ρ else B ρ := by cases b <;> rfl
def iteK (A B : Env → R D) : D → Env → R D := fun x ρ => match x with
  | .bool true => A ρ
  | .bool false => B ρ
  | _ => .no
@[simp] theorem iteK_b {A B : Env → R D} {b : Bool} {ρ : Env} : iteK A B (.bool b) ρ = if b = true then A ρ else B ρ := by cases b <;> rfl
def andK (B : Env → R D) : D → Env → R D := fun x ρ => match x with
  | .bool true => B ρ
  | .bool false => .ok (.bool false) ρ
  | _ => .no
@[simp] theorem andK_b {B : Env → R D} {b : Bool} {ρ : Env} : andK B (.bool b) ρ = if b = true then B ρ else .ok (.bool false) ρ := by cases b <;> rfl
def orK (B : Env → R D) : D → Env → R D := fun x ρ => match x with
  | .bool true => .ok (.bool true) ρ
  | .bool false => B ρ
  | _ => .no
@[simp] theorem orK_b {B : Env → R D} {b : Bool} {ρ : Env} : orK B (.bool b) ρ = if b = true then .ok (.bool true) ρ else B ρ := by cases b <;> rfl
def notK : D → Env → R D := fun x ρ => match x with
  | .bool b => .ok (.bool (!b)) ρ
  | _ => .no
@[simp] theorem notK_b {b : Bool} {ρ : Env} : notK (.bool b) ρ = .ok (.bool (!b)) ρ := rfl
def asgK (tg : Tg) : D → Env → Fl := fun d ρ => Fl.of (bindT tg d ρ)
@[simp] theorem asgK_v {i : Nat} {d : D} {ρ : Env} : asgK (.v i) d ρ = .nx (ρ.set i (some d)) := rfl
def b1K (f : B1) : D → Env → R D := fun d ρ => R.of (b1 f d) ρ
@[simp] theorem b1K_e {f : B1} {d : D} {ρ : Env} : b1K f d ρ = R.of (b1 f d) ρ := rfl
def b2K' (f : B2) (x : D) : D → Env → R D := fun y ρ => R.of (b2 f x y) ρ
@[simp] theorem b2K'_e {f : B2} {x y : D} {ρ : Env} : b2K' f x y ρ = R.of (b2 f x y) ρ := rfl
def b2K (f : B2) (B : Env → R D) : D → Env → R D := fun x ρ => (B ρ).bind (b2K' f x)
@[simp] theorem b2K_e {f : B2} {B : Env → R D} {x : D} {ρ : Env} : b2K f B x ρ = (B ρ).bind (b2K' f x) := rfl
def tupK : List D → Env → R D := fun ds ρ => if ds.length ≤ LIM then .ok (.tuple ds) ρ else .no
def lstK : List D → Env → R D := fun ds ρ => if ds.length ≤ LIM then .ok (.list ds) ρ else .no
def recK : List D → Env → R D := fun ds ρ => .ok (.tuple ds) ρ
@[simp] theorem tupK_e {ds : List D} {ρ : Env} : tupK ds ρ = if ds.length ≤ LIM then .ok (.tuple ds) ρ else .no := rfl
@[simp] theorem lstK_e {ds : List D} {ρ : Env} : lstK ds ρ = if ds.length ≤ LIM then .ok (.list ds) ρ else .no := rfl
@[simp] theorem recK_e {ds : List D} {ρ : Env} : recK ds ρ = .ok (.tuple ds) ρ := rfl
def consK' (d : D) : List D → Env → R (List D) := fun ds ρ => .ok (d :: ds) ρ
@[simp] theorem consK'_e {d : D} {ds : List D} {ρ : Env} : consK' d ds ρ = .ok (d :: ds) ρ := rfl
def consK (B : Env → R (List D)) : D → Env → R (List D) := fun d ρ => (B ρ).bind (consK' d)
@[simp] theorem consK_e {B : Env → R (List D)} {d : D} {ρ : Env} : consK B d ρ = (B ρ).bind (consK' d) := rfl
def starK' (xs : List D) : List D → Env → R (List D) := fun ds ρ => .ok (xs ++ ds) ρ
@[simp] theorem starK'_e {xs ds : List D} {ρ : Env} : starK' xs ds ρ = .ok (xs ++ ds) ρ := rfl
def starK (B : Env → R (List D)) : D → Env → R (List D) := fun d ρ => match itemsD d with
  | some xs => (B ρ).bind (starK' xs)
  | none => .no
@[simp] theorem starK_l {B : Env → R (List D)} {xs : List D} {ρ : Env} : starK B (.list xs) ρ = (B ρ).bind (starK' xs) := rfl
@[simp] theorem starK_t {B : Env → R (List D)} {xs : List D} {ρ : Env} : starK B (.tuple xs) ρ = (B ρ).bind (starK' xs) := rfl
def valK' (d : Ar) : List Ar → Env → R (List Ar) := fun ds ρ => .ok (d :: ds) ρ
@[simp] theorem valK'_e {d : Ar} {ds : List Ar} {ρ : Env} : valK' d ds ρ = .ok (d :: ds) ρ := rfl
def valK (B : Env → R (List Ar)) : D → Env → R (List Ar) := fun d ρ => (B ρ).bind (valK' (.val d))
@[simp] theorem valK_e {B : Env → R (List Ar)} {d : D} {ρ : Env} : valK B d ρ = (B ρ).bind (valK' (.val d)) := rfl
def callK (f : Fn) : List Ar → Env → R D := fun as ρ => callR f as ρ
@[simp] theorem callK_e {f : Fn} {as : List Ar} {ρ : Env} : callK f as ρ = callR f as ρ := rfl
def exK : D → Env → Fl := fun _ ρ => .nx ρ
@[simp] theorem exK_e {d : D} {ρ : Env} : exK d ρ = .nx ρ := rfl
def parK (is : List Nat) : List D → Env → Fl := fun ds ρ => Fl.of (bindL is ds ρ)
@[simp] theorem parK_e {is : List Nat} {ds : List D} {ρ : Env} : parK is ds ρ = Fl.of (bindL is ds ρ) := rfl
/-! steps -/
@[simp] theorem e_v {i : Nat} : evE Γ (.v i) (a :: as) = R.of (gv (a :: as) i) (a :: as) := rfl
@[simp] theorem e_mv {i : Nat} : evE Γ (.mv i) (a :: as) = mvD i (a :: as) := rfl
@[simp] theorem e_c {d : D} : evE Γ (.c d) (a :: as) = .ok d (a :: as) := rfl
@[simp] theorem e_fld {i j : Nat} {k : Str} : evE Γ (.fld i j k) (a :: as) = R.of (getPl (a :: as) (.f i j k)) (a :: as) := rfl
@[simp] theorem e_b1 {f : B1} {x : E} : evE Γ (.b1 f x) (a :: as) = (evE Γ x (a :: as)).bind (b1K f) := rfl
@[simp] theorem e_b2 {f : B2} {x y : E} : evE Γ (.b2 f x y) (a :: as) = (evE Γ x (a :: as)).bind (b2K f (evE Γ y)) := rfl
@[simp] theorem e_and {x y : E} : evE Γ (.and_ x y) (a :: as) = (evE Γ x (a :: as)).bind (andK (evE Γ y)) := rfl
@[simp] theorem e_or {x y : E} : evE Γ (.or_ x y) (a :: as) = (evE Γ x (a :: as)).bind (orK (evE Γ y)) := rfl
@[simp] theorem e_not {x : E} : evE Γ (.not_ x) (a :: as) = (evE Γ x (a :: as)).bind notK := rfl
@[simp] theorem e_ite {c x y : E} : evE Γ (.ite c x y) (a :: as) = (evE Γ c (a :: as)).bind (iteK (evE Γ x) (evE Γ y)) := rfl
@[simp] theorem e_tup {es : Es} : evE Γ (.tup es) (a :: as) = (evEs Γ es (a :: as)).bind tupK := rfl
@[simp] theorem e_lst {es : Es} : evE Γ (.lst es) (a :: as) = (evEs Γ es (a :: as)).bind lstK := rfl
@[simp] theorem e_rec {ks : List (Str × Bool)} {es : Es} : evE Γ (.rec_ ks es) (a :: as) = (evEs Γ es (a :: as)).bind recK := rfl
@[simp] theorem e_call {f : Nat} {es : As} : evE Γ (.call f es) (a :: as) = (evAs Γ es (a :: as)).bind (callK (Γ f)) := rfl
@[simp] theorem e_lcp {i : Nat} {vs : List Nat} {tg : Tg} {e : E} : evE Γ (.lcp i vs tg e) (a :: as) = lcpD i vs tg (allD (evE Γ e)) (a :: as) := rfl
@[simp] theorem e_dget {i : Nat} {x y : E} : evE Γ (.dget i x y) (a :: as) = dgetD i (evE Γ x) (evE Γ y) (a :: as) := rfl
@[simp] theorem e_dnew : evE Γ .dnew (a :: as) = .ok (.dict []) (a :: as) := rfl
@[simp] theorem e_addO {f : B2} {i : Nat} {x : E} : evE Γ (.addO f i x) (a :: as) = addOD (b2 f) i (evE Γ x) (a :: as) := rfl
@[simp] theorem e_pop {p : Pl} : evE Γ (.pop p) (a :: as) = popD p (a :: as) := rfl
@[simp] theorem es_nil : evEs Γ .nil (a :: as) = .ok [] (a :: as) := rfl
@[simp] theorem es_cons {e : E} {es : Es} : evEs Γ (.cons e es) (a :: as) = (evE Γ e (a :: as)).bind (consK (evEs Γ es)) := rfl
@[simp] theorem es_star {e : E} {es : Es} : evEs Γ (.star e es) (a :: as) = (evE Γ e (a :: as)).bind (starK (evEs Γ es)) := rfl
@[simp] theorem as_nil : evAs Γ .nil (a :: as) = .ok [] (a :: as) := rfl
@[simp] theorem as_val {e : E} {es : As} : evAs Γ (.val e es) (a :: as) = (evE Γ e (a :: as)).bind (valK (evAs Γ es)) := rfl
theorem as_io {i : Nat} {es : As} {d : D} (h : gv (a :: as) i = some d) : evAs Γ (.io i es) (a :: as) = (evAs Γ es (a :: as)).bind (valK' (.io i)) := by
  show (match gv (a :: as) i with
    | some _ => (evAs Γ es (a :: as)).bind fun ds ρ => .ok (Ar.io i :: ds) ρ
    | none => .no) = _
  rw [h]; rfl
theorem as_pk {i : Nat} {es : As} {d : D} (h : gv (a :: as) i = some d) : evAs Γ (.pk i es) (a :: as) = (evAs Γ es (a :: as)).bind (valK' (.pk i)) := by
  show (match gv (a :: as) i with
    | some _ => (evAs Γ es (a :: as)).bind fun ds ρ => .ok (Ar.pk i :: ds) ρ
    | none => .no) = _
  rw [h]; rfl
@[simp] theorem as_io0 {es : As} : evAs Γ (.io 0 es) (some d :: as) = (evAs Γ es (some d :: as)).bind (valK' (.io 0)) := rfl
@[simp] theorem as_io1 {es : As} : evAs Γ (.io 1 es) (a :: some d :: as) = (evAs Γ es (a :: some d :: as)).bind (valK' (.io 1)) := rfl
@[simp] theorem as_pk0 {es : As} : evAs Γ (.pk 0 es) (some d :: as) = (evAs Γ es (some d :: as)).bind (valK' (.pk 0)) := rfl
@[simp] theorem s_asg {tg : Tg} {e : E} : exS Γ (.asg tg e) (a :: as) = (evE Γ e (a :: as)).fl (asgK tg) := rfl
@[simp] theorem s_par {is : List Nat} {es : Es} : exS Γ (.par is es) (a :: as) = (evEs Γ es (a :: as)).fl (parK is) := rfl
@[simp] theorem s_ifs {c : E} {x y : Ss} : exS Γ (.ifs c x y) (a :: as) = (evE Γ c (a :: as)).fl (ifK (exSs Γ x) (exSs Γ y)) := rfl
@[simp] theorem s_ret {e : E} : exS Γ (.ret e) (a :: as) = (evE Γ e (a :: as)).fl .ret := rfl
@[simp] theorem s_retN : exS Γ .retN (a :: as) = .ret .none (a :: as) := rfl
@[simp] theorem s_ex {e : E} : exS Γ (.ex e) (a :: as) = (evE Γ e (a :: as)).fl exK := rfl
@[simp] theorem s_app {p : Pl} {e : E} : exS Γ (.app p e) (a :: as) = appD p (evE Γ e) (a :: as) := rfl
@[simp] theorem s_ext {p : Pl} {e : E} : exS Γ (.ext p e) (a :: as) = extD p (evE Γ e) (a :: as) := rfl
@[simp] theorem s_setF {i j : Nat} {k : Str} {e : E} : exS Γ (.setF i j k e) (a :: as) = setFD i j (evE Γ e) (a :: as) := rfl
@[simp] theorem s_dset {i : Nat} {x e : E} : exS Γ (.dset i x e) (a :: as) = dsetD i (evE Γ x) (evE Γ e) (a :: as) := rfl
@[simp] theorem s_pass : exS Γ .pass (a :: as) = .nx (a :: as) := rfl
@[simp] theorem s_brk : exS Γ .brk (a :: as) = .brk (a :: as) := rfl
@[simp] theorem s_ct : exS Γ .ct (a :: as) = .ct (a :: as) := rfl
@[simp] theorem s_stop : exS Γ .stop (a :: as) = .no := rfl
@[simp] theorem ss_nil : exSs Γ .nil (a :: as) = .nx (a :: as) := rfl
@[simp] theorem ss_cons {s : S} {ss : Ss} : exSs Γ (.cons s ss) (a :: as) = (exS Γ s (a :: as)).thn (exSs Γ ss) := rfl
/-! operations -/
@[simp] theorem o_neg {i : Int} : b1 .neg (.int i) = some (.int (-i)) := rfl
@[simp] theorem o_lenL {ds : List D} : b1 .len (.list ds) = some (.int ds.length) := rfl
@[simp] theorem o_lenT {ds : List D} : b1 .len (.tuple ds) = some (.int ds.length) := rfl
@[simp] theorem o_abs {i : Int} : b1 .abs (.int i) = some (.int (if i < 0 then -i else i)) := rfl
@[simp] theorem o_int {i : Int} : b1 .int (.int i) = some (.int i) := rfl
@[simp] theorem o_intB {b : Bool} : b1 .int (.bool b) = some (.int (if b then 1 else 0)) := rfl
@[simp] theorem o_tupL {ds : List D} : b1 .tup (.list ds) = some (.tuple ds) := rfl
@[simp] theorem o_lstT {ds : List D} : b1 .lst (.tuple ds) = some (.list ds) := rfl
@[simp] theorem o_addI {i j : Int} : b2 .add (.int i) (.int j) = some (.int (i + j)) := rfl
@[simp] theorem o_subI {i j : Int} : b2 .sub (.int i) (.int j) = some (.int (i - j)) := rfl
@[simp] theorem o_lt {i j : Int} : b2 .lt (.int i) (.int j) = some (.bool (decide (i < j))) := rfl
@[simp] theorem o_le {i j : Int} : b2 .le (.int i) (.int j) = some (.bool (decide (i ≤ j))) := rfl
@[simp] theorem o_gt {i j : Int} : b2 .gt (.int i) (.int j) = some (.bool (decide (j < i))) := rfl
@[simp] theorem o_ge {i j : Int} : b2 .ge (.int i) (.int j) = some (.bool (decide (j ≤ i))) := rfl
@[simp] theorem o_idxL {ds : List D} {i : Int} : b2 .idx (.list ds) (.int i) = atD ds i := rfl
@[simp] theorem o_idxT {ds : List D} {i : Int} : b2 .idx (.tuple ds) (.int i) = atD ds i := rfl
@[simp] theorem o_eq {x y : D} : b2 .eq x y = (eqD x y).map .bool := rfl
@[simp] theorem o_ne {x y : D} : b2 .ne x y = (eqD x y).map fun r => .bool (!r) := rfl
theorem o_mulI {i j : Int} (h : mulOk i j = true) : b2 .mul (.int i) (.int j) = some (.int (i * j)) := if_pos h
theorem o_fdiv {i j : Int} (h : 0 < j) (h2 : j < 1073741824) : b2 .fdiv (.int i) (.int j) = some (.int (i / j)) := if_pos (by rw [decide_eq_true h, decide_eq_true h2]; rfl)
theorem o_mod {i j : Int} (h : 0 < j) : b2 .mod (.int i) (.int j) = some (.int (i % j)) := if_pos h
end
end TV

/-! V27: pure data: ints, texts, None, lists and tuples of such; equality. -/
namespace TV
open PySem
mutual
/-- ints, texts, None, lists, tuples -/
def pd : D → Bool
  | .none => true
  | .int _ => true
  | .str x => PyData.strOk x
  | .list xs => pds xs
  | .tuple xs => pds xs
  | _ => false
def pds : List D → Bool
  | [] => true
  | x :: xs => pd x && pds xs
end
mutual
theorem pd_lay : ∀ {d : D}, pd d = true → d.canLay0 = true
  | .none, _ => by simp [PyData.canLay0]
  | .int _, _ => by simp [PyData.canLay0]
  | .str x, h => by simpa [PyData.canLay0, pd] using h
  | .list xs, h => by simp only [pd] at h; simp only [PyData.canLay0]; exact pds_lay h
  | .tuple xs, h => by simp only [pd] at h; simp only [PyData.canLay0]; exact pds_lay h
  | .bool _, h => by simp [pd] at h
  | .dict _, h => by simp [pd] at h
theorem pds_lay : ∀ {ds : List D}, pds ds = true → PyData.canLayAll0 ds = true
  | [], _ => by simp [PyData.canLayAll0]
  | x :: xs, h => by
    simp only [pds, Bool.and_eq_true] at h
    simp only [PyData.canLayAll0, Bool.and_eq_true]
    exact ⟨pd_lay h.1, pds_lay h.2⟩
end
mutual
theorem eqv_iff : ∀ {a b : D}, pd a = true → pd b = true → (PyData.eqv a b = true ↔ a = b)
  | .none, b, _, hb => by cases b <;> simp_all [PyData.eqv, pd]
  | .int i, b, _, hb => by cases b <;> simp_all [PyData.eqv, pd]
  | .str x, b, _, hb => by cases b <;> simp_all [PyData.eqv, pd]
  | .list xs, b, ha, hb => by
    cases b with
    | list ys =>
      simp only [pd] at ha hb
      simp only [PyData.eqv, PyData.list.injEq]
      exact eqvs_iff ha hb
    | _ => simp_all [PyData.eqv, pd]
  | .tuple xs, b, ha, hb => by
    cases b with
    | tuple ys =>
      simp only [pd] at ha hb
      simp only [PyData.eqv, PyData.tuple.injEq]
      exact eqvs_iff ha hb
    | _ => simp_all [PyData.eqv, pd]
  | .bool _, _, h, _ => by simp [pd] at h
  | .dict _, _, h, _ => by simp [pd] at h
theorem eqvs_iff : ∀ {as bs : List D}, pds as = true → pds bs = true → (PyData.eqvAll as bs = true ↔ as = bs)
  | [], [], _, _ => by simp [PyData.eqvAll]
  | [], _ :: _, _, _ => by simp [PyData.eqvAll]
  | _ :: _, [], _, _ => by simp [PyData.eqvAll]
  | a :: as, b :: bs, ha, hb => by
    simp only [pds, Bool.and_eq_true] at ha hb
    simp only [PyData.eqvAll, Bool.and_eq_true, List.cons.injEq]
    exact and_congr (eqv_iff ha.1 hb.1) (eqvs_iff ha.2 hb.2)
end
/-- .. so that == tells whether they are the same -/
theorem eqD_pd {a b : D} (ha : pd a = true) (hb : pd b = true) (da : a.depth ≤ 64) (db : b.depth ≤ 64) : ∃ r, eqD a b = some r ∧ (r = true ↔ a = b) := by
  refine ⟨PyData.eqv a b, ?_, eqv_iff ha hb⟩
  unfold eqD shaped SeqAt.shaped
  rw [pd_lay ha, pd_lay hb, decide_eq_true da, decide_eq_true db]
  rfl
theorem eqD_yes {a b : D} (ha : pd a = true) (da : a.depth ≤ 64) (e : a = b) : eqD a b = some true := by
  subst e
  obtain ⟨r, h1, h2⟩ := eqD_pd ha ha da da
  rw [h1, h2.mpr rfl]
theorem eqD_no {a b : D} (ha : pd a = true) (hb : pd b = true) (da : a.depth ≤ 64) (db : b.depth ≤ 64) (e : a ≠ b) : eqD a b = some false := by
  obtain ⟨r, h1, h2⟩ := eqD_pd ha hb da db
  cases r with
  | true => exact absurd (h2.mp rfl) e
  | false => exact h1
end TV

/-! V28: loops by invariants. -/
namespace TV
open PySem
theorem forF_inv {body : D → Env → Fl} (I : List D → Env → Prop) (step : ∀ d ds ρ, I (d :: ds) ρ → ∃ ρ', (body d ρ = .nx ρ' ∨ body d ρ = .ct ρ') ∧ I ds ρ') : ∀ ds ρ, I ds ρ → ∃ ρ', forF body ds ρ = .nx ρ' ∧ I [] ρ'
  | [], ρ, h => ⟨ρ, rfl, h⟩
  | d :: ds, ρ, h => by
    obtain ⟨ρ1, h1, h2⟩ := step d ds ρ h
    obtain ⟨ρ2, h3, h4⟩ := forF_inv I step ds ρ1 h2
    refine ⟨ρ2, ?_, h4⟩
    rcases h1 with h1 | h1 <;> simp [forF, h1, h3]
/-- a loop that may end by a return: all turns go on, or the first that does not returns -/
theorem forF_ret {body : D → Env → Fl} (I : List D → Env → Prop) (Rt : D → Env → Prop) (step : ∀ d ds ρ, I (d :: ds) ρ → (∃ ρ', (body d ρ = .nx ρ' ∨ body d ρ = .ct ρ') ∧ I ds ρ') ∨ ∃ v ρ', body d ρ = .ret v ρ' ∧ Rt v ρ') :
    ∀ ds ρ, I ds ρ → (∃ ρ', forF body ds ρ = .nx ρ' ∧ I [] ρ') ∨ ∃ v ρ', forF body ds ρ = .ret v ρ' ∧ Rt v ρ'
  | [], ρ, h => .inl ⟨ρ, rfl, h⟩
  | d :: ds, ρ, h => by
    rcases step d ds ρ h with ⟨ρ1, h1, h2⟩ | ⟨v, ρ1, h1, h2⟩
    · rcases forF_ret I Rt step ds ρ1 h2 with ⟨ρ2, h3, h4⟩ | ⟨v, ρ2, h3, h4⟩
      · exact .inl ⟨ρ2, by rcases h1 with h1 | h1 <;> simp [forF, h1, h3], h4⟩
      · exact .inr ⟨v, ρ2, by rcases h1 with h1 | h1 <;> simp [forF, h1, h3], h4⟩
    · exact .inr ⟨v, ρ1, by simp [forF, h1], h2⟩
/-- a comprehension's turns: an invariant, and what each turn gives -/
theorem lcF_inv {body : D → Env → R (Option D)} (I : Env → Prop) (Q : D → Option D → Prop) : ∀ ds ρ, (∀ d ∈ ds, ∀ ρ, I ρ → ∃ o ρ', body d ρ = .ok o ρ' ∧ I ρ' ∧ Q d o) → I ρ →
    ∃ os ρ', lcF body ds ρ = .ok (os.filterMap id) ρ' ∧ I ρ' ∧ os.length = ds.length ∧ ∀ p ∈ ds.zip os, Q p.1 p.2
  | [], ρ, _, h => ⟨[], ρ, rfl, h, rfl, fun _ hp => by cases hp⟩
  | d :: ds, ρ, step, h => by
    obtain ⟨o, ρ1, h1, h2, h3⟩ := step d List.mem_cons_self ρ h
    obtain ⟨os, ρ2, h4, h5, h6, h7⟩ := lcF_inv I Q ds ρ1 (fun d hd => step d (List.mem_cons_of_mem _ hd)) h2
    refine ⟨o :: os, ρ2, ?_, h5, by simp [h6], fun p hp => ?_⟩
    · simp only [lcF, h1, R.bind_ok, h4]
      cases o <;> rfl
    · rw [List.zip_cons_cons] at hp
      rcases List.mem_cons.mp hp with e | hp
      · subst e; exact h3
      · exact h7 p hp
/-- .. where each turn gives a value that hangs on the item alone, the environment kept -/
theorem lcF_map {body : D → Env → R (Option D)} {f : D → D} {ρ : Env} : ∀ ds, (∀ d ∈ ds, body d ρ = .ok (some (f d)) ρ) → lcF body ds ρ = .ok (ds.map f) ρ
  | [], _ => rfl
  | d :: ds, h => by
    have ih := lcF_map (f := f) ds fun x hx => h x (List.mem_cons_of_mem _ hx)
    simp only [lcF, h d List.mem_cons_self, R.bind_ok, ih, List.map_cons]
section
variable {Γ : Nat → Fn} {a : Option D} {as : Env} {d : D}
def seqK : D → Env → R (List D) := fun d ρ => R.of (itemsD d) ρ
@[simp] theorem seqK_l {ds : List D} {ρ : Env} : seqK (.list ds) ρ = .ok ds ρ := rfl
@[simp] theorem seqK_t {ds : List D} {ρ : Env} : seqK (.tuple ds) ρ = .ok ds ρ := rfl
@[simp] theorem w_seq {e : E} : evW Γ (.seq e) (a :: as) = (evE Γ e (a :: as)).bind seqK := rfl
def enumK : D → Env → R (List D) := fun d ρ => R.of ((itemsD d).map enumD) ρ
@[simp] theorem enumK_l {ds : List D} {ρ : Env} : enumK (.list ds) ρ = .ok (enumD ds) ρ := rfl
@[simp] theorem enumK_t {ds : List D} {ρ : Env} : enumK (.tuple ds) ρ = .ok (enumD ds) ρ := rfl
@[simp] theorem w_enum {e : E} : evW Γ (.enum e) (a :: as) = (evE Γ e (a :: as)).bind enumK := rfl
def rng1K : D → Env → R (List D) := fun d ρ => match d with
  | .int n => if n ≤ LIM && decide (-LIM ≤ n) then .ok (rngD 0 n) ρ else .no
  | _ => .no
theorem rng1K_i {n : Int} {ρ : Env} (h : n ≤ LIM) (h2 : -LIM ≤ n) : rng1K (.int n) ρ = .ok (rngD 0 n) ρ := if_pos (by rw [decide_eq_true h, decide_eq_true h2]; rfl)
@[simp] theorem w_rng1 {e : E} : evW Γ (.rng1 e) (a :: as) = (evE Γ e (a :: as)).bind rng1K := rfl
def zipK' (x : D) : D → Env → R (List D) := fun y ρ => match x, y with
  | .list as, .list bs => .ok (zipD as bs) ρ
  | .tuple as, .tuple bs => .ok (zipD as bs) ρ
  | _, _ => .no
@[simp] theorem zipK'_l {xs ys : List D} {ρ : Env} : zipK' (.list xs) (.list ys) ρ = .ok (zipD xs ys) ρ := rfl
@[simp] theorem zipK'_t {xs ys : List D} {ρ : Env} : zipK' (.tuple xs) (.tuple ys) ρ = .ok (zipD xs ys) ρ := rfl
def zipK (B : Env → R D) : D → Env → R (List D) := fun x ρ => (B ρ).bind (zipK' x)
@[simp] theorem zipK_e {B : Env → R D} {x : D} {ρ : Env} : zipK B x ρ = (B ρ).bind (zipK' x) := rfl
@[simp] theorem w_zip {e f : E} : evW Γ (.zip e f) (a :: as) = (evE Γ e (a :: as)).bind (zipK (evE Γ f)) := rfl
def forK (tg : Tg) (b : Env → Fl) : List D → Env → Fl := fun ds ρ => forF (forT tg b) ds ρ
@[simp] theorem s_for {w : W} {tg : Tg} {b : Ss} : exS Γ (.for_ w tg b) (a :: as) = (evW Γ w (a :: as)).fl (forK tg (exSs Γ b)) := rfl
@[simp] theorem forK_e {tg : Tg} {b : Env → Fl} {ds : List D} {ρ : Env} : forK tg b ds ρ = forF (forT tg b) ds ρ := rfl
@[simp] theorem forT_v {i : Nat} {b : Env → Fl} {d : D} {ρ : Env} : forT (.v i) b d ρ = b (ρ.set i (some d)) := rfl
@[simp] theorem e_lc {vs : List Nat} {w : W} {tg : Tg} {e : E} : evE Γ (.lc vs w tg e) (a :: as) = lcD vs tg (evW Γ w) (allD (evE Γ e)) (a :: as) := rfl
@[simp] theorem e_lci {vs : List Nat} {w : W} {tg : Tg} {c e : E} : evE Γ (.lci vs w tg c e) (a :: as) = lcD vs tg (evW Γ w) (ifD (evE Γ c) (evE Γ e)) (a :: as) := rfl
@[simp] theorem o_slUL' {ds : List D} {i : Int} : b2 .slU (.list ds) (.int i) = some (.list (TV.cutD ds none (some i))) := rfl
@[simp] theorem o_slUT' {ds : List D} {i : Int} : b2 .slU (.tuple ds) (.int i) = some (.tuple (TV.cutD ds none (some i))) := rfl
theorem cut_n {ds : List D} {n : Nat} : TV.cutD ds none (some (n : Int)) = ds.take n := by
  unfold TV.cutD
  rw [HT.sIx_nat, HT.sIx_none, List.drop_zero, Nat.sub_zero]
  rcases Nat.le_total n ds.length with h | h
  · rw [Nat.min_eq_left h]
  · rw [Nat.min_eq_right h, List.take_of_length_le (Nat.le_refl _), List.take_of_length_le h]
theorem o_zipL {x y : D} : b2 .zipL x y = zipLD x y := by cases x <;> cases y <;> rfl
theorem o_mulL {xs : List D} {k : Int} (h0 : 0 ≤ k) (h1 : k ≤ LIM) (h2 : xs.length * k.toNat ≤ LIM) : b2 .mulL (.list xs) (.int k) = some (.list (List.replicate k.toNat xs).flatten) := by
  simp only [b2, decide_eq_true h0, decide_eq_true h1, decide_eq_true h2, Bool.and_self, if_true]
theorem o_addL {xs ys : List D} (h : xs.length + ys.length ≤ LIM) : b2 .addL (.list xs) (.list ys) = some (.list (xs ++ ys)) := if_pos h
theorem o_addS {xs ys : List D} (h : xs.length + ys.length ≤ LIM) : b2 .add (.list xs) (.list ys) = some (.list (xs ++ ys)) := if_pos h
theorem o_addT {xs ys : List D} (h : xs.length + ys.length ≤ LIM) : b2 .add (.tuple xs) (.tuple ys) = some (.tuple (xs ++ ys)) := if_pos h
end
end TV

/-! V29: keywords' binding of a def without defaults. -/
namespace TV
open PySem PySem.Spec PyProof.Rows L2
theorem kbd_of {K : PySem.W.Frag} {x qual : Str} {params : Arguments} {body : List Stmt} {scope : Scope} {kws : List (Str × V)} {f : Addr} {fd : FuncData} {pn : List Str} {kp : KPat} (F : FunD K x qual params body scope [] kws f fd)
    (h : ∀ (kV doc pm : Value) (an : Option Addr) (cdv ct : Value) (us ws : List Value), us.length = kp.n → ws.length = kp.ks.length → bindArgs (PySem.W.fnOf x qual params body scope .none kV doc pm an cdv ct) ⟨us, kp.ks.zip ws⟩ = pure (pn.zip (kp.perm.map fun j => (us ++ ws).getD j .none))) : KBd K fd pn kp := fun s us ws _ h1 h2 => by
  obtain ⟨oc, od, dV, kV, doc, pm, an, cdv, ct, osl, rfl, lk, hcd, hD, hK⟩ := F.ex
  rcases hD with ⟨_, rfl⟩ | ⟨e, _⟩
  · exact .of_eq (h kV doc pm an cdv ct us ws h1 h2)
  · exact absurd rfl e
theorem kb_nil {K : PySem.W.Frag} {fd : FuncData} {pn : List Str} : ∀ kp ∈ ([] : List KPat), KBd K fd pn kp := fun _ h => by cases h
theorem kb_cons {K : PySem.W.Frag} {fd : FuncData} {pn : List Str} {kp : KPat} {ks : List KPat} (h : KBd K fd pn kp) (t : ∀ kp ∈ ks, KBd K fd pn kp) : ∀ k ∈ kp :: ks, KBd K fd pn k := fun k hk => by
  rcases List.mem_cons.mp hk with e | hk
  · exact e ▸ h
  · exact t k hk
theorem all_nil {α : Type} {p : α → Prop} : ∀ x ∈ ([] : List α), p x := fun _ h => by cases h
theorem all_cons {α : Type} {p : α → Prop} {x : α} {xs : List α} (h : p x) (t : ∀ y ∈ xs, p y) : ∀ y ∈ x :: xs, p y := fun y hy => by
  rcases List.mem_cons.mp hy with e | hy
  · exact e ▸ h
  · exact t y hy
section
variable {P : Program} {w : World} {K : PySem.W.Frag} {mg : Str → Option Value} {base : Heap} {EX : D → Value → Option Addr → Hp → Hp → Prop} {l : List Df} {Bn : List BN}
theorem law_fn2 {i : Nat} {d : Df} {fa : Addr} {fd : FuncData} (h : ∀ d ∈ l, ∃ f fd, DfOk K mg l Bn d f fd) (free : ∀ b ∈ Bn, Fr mg b) (hd : l[i]? = some d) (q : DfOk K mg l Bn d fa fd) (k : Nat) :
    FnG P w K mg base (L2.CX P w) (k + 1) fa fd d.pn (spOf K EX ⟨d.nm, d.ps, d.ret, Gam l (k + 1) i⟩) := by
  obtain ⟨⟨name, qual, params, stmts, scope, dvs, kws, F, ok⟩, hm, hb, kb⟩ := q
  have e : Gam l (k + 1) i = d.sem (Gam l k) := by simp only [Gam, hd]
  rw [e]
  exact fnG_of F ok free (tower h free k)
end
end TV

namespace Tx
open PySem PySem.Spec PyProof.Rows L2 TV
def top (i : Nat) : Stmt := PySem.Challenge.pw_tornreads_k68_whole_paths_of_readers.main.body.getD i (.Pass ⟨0, 0, 0, 0⟩)
def b0_paths_on : TV.Ss := .cons (.ext (.v 3) (.call 0 (.val (.tup (.star (.v 0) (.cons (.b2 .idx (.v 2) (.c (.int 1))) (.nil)))) (.val (.tup (.star (.v 1) (.cons (.v 4) (.nil)))) (.val (.v 5) (.nil)))))) (.nil)
def f_paths_on : Df := ⟨"paths_on", ["looks", "word", "node"], [.s, .s, .s], .s, ["looks", "word", "node", "found", "sight", "below"], [.s, .s, .s, .l .s, .s, .s], [], .cons (.ifs (.b2 .ne (.b2 .idx (.v 2) (.c (.int 0))) (.c (.str "look"))) (.cons (.ret (.lst (.cons (.tup (.cons (.v 0) (.cons (.v 1) (.cons (.v 2) (.nil))))) (.nil)))) (.nil)) (.nil)) (.cons (.asg (.v 3) (.lst (.nil))) (.cons (.for_ (.seq (.b2 .idx (.v 2) (.c (.int 2)))) (.t (.cons (.v 4) (.cons (.v 5) (.nil)))) b0_paths_on) (.cons (.ret (.mv 3)) (.nil))))⟩
abbrev i_paths_on : Nat := 0
def f_paths_of : Df := ⟨"paths_of", ["reader"], [.s], .s, ["reader"], [.s], [⟨0, ["reader"], [0]⟩], .cons (.ret (.b1 .tup (.call 0 (.val (.tup (.nil)) (.val (.tup (.nil)) (.val (.v 0) (.nil))))))) (.nil)⟩
abbrev i_paths_of : Nat := 1
def b0__law_deck : TV.Ss := .cons (.asg (.v 3) (.b1 .abs (.v 2))) (.cons (.ifs (.b2 .ge (.v 3) (.b2 .pow (.c (.int 10)) (.c (.int 18)))) (.cons (.setF 1 0 "deep" (.b2 .addL (.lst (.cons (.v 3) (.nil))) (.fld 1 0 "deep"))) (.nil)) (.nil)) (.cons (.asg (.v 4) (.b2 .add (.b2 .mul (.b2 .add (.b2 .add (.b2 .add (.fld 1 1 "state") (.b2 .mul (.c (.int 2)) (.v 3))) (.b1 .int (.b2 .lt (.v 2) (.c (.int 0))))) (.c (.int 1))) (.c (.int 1181783497276652981))) (.c (.int 521288629)))) (.cons (.setF 1 1 "state" (.b2 .mod (.b1 .int (.v 4)) (.c (.int 2305843009213693951)))) (.nil))))
def f__law_deck : Df := ⟨"_law_deck", ["script"], [.z], .r [("deep", true), ("state", false)], ["script", "deck", "cell", "whole", "state"], [.z, .r [("deep", true), ("state", false)], .s, .s, .s], [], .cons (.asg (.v 1) (.rec_ [("deep", true), ("state", false)] (.cons (.lst (.nil)) (.cons (.b2 .add (.c (.int 3068)) (.b1 .len (.b2 .slU (.v 0) (.c (.int 63))))) (.nil))))) (.cons (.for_ (.seq (.b2 .slU (.v 0) (.c (.int 63)))) (.v 2) b0__law_deck) (.cons (.ret (.mv 1)) (.nil)))⟩
abbrev i__law_deck : Nat := 2
def f__law_draw : Df := ⟨"_law_draw", ["deck", "many"], [.r [("deep", true), ("state", false)], .s], .s, ["deck", "many", "one", "two", "whole"], [.r [("deep", true), ("state", false)], .s, .s, .s, .s], [], .cons (.ifs (.b2 .lt (.v 1) (.c (.int 2))) (.cons (.ret (.c (.int 0))) (.nil)) (.nil)) (.cons (.ifs (.b2 .ne (.fld 0 0 "deep") (.lst (.nil))) (.cons (.asg (.v 4) (.pop (.f 0 0 "deep"))) (.cons (.ifs (.b2 .ge (.v 4) (.v 1)) (.cons (.app (.f 0 0 "deep") (.b2 .fdiv (.v 4) (.v 1))) (.nil)) (.nil)) (.cons (.ret (.b2 .mod (.b1 .int (.v 4)) (.v 1))) (.nil)))) (.nil)) (.cons (.asg (.v 2) (.b2 .mod (.b1 .int (.b2 .add (.b2 .mul (.fld 0 1 "state") (.c (.int 1181783497276652981))) (.c (.int 88172645463325)))) (.c (.int 2305843009213693951)))) (.cons (.setF 0 1 "state" (.v 2)) (.cons (.asg (.v 3) (.b2 .mod (.b1 .int (.b2 .add (.b2 .add (.b2 .mul (.v 2) (.v 2)) (.b2 .mul (.c (.int 374761393)) (.v 2))) (.c (.int 11)))) (.c (.int 2305843009213693921)))) (.cons (.ret (.b2 .mod (.b1 .int (.b2 .fdiv (.v 3) (.c (.int 1048576)))) (.v 1))) (.nil))))))⟩
abbrev i__law_draw : Nat := 3
def f__law_pick : Df := ⟨"_law_pick", ["deck", "items"], [.r [("deep", true), ("state", false)], .s], .s, ["deck", "items"], [.r [("deep", true), ("state", false)], .s], [], .cons (.ret (.b2 .idx (.v 1) (.call 3 (.io 0 (.val (.b1 .len (.v 1)) (.nil)))))) (.nil)⟩
abbrev i__law_pick : Nat := 4
def b0__law_table : TV.Ss := .cons (.asg (.v 7) (.b2 .add (.v 7) (.call 4 (.io 0 (.val (.lst (.cons (.c (.int 0)) (.cons (.c (.int 1)) (.cons (.c (.int 1)) (.cons (.c (.int 2)) (.cons (.c (.int 10)) (.nil))))))) (.nil)))))) (.cons (.app (.v 8) (.v 7)) (.nil))
def e0__law_table : TV.E := .call 4 (.io 0 (.val (.v 2) (.nil)))
def e1__law_table : TV.E := .b1 .tup (.lc [9] (.rng1 (.v 5)) (.v 9) e0__law_table)
def f__law_table : Df := ⟨"_law_table", ["deck", "most"], [.r [("deep", true), ("state", false)], .s], .s, ["deck", "most", "signs", "words", "state", "cells", "many", "value", "values", "cell"], [.r [("deep", true), ("state", false)], .s, .s, .s, .s, .s, .s, .s, .l .s, .s], [], .cons (.asg (.t (.cons (.v 5) (.cons (.v 6) (.nil)))) (.tup (.cons (.call 4 (.io 0 (.val (.lst (.cons (.c (.int 1)) (.cons (.c (.int 2)) (.cons (.c (.int 2)) (.cons (.c (.int 2)) (.cons (.c (.int 3)) (.nil))))))) (.nil)))) (.cons (.b2 .add (.c (.int 2)) (.call 3 (.io 0 (.val (.b2 .sub (.v 1) (.c (.int 1))) (.nil))))) (.nil))))) (.cons (.asg (.v 2) (.call 4 (.io 0 (.val (.lst (.cons (.lst (.cons (.c (.int 0)) (.cons (.c (.int 1)) (.nil)))) (.cons (.lst (.cons (.c (.int 0)) (.cons (.c (.int 1)) (.nil)))) (.cons (.lst (.cons (.c (.int 0)) (.cons (.c (.int 1)) (.cons (.c (.int 2)) (.nil))))) (.cons (.lst (.cons (.c (.int 0)) (.cons (.c (.int 5)) (.cons (.c (.int 199)) (.nil))))) (.nil)))))) (.nil))))) (.cons (.asg (.v 3) (.b1 .tup (.lc [4] (.rng1 (.v 6)) (.v 4) e1__law_table))) (.cons (.ifs (.b2 .eq (.call 3 (.io 0 (.val (.c (.int 3)) (.nil)))) (.c (.int 0))) (.cons (.ret (.tup (.cons (.v 3) (.cons (.b1 .tup (.b1 .lRng (.v 6))) (.nil))))) (.nil)) (.nil)) (.cons (.par [7, 8] (.cons (.call 4 (.io 0 (.val (.lst (.cons (.c (.int 0)) (.cons (.b1 .neg (.c (.int 3))) (.cons (.c (.int 7)) (.cons (.b1 .neg (.b2 .pow (.c (.int 10)) (.c (.int 12)))) (.nil)))))) (.nil)))) (.cons (.lst (.nil)) (.nil)))) (.cons (.for_ (.rng1 (.v 6)) (.v 4) b0__law_table) (.cons (.ret (.tup (.cons (.v 3) (.cons (.b1 .tup (.v 8)) (.nil))))) (.nil)))))))⟩
abbrev i__law_table : Nat := 5
def c0__law_lot : TV.E := .b2 .eq (.call 3 (.io 0 (.val (.c (.int 3)) (.nil)))) (.c (.int 0))
def e0__law_lot : TV.E := .v 3
def f__law_lot : Df := ⟨"_law_lot", ["deck", "cells"], [.r [("deep", true), ("state", false)], .s], .s, ["deck", "cells", "found", "cell"], [.r [("deep", true), ("state", false)], .s, .s, .s], [], .cons (.asg (.v 2) (.lci [3] (.rng1 (.v 1)) (.v 3) c0__law_lot e0__law_lot)) (.cons (.ret (.ite (.b2 .ne (.v 2) (.lst (.nil))) (.b1 .tup (.v 2)) (.tup (.cons (.call 3 (.io 0 (.val (.v 1) (.nil)))) (.nil))))) (.nil))⟩
abbrev i__law_lot : Nat := 6
def e0__law_shown : TV.E := .b2 .idx (.b2 .idx (.b2 .idx (.v 0) (.c (.int 0))) (.v 2)) (.v 3)
def f__law_shown : Df := ⟨"_law_shown", ["table", "lot", "state"], [.s, .s, .s], .s, ["table", "lot", "state", "cell"], [.s, .s, .s, .s], [], .cons (.ret (.b1 .tup (.lc [3] (.seq (.v 1)) (.v 3) e0__law_shown))) (.nil)⟩
abbrev i__law_shown : Nat := 7
def f__law_leaf : Df := ⟨"_law_leaf", ["deck", "table"], [.r [("deep", true), ("state", false)], .s], .s, ["deck", "table"], [.r [("deep", true), ("state", false)], .s], [], .cons (.ifs (.b2 .eq (.call 3 (.io 0 (.val (.c (.int 5)) (.nil)))) (.c (.int 0))) (.cons (.ret (.tup (.cons (.c (.str "again")) (.nil)))) (.nil)) (.nil)) (.cons (.ret (.tup (.cons (.c (.str "tell")) (.cons (.b2 .max2 (.b1 .neg (.b2 .pow (.c (.int 10)) (.c (.int 12)))) (.b2 .add (.call 4 (.io 0 (.val (.b2 .idx (.v 1) (.c (.int 1))) (.nil)))) (.call 4 (.io 0 (.val (.lst (.cons (.c (.int 0)) (.cons (.c (.int 0)) (.cons (.c (.int 0)) (.cons (.c (.int 0)) (.cons (.c (.int 1)) (.cons (.b1 .neg (.c (.int 1))) (.nil)))))))) (.nil)))))) (.nil))))) (.nil))⟩
abbrev i__law_leaf : Nat := 8
def b0__law_node : TV.Ss := .cons (.ifs (.b2 .gt (.call 3 (.io 0 (.val (.c (.int 7)) (.nil)))) (.c (.int 0))) (.cons (.asg (.v 7) (.or_ (.b2 .lt (.v 2) (.c (.int 2))) (.b2 .eq (.call 3 (.io 0 (.val (.c (.int 3)) (.nil)))) (.c (.int 0))))) (.cons (.app (.v 5) (.tup (.cons (.v 6) (.cons (.ite (.v 7) (.call 8 (.io 0 (.val (.v 1) (.nil)))) (.call 9 (.io 0 (.val (.v 1) (.val (.b2 .sub (.v 2) (.c (.int 1))) (.nil)))))) (.nil))))) (.nil))) (.nil)) (.nil)
def e0__law_node : TV.E := .call 7 (.val (.v 1) (.val (.v 3) (.val (.v 8) (.nil))))
def f__law_node : Df := ⟨"_law_node", ["deck", "table", "depth"], [.r [("deep", true), ("state", false)], .s, .s], .s, ["deck", "table", "depth", "lot", "seen", "branches", "sight", "is_leaf", "state"], [.r [("deep", true), ("state", false)], .s, .s, .s, .s, .l .s, .s, .s, .s], [], .cons (.asg (.v 3) (.call 6 (.io 0 (.val (.b1 .len (.b2 .idx (.b2 .idx (.v 1) (.c (.int 0))) (.c (.int 0)))) (.nil))))) (.cons (.asg (.v 4) (.b2 .slU (.b1 .setT (.lc [8] (.rng1 (.b1 .len (.b2 .idx (.v 1) (.c (.int 0))))) (.v 8) e0__law_node)) (.c (.int 3)))) (.cons (.ifs (.b2 .eq (.call 3 (.io 0 (.val (.c (.int 6)) (.nil)))) (.c (.int 0))) (.cons (.asg (.v 4) (.b1 .setT (.b2 .add (.v 4) (.lst (.cons (.b2 .mul (.tup (.cons (.call 4 (.io 0 (.val (.lst (.cons (.c (.int 0)) (.cons (.c (.int 3)) (.cons (.c (.int 199)) (.nil))))) (.nil)))) (.nil))) (.b1 .len (.v 3))) (.nil)))))) (.nil)) (.nil)) (.cons (.asg (.v 5) (.lst (.nil))) (.cons (.for_ (.seq (.v 4)) (.v 6) b0__law_node) (.cons (.ret (.tup (.cons (.c (.str "look")) (.cons (.v 3) (.cons (.b1 .tup (.v 5)) (.nil)))))) (.nil))))))⟩
abbrev i__law_node : Nat := 9
def e0__law_count : TV.E := .call 10 (.val (.b2 .idx (.v 1) (.c (.int 1))) (.nil))
def f__law_count : Df := ⟨"_law_count", ["node"], [.s], .s, ["node", "pair"], [.s, .s], [], .cons (.ret (.ite (.b2 .eq (.b2 .idx (.v 0) (.c (.int 0))) (.c (.str "look"))) (.b2 .add (.c (.int 1)) (.b1 .sum (.lc [1] (.seq (.b2 .idx (.v 0) (.c (.int 2)))) (.v 1) e0__law_count))) (.c (.int 1)))) (.nil)⟩
abbrev i__law_count : Nat := 10
def f__law_reader : Df := ⟨"_law_reader", ["deck", "table", "depth"], [.r [("deep", true), ("state", false)], .s, .s], .s, ["deck", "table", "depth", "node"], [.r [("deep", true), ("state", false)], .s, .s, .s], [], .cons (.asg (.v 3) (.call 9 (.io 0 (.val (.v 1) (.val (.v 2) (.nil)))))) (.cons (.ret (.ite (.b2 .lt (.call 10 (.val (.v 3) (.nil))) (.c (.int 61))) (.v 3) (.call 9 (.io 0 (.val (.v 1) (.val (.c (.int 2)) (.nil))))))) (.nil))⟩
abbrev i__law_reader : Nat := 11
def b0__law_paths : TV.Ss := .cons (.asg (.v 3) (.b2 .add (.v 3) (.call 12 (.val (.v 5) (.val (.b2 .add (.v 1) (.tup (.cons (.b2 .idx (.v 0) (.c (.int 1))) (.nil)))) (.val (.b2 .add (.v 2) (.tup (.cons (.v 4) (.nil)))) (.nil))))))) (.nil)
def f__law_paths : Df := ⟨"_law_paths", ["node", "looks", "word"], [.s, .s, .s], .s, ["node", "looks", "word", "found", "sight", "other"], [.s, .s, .s, .s, .s, .s], [], .cons (.ifs (.b2 .ne (.b2 .idx (.v 0) (.c (.int 0))) (.c (.str "look"))) (.cons (.ret (.lst (.cons (.tup (.cons (.v 1) (.cons (.v 2) (.cons (.v 0) (.nil))))) (.nil)))) (.nil)) (.nil)) (.cons (.asg (.v 3) (.lst (.nil))) (.cons (.for_ (.seq (.b2 .idx (.v 0) (.c (.int 2)))) (.t (.cons (.v 4) (.cons (.v 5) (.nil)))) b0__law_paths) (.cons (.ret (.v 3)) (.nil))))⟩
abbrev i__law_paths : Nat := 12
def b0__law_far : TV.Ss := .cons (.asg (.v 1) (.tup (.cons (.c (.str "look")) (.cons (.tup (.cons (.c (.int 0)) (.nil))) (.cons (.tup (.cons (.tup (.cons (.tup (.cons (.v 2) (.nil))) (.cons (.tup (.cons (.c (.str "tell")) (.cons (.v 2) (.nil)))) (.nil)))) (.cons (.tup (.cons (.tup (.cons (.b2 .add (.v 2) (.c (.int 1))) (.nil))) (.cons (.v 1) (.nil)))) (.cons (.tup (.cons (.tup (.cons (.b2 .add (.v 2) (.c (.int 9))) (.nil))) (.cons (.tup (.cons (.c (.str "again")) (.nil))) (.nil)))) (.nil))))) (.nil)))))) (.nil)
def b1__law_far : TV.Ss := .cons (.app (.v 3) (.tup (.cons (.tup (.cons (.v 4) (.nil))) (.cons (.call 4 (.io 0 (.val (.lst (.cons (.tup (.cons (.c (.str "again")) (.nil))) (.cons (.tup (.cons (.c (.str "tell")) (.cons (.v 4) (.nil)))) (.cons (.tup (.cons (.c (.str "tell")) (.cons (.b1 .neg (.v 4)) (.nil)))) (.nil))))) (.nil)))) (.nil))))) (.nil)
def f__law_far : Df := ⟨"_law_far", ["deck"], [.r [("deep", true), ("state", false)]], .s, ["deck", "node", "turn", "wide", "own"], [.r [("deep", true), ("state", false)], .s, .s, .l .s, .s], [], .cons (.ifs (.b2 .eq (.call 3 (.io 0 (.val (.c (.int 2)) (.nil)))) (.c (.int 0))) (.cons (.asg (.v 3) (.lst (.nil))) (.cons (.for_ (.rng1 (.call 4 (.io 0 (.val (.lst (.cons (.c (.int 1)) (.cons (.c (.int 30)) (.cons (.c (.int 59)) (.nil))))) (.nil))))) (.v 4) b1__law_far) (.cons (.ret (.tup (.cons (.c (.str "look")) (.cons (.tup (.cons (.c (.int 0)) (.nil))) (.cons (.b1 .tup (.v 3)) (.nil)))))) (.nil)))) (.nil)) (.cons (.asg (.v 1) (.call 4 (.io 0 (.val (.lst (.cons (.tup (.cons (.c (.str "again")) (.nil))) (.cons (.tup (.cons (.c (.str "tell")) (.cons (.c (.int 5)) (.nil)))) (.cons (.tup (.cons (.c (.str "look")) (.cons (.tup (.cons (.c (.int 0)) (.nil))) (.cons (.tup (.nil)) (.nil))))) (.nil))))) (.nil))))) (.cons (.for_ (.rng1 (.c (.int 7))) (.v 2) b0__law_far) (.cons (.ret (.v 1)) (.nil))))⟩
abbrev i__law_far : Nat := 13
def e0_law : TV.E := .tup (.cons (.v 8) (.cons (.v 9) (.nil)))
def b0_law : TV.Ss := .cons (.asg (.v 3) (.call 5 (.io 1 (.val (.c (.int 6)) (.nil))))) (.cons (.asg (.v 4) (.call 11 (.io 1 (.val (.v 3) (.val (.ite (.b2 .lt (.v 2) (.c (.int 7))) (.call 4 (.io 1 (.val (.lst (.cons (.c (.int 1)) (.cons (.c (.int 2)) (.cons (.c (.int 3)) (.cons (.c (.int 4)) (.nil)))))) (.nil)))) (.c (.int 1))) (.nil)))))) (.cons (.asg (.v 4) (.ite (.b2 .eq (.v 2) (.c (.int 8))) (.call 13 (.io 1 (.nil))) (.v 4))) (.cons (.par [6, 7] (.cons (.b1 .repr (.v 4)) (.cons (.b1 .tup (.call 12 (.val (.v 4) (.val (.tup (.nil)) (.val (.tup (.nil)) (.nil)))))) (.nil)))) (.cons (.asg (.v 5) (.ite (.b2 .eq (.v 2) (.c (.int 0))) (.callK 1 [0] (.nil) (.cons (.v 4) (.nil))) (.call 1 (.val (.v 4) (.nil))))) (.cons (.ifs (.or_ (.b2 .ne (.b1 .repr (.lst (.cons (.v 5) (.cons (.call 1 (.val (.v 4) (.nil))) (.nil))))) (.b1 .repr (.lst (.cons (.v 7) (.cons (.v 7) (.nil)))))) (.b2 .ne (.b1 .repr (.v 4)) (.v 6))) (.cons (.ret (.c (.bool false))) (.nil)) (.nil)) (.cons (.ifs (.b2 .ne (.b1 .nSetL (.lc [8, 9, 10] (.seq (.v 5)) (.t (.cons (.v 8) (.cons (.v 9) (.cons (.v 10) (.nil))))) e0_law)) (.b1 .len (.v 5))) (.cons (.ret (.c (.bool false))) (.nil)) (.nil)) (.nil)))))))
def f_law : Df := ⟨"law", ["script"], [.z], .s, ["script", "deck", "turn", "table", "reader", "told", "known", "due", "looks", "word", "leaf"], [.z, .r [("deep", true), ("state", false)], .s, .s, .s, .s, .s, .s, .s, .s, .s], [], .cons (.asg (.v 1) (.call 2 (.pk 0 (.nil)))) (.cons (.for_ (.rng1 (.c (.int 9))) (.v 2) b0_law) (.cons (.ret (.c (.bool true))) (.nil)))⟩
abbrev i_law : Nat := 14
def l : List Df := [f_paths_on, f_paths_of, f__law_deck, f__law_draw, f__law_pick, f__law_table, f__law_lot, f__law_shown, f__law_leaf, f__law_node, f__law_count, f__law_reader, f__law_paths, f__law_far, f_law]
def B : List BN := [("abs", none), ("int", none), ("len", none), ("list", none), ("max", none), ("range", none), ("repr", none), ("set", none), ("sorted", none), ("sum", none), ("tuple", none)]
theorem ck_paths_on : okDf l B f_paths_on (defArgs (top 1)) (defBody (top 1)) (defScope (top 1)) = true := by decide +kernel
theorem G_paths_on (k : Nat) : Gam l (k + 1) 0 = f_paths_on.sem (Gam l k) := rfl
theorem ck_paths_of : okDf l B f_paths_of (defArgs (top 2)) (defBody (top 2)) (defScope (top 2)) = true := by decide +kernel
theorem G_paths_of (k : Nat) : Gam l (k + 1) 1 = f_paths_of.sem (Gam l k) := rfl
theorem ck__law_deck : okDf l B f__law_deck (defArgs (top 4)) (defBody (top 4)) (defScope (top 4)) = true := by decide +kernel
theorem G__law_deck (k : Nat) : Gam l (k + 1) 2 = f__law_deck.sem (Gam l k) := rfl
theorem ck__law_draw : okDf l B f__law_draw (defArgs (top 5)) (defBody (top 5)) (defScope (top 5)) = true := by decide +kernel
theorem G__law_draw (k : Nat) : Gam l (k + 1) 3 = f__law_draw.sem (Gam l k) := rfl
theorem ck__law_pick : okDf l B f__law_pick (defArgs (top 6)) (defBody (top 6)) (defScope (top 6)) = true := by decide +kernel
theorem G__law_pick (k : Nat) : Gam l (k + 1) 4 = f__law_pick.sem (Gam l k) := rfl
theorem ck__law_table : okDf l B f__law_table (defArgs (top 7)) (defBody (top 7)) (defScope (top 7)) = true := by decide +kernel
theorem G__law_table (k : Nat) : Gam l (k + 1) 5 = f__law_table.sem (Gam l k) := rfl
theorem ck__law_lot : okDf l B f__law_lot (defArgs (top 8)) (defBody (top 8)) (defScope (top 8)) = true := by decide +kernel
theorem G__law_lot (k : Nat) : Gam l (k + 1) 6 = f__law_lot.sem (Gam l k) := rfl
theorem ck__law_shown : okDf l B f__law_shown (defArgs (top 9)) (defBody (top 9)) (defScope (top 9)) = true := by decide +kernel
theorem G__law_shown (k : Nat) : Gam l (k + 1) 7 = f__law_shown.sem (Gam l k) := rfl
theorem ck__law_leaf : okDf l B f__law_leaf (defArgs (top 10)) (defBody (top 10)) (defScope (top 10)) = true := by decide +kernel
theorem G__law_leaf (k : Nat) : Gam l (k + 1) 8 = f__law_leaf.sem (Gam l k) := rfl
theorem ck__law_node : okDf l B f__law_node (defArgs (top 11)) (defBody (top 11)) (defScope (top 11)) = true := by decide +kernel
theorem G__law_node (k : Nat) : Gam l (k + 1) 9 = f__law_node.sem (Gam l k) := rfl
theorem ck__law_count : okDf l B f__law_count (defArgs (top 12)) (defBody (top 12)) (defScope (top 12)) = true := by decide +kernel
theorem G__law_count (k : Nat) : Gam l (k + 1) 10 = f__law_count.sem (Gam l k) := rfl
theorem ck__law_reader : okDf l B f__law_reader (defArgs (top 13)) (defBody (top 13)) (defScope (top 13)) = true := by decide +kernel
theorem G__law_reader (k : Nat) : Gam l (k + 1) 11 = f__law_reader.sem (Gam l k) := rfl
theorem ck__law_paths : okDf l B f__law_paths (defArgs (top 14)) (defBody (top 14)) (defScope (top 14)) = true := by decide +kernel
theorem G__law_paths (k : Nat) : Gam l (k + 1) 12 = f__law_paths.sem (Gam l k) := rfl
theorem ck__law_far : okDf l B f__law_far (defArgs (top 15)) (defBody (top 15)) (defScope (top 15)) = true := by decide +kernel
theorem G__law_far (k : Nat) : Gam l (k + 1) 13 = f__law_far.sem (Gam l k) := rfl
theorem ck_law : okDf l B f_law (defArgs (top 16)) (defBody (top 16)) (defScope (top 16)) = true := by decide +kernel
theorem G_law (k : Nat) : Gam l (k + 1) 14 = f_law.sem (Gam l k) := rfl
end Tx

namespace Tx
open PySem PySem.Spec PyProof.Rows L2 TV
def dk (deep : List Int) (st : Int) : D := .tuple [.list (deep.map .int), .int st]
def DkOk (deep : List Int) (st : Int) : Prop := deep.length ≤ 63 ∧ 0 ≤ st ∧ st < 2305843009213693951
theorem pds_ints : ∀ is : List Int, pds (is.map PyData.int) = true
  | [] => rfl
  | i :: is => by simp [pds, pd, pds_ints is]
theorem depth_ints : ∀ is : List Int, PyData.depthAll (is.map PyData.int) = 0
  | [] => rfl
  | i :: is => by simp [PyData.depthAll, PyData.depth, depth_ints is]
theorem eq_nil (is : List Int) : eqD (.list (is.map .int)) (.list []) = some (decide (is = [])) := by
  by_cases h : is = []
  · subst h; exact eqD_yes rfl (by simp [PyData.depth, PyData.depthAll]) rfl
  · rw [decide_eq_false h]
    exact eqD_no (by simp [pd, pds_ints]) rfl (by simp [PyData.depth, depth_ints]) (by simp [PyData.depth, PyData.depthAll]) (by simp [h])
theorem mulOk_r {i j : Int} (h : -(2 ^ 64) < j ∧ j < 2 ^ 64) : mulOk i j = true := by unfold mulOk; rw [decide_eq_true h]; simp
theorem draw_small (Γ : Nat → Fn) (deep : List Int) (st n : Int) (h : n < 2) : f__law_draw.sem Γ [dk deep st, .int n] = .ok (.int 0) [some (dk deep st)] := by
  unfold Df.sem TV.run f__law_draw dk
  simp [h, Df.ios, iosOf, Sh.isM]
theorem draw_flat (Γ : Nat → Fn) (st n : Int) (h : ¬ n < 2) (h2 : n < 1073741824) (s0 : 0 ≤ st) (s1 : st < 2305843009213693951) : ∃ v st', f__law_draw.sem Γ [dk [] st, .int n] = .ok (.int v) [some (dk [] st')] ∧ 0 ≤ v ∧ v < n ∧ DkOk [] st' := by
  have n0 : 0 < n := by omega
  have e0 : eqD (.list []) (.list []) = some true := eq_nil []
  have o1 : 0 ≤ (st * 1181783497276652981 + 88172645463325) % 2305843009213693951 := Int.emod_nonneg _ (by decide)
  have o2 : (st * 1181783497276652981 + 88172645463325) % 2305843009213693951 < 2305843009213693951 := Int.emod_lt_of_pos _ (by decide)
  unfold Df.sem TV.run f__law_draw dk
  simp [h, Df.ios, iosOf, Sh.isM, getPl, e0, setFD]
  rw [o_mulI (mulOk_r (by decide))]
  simp
  rw [o_mod (by decide)]
  simp [setFD]
  generalize (st * 1181783497276652981 + 88172645463325) % 2305843009213693951 = one at *
  rw [o_mulI (mulOk_r (by omega))]
  simp
  rw [o_mulI (mulOk_r (by omega))]
  simp
  rw [o_mod (by decide)]
  simp
  rw [o_fdiv (by decide) (by decide)]
  simp
  rw [o_mod n0]
  simp
  exact ⟨_, one, ⟨rfl, rfl⟩, Int.emod_nonneg _ (by omega), Int.emod_lt_of_pos _ n0, by simp, o1, o2⟩
theorem draw_deep (Γ : Nat → Fn) (init : List Int) (w st n : Int) (h : ¬ n < 2) (h2 : n < 1073741824) (hl : init.length + 1 ≤ 63) (s0 : 0 ≤ st) (s1 : st < 2305843009213693951) : ∃ v deep', f__law_draw.sem Γ [dk (init ++ [w]) st, .int n] = .ok (.int v) [some (dk deep' st)] ∧ 0 ≤ v ∧ v < n ∧ DkOk deep' st := by
  have n0 : 0 < n := by omega
  have e0 : eqD (.list (init.map .int ++ [.int w])) (.list []) = some false := by
    have := eq_nil (init ++ [w])
    simpa using this
  unfold Df.sem TV.run f__law_draw dk
  simp [h, Df.ios, iosOf, Sh.isM, getPl, e0, popD, setPl]
  by_cases hw : n ≤ w
  · simp [hw, appD, getPl, setPl]
    rw [o_fdiv n0 h2]
    have lt : init.length < LIM := by unfold LIM; omega
    simp [lt, getPl, setPl]
    rw [o_mod n0]
    simp
    exact ⟨_, init ++ [w / n], ⟨rfl, by simp⟩, Int.emod_nonneg _ (by omega), Int.emod_lt_of_pos _ n0, by simpa using hl, s0, s1⟩
  · simp [hw]
    rw [o_mod n0]
    simp
    exact ⟨_, init, ⟨rfl, rfl⟩, Int.emod_nonneg _ (by omega), Int.emod_lt_of_pos _ n0, by omega, s0, s1⟩
/-- a drawn number -/
theorem draw_sem (Γ : Nat → Fn) {deep : List Int} {st : Int} (ok : DkOk deep st) (n : Int) (h2 : n < 1073741824) : ∃ v deep' st', f__law_draw.sem Γ [dk deep st, .int n] = .ok (.int v) [some (dk deep' st')] ∧ 0 ≤ v ∧ (v < n ∨ v = 0) ∧ DkOk deep' st' := by
  obtain ⟨l, s0, s1⟩ := ok
  by_cases h : n < 2
  · exact ⟨0, deep, st, draw_small Γ deep st n h, by omega, .inr rfl, l, s0, s1⟩
  · rcases List.eq_nil_or_concat deep with e | ⟨init, w, e⟩
    · subst e
      obtain ⟨v, st', h1, h3, h4, h5⟩ := draw_flat Γ st n h h2 s0 s1
      exact ⟨v, [], st', h1, h3, .inl h4, h5⟩
    · rw [List.concat_eq_append] at e
      subst e
      obtain ⟨v, d', h1, h3, h4, h5⟩ := draw_deep Γ init w st n h h2 (by simpa using l) s0 s1
      exact ⟨v, d', st, h1, h3, .inl h4, h5⟩

end Tx
namespace Tx
open PySem PySem.Spec PyProof.Rows L2 TV
/-- what a draw is to do -/
def DrawOk (F : Fn) : Prop := ∀ {deep : List Int} {st : Int}, DkOk deep st → ∀ n : Int, n < 1073741824 → ∃ v deep' st', F [dk deep st, .int n] = .ok (.int v) [some (dk deep' st')] ∧ 0 ≤ v ∧ (v < n ∨ v = 0) ∧ DkOk deep' st'
theorem drawOk (k : Nat) : DrawOk (Gam l (k + 1) i__law_draw) := fun ok n h => draw_sem _ ok n h
theorem atD_mem {ds : List D} {i : Int} (h : 0 ≤ i) (h2 : i < ds.length) : ∃ x ∈ ds, atD ds i = some x := by
  obtain ⟨n, rfl⟩ := Int.eq_ofNat_of_zero_le h
  have hn : n < ds.length := by omega
  refine ⟨ds[n], List.getElem_mem hn, ?_⟩
  have e : ixN ds.length (n : Int) = some n := by simp [ixN, hn]
  unfold atD atI
  rw [e]
  simp [hn]
/-- one of the items -/
def PickOk (F : Fn) : Prop := ∀ {deep : List Int} {st : Int}, DkOk deep st → ∀ items : List D, items ≠ [] → items.length < 1073741824 → ∀ x, x = .list items ∨ x = .tuple items → ∃ y ∈ items, ∃ deep' st', F [dk deep st, x] = .ok y [some (dk deep' st')] ∧ DkOk deep' st'
theorem pick_sem {Γ : Nat → Fn} (hd : DrawOk (Γ i__law_draw)) : PickOk (f__law_pick.sem Γ) := fun {deep st} ok items h1 h2 x hx => by
  obtain ⟨v, deep', st', e1, e2, e3, e4⟩ := hd ok items.length (by omega)
  have hp : 0 < items.length := List.length_pos_iff.mpr h1
  obtain ⟨y, hy, ey⟩ := atD_mem (ds := items) e2 (by omega)
  refine ⟨y, hy, deep', st', ?_, e4⟩
  unfold Df.sem TV.run f__law_pick
  rcases hx with rfl | rfl
  · simp [Df.ios, iosOf, Sh.isM, callR, argD, outs, e1, ey]
  · simp [Df.ios, iosOf, Sh.isM, callR, argD, outs, e1, ey]

end Tx
namespace Tx
open PySem PySem.Spec PyProof.Rows L2 TV
theorem pow18 : b2 .pow (.int 10) (.int 18) = some (.int 1000000000000000000) := by rfl
def script (ns : List Int) : D := .list (ns.map .int)
theorem deck_sem (Γ : Nat → Fn) (ns : List Int) (hl : ns.length ≤ 63) : ∃ deep st, f__law_deck.sem Γ [script ns] = .ok (dk deep st) [] ∧ DkOk deep st := by
  have cut : TV.cutD (ns.map PyData.int) none (some 63) = ns.map PyData.int := by
    have := cut_n (ds := ns.map PyData.int) (n := 63)
    rw [show ((63 : Nat) : Int) = 63 from rfl] at this
    rw [this, List.take_of_length_le (by simpa using hl)]
  unfold Df.sem TV.run f__law_deck script
  simp [Df.ios, iosOf, Sh.isM, cut]
  obtain ⟨ρ, e, deep, st, c, w, s, rfl, ok⟩ := forF_inv (body := forT (Tg.v 2) (exSs Γ b0__law_deck))
    (fun rest ρ => ∃ deep st c w s, ρ = [some (.list (ns.map .int)), some (dk deep st), c, w, s] ∧ deep.length + rest.length ≤ 63 ∧ (0 ≤ st ∧ st < 2305843009213693951) ∧ ∀ d ∈ rest, ∃ i, d = .int i)
    (fun d ds ρ ⟨deep, st, c, w, s, e, h1, h2, h3⟩ => by
      subst e
      obtain ⟨i, rfl⟩ := h3 d List.mem_cons_self
      have h4 : ∀ d ∈ ds, ∃ i, d = .int i := fun d hd => h3 d (List.mem_cons_of_mem _ hd)
      simp at h1
      generalize hw : (if i < 0 then -i else i) = v
      have tail : ∀ dp : List PyData, ∃ st', 0 ≤ st' ∧ st' < 2305843009213693951 ∧ ∃ s', (exSs Γ (Ss.cons
                (S.asg (Tg.v 4)
                  (E.b2 B2.add
                    (E.b2 B2.mul
                      (E.b2 B2.add
                        (E.b2 B2.add
                          (E.b2 B2.add (E.fld 1 1 (Str.ofString "state")) (E.b2 B2.mul (E.c (PyData.int 2)) (E.v 3)))
                          (E.b1 B1.int (E.b2 B2.lt (E.v 2) (E.c (PyData.int 0)))))
                        (E.c (PyData.int 1)))
                      (E.c (PyData.int 1181783497276652981)))
                    (E.c (PyData.int 521288629))))
                (Ss.cons
                  (S.setF 1 1 (Str.ofString "state")
                    (E.b2 B2.mod (E.b1 B1.int (E.v 4)) (E.c (PyData.int 2305843009213693951))))
                  Ss.nil)) [some (.list (ns.map .int)), some (.tuple [.list dp, .int st]), some (.int i), some (.int v), s]) = .nx [some (.list (ns.map .int)), some (.tuple [.list dp, .int st']), some (.int i), some (.int v), s'] := fun dp => by
        simp [getPl]
        rw [o_mulI (by unfold mulOk; simp)]
        simp
        rw [o_mulI (mulOk_r (by decide))]
        simp [setFD, getPl]
        rw [o_mod (by decide)]
        simp
        exact ⟨Int.emod_nonneg _ (by decide), Int.emod_lt_of_pos _ (by decide)⟩
      unfold b0__law_deck
      generalize (Ss.cons
                (S.asg (Tg.v 4)
                  (E.b2 B2.add
                    (E.b2 B2.mul
                      (E.b2 B2.add
                        (E.b2 B2.add
                          (E.b2 B2.add (E.fld 1 1 (Str.ofString "state")) (E.b2 B2.mul (E.c (PyData.int 2)) (E.v 3)))
                          (E.b1 B1.int (E.b2 B2.lt (E.v 2) (E.c (PyData.int 0)))))
                        (E.c (PyData.int 1)))
                      (E.c (PyData.int 1181783497276652981)))
                    (E.c (PyData.int 521288629))))
                (Ss.cons
                  (S.setF 1 1 (Str.ofString "state")
                    (E.b2 B2.mod (E.b1 B1.int (E.v 4)) (E.c (PyData.int 2305843009213693951))))
                  Ss.nil)) = T at tail ⊢
      simp [hw, pow18, getPl, dk]
      by_cases hb : 1000000000000000000 ≤ v
      · have la : ([PyData.int v] : List PyData).length + (deep.map PyData.int).length ≤ LIM := by simp; unfold LIM; omega
        obtain ⟨st', t1, t2, s', t3⟩ := tail (PyData.int v :: deep.map .int)
        refine ⟨_, .inl ?_, v :: deep, st', ⟨some (PyData.int i), some (PyData.int v), s', rfl⟩, by simp; omega, ⟨t1, t2⟩, h4⟩
        simp [hb, setFD, getPl, LIM, o_addL la, t3, dk]
      · obtain ⟨st', t1, t2, s', t3⟩ := tail (deep.map .int)
        refine ⟨_, .inl ?_, deep, st', ⟨some (PyData.int i), some (PyData.int v), s', rfl⟩, by omega, ⟨t1, t2⟩, h4⟩
        simp [hb, t3, dk])
    (ns.map .int) [some (.list (ns.map .int)), some (dk [] (3068 + ns.length)), none, none, none] ⟨[], _, none, none, none, rfl, by simpa using hl, by omega, fun d hd => by
      obtain ⟨i, _, rfl⟩ := List.mem_map.mp hd
      exact ⟨i, rfl⟩⟩
  simp only [dk, List.map_nil] at e
  rw [e]
  simp [mvD, dk]
  exact ⟨deep, st, ⟨rfl, rfl⟩, by simpa using ok.1, ok.2.1⟩

end Tx
namespace Tx
open PySem PySem.Spec PyProof.Rows L2 TV
theorem lcD_ok {vs : List Nat} {tg : Tg} {w : TV.Env → R (List D)} {body : TV.Env → R (Option D)} {ρ ρ1 ρ2 : TV.Env} {ds r : List D} (hw : w ρ = .ok ds ρ1) (hl : ds.length ≤ LIM) (h : lcF (lcT vs tg body) ds (wipeE ρ1 vs) = .ok r ρ2) : lcD vs tg w body ρ = .ok (.list r) (backE ρ1 ρ2 vs) := by
  unfold lcD
  rw [hw, R.bind_ok, if_pos hl, h]
  rfl
theorem eq_int (i j : Int) : eqD (.int i) (.int j) = some (decide (i = j)) := by
  by_cases h : i = j
  · subst h; rw [decide_eq_true rfl]; exact eqD_yes rfl (by simp [PyData.depth]) rfl
  · rw [decide_eq_false h]
    exact eqD_no rfl rfl (by simp [PyData.depth]) (by simp [PyData.depth]) (by simpa using h)
def LotOk (c : Int) (is : List Int) : Prop := is ≠ [] ∧ is.length ≤ c.toNat ∧ ∀ i ∈ is, 0 ≤ i ∧ i < c
theorem sub_of : ∀ {ds : List D} {os : List (Option D)}, os.length = ds.length → (∀ p ∈ ds.zip os, p.2 = none ∨ p.2 = some p.1) → (os.filterMap id).Sublist ds
  | [], [], _, _ => by simp
  | d :: ds, o :: os, hl, h => by
    have ih := sub_of (ds := ds) (os := os) (by simpa using hl) fun p hp => h p (by rw [List.zip_cons_cons]; exact List.mem_cons_of_mem _ hp)
    rcases h (d, o) (by rw [List.zip_cons_cons]; exact List.mem_cons_self) with e | e
    · have e : o = none := e
      subst e
      simpa using ih.cons d
    · have e : o = some d := e
      subst e
      simpa using ih
  | [], _ :: _, hl, _ => by simp at hl
  | _ :: _, [], hl, _ => by simp at hl
def rngI (c : Int) : List Int := (List.range c.toNat).map fun (i : Nat) => (i : Int)
theorem rngD_i (c : Int) : rngD 0 c = (rngI c).map .int := by unfold rngD rngI; simp
theorem lot_sem {Γ : Nat → Fn} (hd : DrawOk (Γ i__law_draw)) {deep : List Int} {st : Int} (ok : DkOk deep st) {c : Int} (c1 : 1 ≤ c) (c2 : c ≤ 1000) :
    ∃ is deep' st', f__law_lot.sem Γ [dk deep st, .int c] = .ok (.tuple (is.map .int)) [some (dk deep' st')] ∧ (LotOk c is ∧ is.Pairwise (· < ·)) ∧ DkOk deep' st' := by
  have step : ∀ d ∈ rngD 0 c, ∀ ρ, (∃ deep st, ρ = [some (dk deep st), some (.int c), none, none] ∧ DkOk deep st) → ∃ o ρ', lcT [3] (Tg.v 3) (ifD (evE Γ c0__law_lot) (evE Γ e0__law_lot)) d ρ = .ok o ρ' ∧ (∃ deep st, ρ' = [some (dk deep st), some (.int c), none, none] ∧ DkOk deep st) ∧ (o = none ∨ o = some d) := fun d hdm ρ ⟨deep, st, e, ok⟩ => by
    subst e
    obtain ⟨v, deep', st', e1, e2, e3, e4⟩ := hd ok 3 (by decide)
    by_cases hv : v = 0
    · exact ⟨some d, [some (dk deep' st'), some (.int c), none, none], by simp [c0__law_lot, e0__law_lot, lcT, bindT, ifD, callR, argD, outs, e1, eq_int, wipeE, hv], ⟨deep', st', rfl, e4⟩, .inr rfl⟩
    · exact ⟨none, [some (dk deep' st'), some (.int c), none, none], by simp [c0__law_lot, e0__law_lot, lcT, bindT, ifD, callR, argD, outs, e1, eq_int, wipeE, hv], ⟨deep', st', rfl, e4⟩, .inl rfl⟩
  obtain ⟨os, ρ', h1, ⟨deep', st', rfl, ok'⟩, h2, h3⟩ := lcF_inv _ (fun d o => o = none ∨ o = some d) (rngD 0 c) [some (dk deep st), some (.int c), none, none] step ⟨deep, st, rfl, ok⟩
  have sub := sub_of h2 h3
  rw [rngD_i] at sub
  obtain ⟨is, s1, s2⟩ := List.sublist_map_iff.mp sub
  have asc : is.Pairwise (· < ·) := by
    refine List.Pairwise.sublist s1 ?_
    unfold rngI
    rw [List.pairwise_map]
    exact List.pairwise_lt_range.imp fun {a b} h => by omega
  have s3 : is.length ≤ c.toNat := by
    have := s1.length_le
    unfold rngI at this
    simpa using this
  have s4 : ∀ i ∈ is, 0 ≤ i ∧ i < c := fun i hi => by
    have := s1.mem hi
    unfold rngI at this
    obtain ⟨n, hn, rfl⟩ := List.mem_map.mp this
    rw [List.mem_range] at hn
    omega
  rw [s2] at h1
  have hlc := lcD_ok (vs := [3]) (tg := Tg.v 3) (w := evW Γ (W.rng1 (E.v 1))) (body := ifD (evE Γ c0__law_lot) (evE Γ e0__law_lot)) (ρ := [some (dk deep st), some (.int c), none, none]) (ρ1 := [some (dk deep st), some (.int c), none, none]) (by simp [rng1K_i (n := c) (by unfold LIM; omega) (by unfold LIM; omega)]) (by rw [rngD_i]; simp [rngI]; omega) h1
  unfold Df.sem TV.run f__law_lot
  simp [Df.ios, iosOf, Sh.isM, hlc, backE]
  rw [eq_nil]
  by_cases hn : is = []
  · subst hn
    obtain ⟨v, deep2, st2, e1, e2, e3, e4⟩ := hd ok' c (by omega)
    simp [callR, argD, outs, e1, LIM]
    exact ⟨[v], deep2, st2, by simp, ⟨⟨by simp, by simp; omega, fun i hi => by simp at hi; omega⟩, by simp⟩, e4⟩
  · simp [hn]
    exact ⟨is, deep', st', ⟨rfl, rfl⟩, ⟨⟨hn, s3, s4⟩, asc⟩, ok'⟩

end Tx
namespace Tx
open PySem PySem.Spec PyProof.Rows L2 TV
structure Tab where
  words : List (List Int)
  vals : List Int
def Tab.d (t : Tab) : D := .tuple [.tuple (t.words.map tI), .tuple (t.vals.map .int)]
structure TabOk (cells : Nat) (t : Tab) : Prop where
  len : t.words.length = t.vals.length
  two : 2 ≤ t.words.length
  many : t.words.length ≤ 200
  c1 : 1 ≤ cells
  c3 : cells ≤ 3
  row : ∀ r ∈ t.words, r.length = cells ∧ ∀ i ∈ r, 0 ≤ i ∧ i < 200
theorem atD_at {ds : List D} {n : Nat} {d : D} (h : ds[n]? = some d) : atD ds (n : Int) = some d := by
  have hn := (List.getElem?_eq_some_iff.mp h).1
  have e : ixN ds.length (n : Int) = some n := by simp [ixN, hn]
  unfold atD atI
  rw [e]
  simpa using h
/-- a row's numbers at a lot -/
def look (row : List Int) (lot : List Int) : List Int := lot.map fun i => row.getD i.toNat 0
theorem shown_sem (Γ : Nat → Fn) {t : Tab} {cells : Nat} (ok : TabOk cells t) {lot : List Int} (hl : ∀ i ∈ lot, 0 ≤ i ∧ i < cells) (hn : lot.length ≤ 100) {s : Nat} {row : List Int} (hs : t.words[s]? = some row) :
    f__law_shown.sem Γ [t.d, tI lot, .int s] = .ok (tI (look row lot)) [] := by
  obtain ⟨rl, _⟩ := ok.row row (List.mem_of_getElem? hs)
  have hw : (t.words.map tI)[s]? = some (tI row) := by rw [List.getElem?_map, hs]; rfl
  have a1 := atD_at hw
  have a0 : atD [.tuple (t.words.map tI), .tuple (t.vals.map .int)] 0 = some (.tuple (t.words.map tI)) := rfl
  have m := lcF_map (ρ := [some t.d, some (tI lot), some (.int s), none]) (body := lcT [3] (Tg.v 3) (allD (evE Γ e0__law_shown))) (f := fun d => match d with
    | .int i => .int (row.getD i.toNat 0)
    | d => d) (lot.map .int) (fun d hd => by
      obtain ⟨i, hi, rfl⟩ := List.mem_map.mp hd
      obtain ⟨i0, i1⟩ := hl i hi
      obtain ⟨n, rfl⟩ := Int.eq_ofNat_of_zero_le i0
      have hr : (row.map PyData.int)[n]? = some (.int (row.getD n 0)) := by
        rw [List.getElem?_map, List.getD_eq_getElem?_getD, List.getElem?_eq_getElem (by omega)]; rfl
      have a2 := atD_at hr
      simp [e0__law_shown, lcT, bindT, allD, wipeE, Tab.d, a0, a1, tI, a2])
  have hlc := lcD_ok (vs := [3]) (tg := Tg.v 3) (w := evW Γ (W.seq (E.v 1))) (body := allD (evE Γ e0__law_shown)) (ρ := [some t.d, some (tI lot), some (.int s), none]) (ρ1 := [some t.d, some (tI lot), some (.int s), none]) (by simp [tI]) (by simp [LIM]; omega) m
  unfold Df.sem TV.run f__law_shown
  simp [Df.ios, iosOf, Sh.isM, hlc, backE]
  simp [tI, look]

end Tx
namespace Tx
open PySem PySem.Spec PyProof.Rows L2 TV
theorem leaf_pick {Γ : Nat → Fn} (hp : PickOk (Γ i__law_pick)) {deep : List Int} {st : Int} (ok : DkOk deep st) (is : List Int) (h : is ≠ []) (hl : is.length ≤ 1000) (x : D) (hx : x = .list (is.map .int) ∨ x = .tuple (is.map .int)) :
    ∃ i ∈ is, ∃ deep' st', Γ i__law_pick [dk deep st, x] = .ok (.int i) [some (dk deep' st')] ∧ DkOk deep' st' := by
  obtain ⟨y, hy, d', s', e, o⟩ := hp ok (is.map .int) (by simpa using h) (by simp; omega) x hx
  obtain ⟨i, hi, rfl⟩ := List.mem_map.mp hy
  exact ⟨i, hi, d', s', e, o⟩
/-- what a leaf is -/
inductive Leaf : D → Prop where
  | again : Leaf (.tuple [.str "again"])
  | tell (v : Int) (h : -1000000000000 ≤ v ∧ v ≤ 1000000000000) : Leaf (.tuple [.str "tell", .int v])
def ValsOk (t : Tab) : Prop := t.vals ≠ [] ∧ t.vals.length ≤ 1000 ∧ ∀ v ∈ t.vals, -1000000000000 ≤ v ∧ v ≤ 999999999999
@[simp] theorem o_max2 {i j : Int} : b2 .max2 (.int i) (.int j) = some (.int (if j > i then j else i)) := rfl
@[simp] theorem o_min2 {i j : Int} : b2 .min2 (.int i) (.int j) = some (.int (if j < i then j else i)) := rfl
theorem pow12 : b2 .pow (.int 10) (.int 12) = some (.int 1000000000000) := by rfl
theorem leaf_sem {Γ : Nat → Fn} (hd : DrawOk (Γ i__law_draw)) (hp : PickOk (Γ i__law_pick)) {deep : List Int} {st : Int} (ok : DkOk deep st) {t : Tab} (ht : ValsOk t) :
    ∃ x deep' st', f__law_leaf.sem Γ [dk deep st, t.d] = .ok x [some (dk deep' st')] ∧ Leaf x ∧ DkOk deep' st' := by
  obtain ⟨v, d1, s1, e1, _, _, ok1⟩ := hd ok 5 (by decide)
  obtain ⟨i, hi, d2, s2, e2, ok2⟩ := leaf_pick hp ok1 t.vals ht.1 ht.2.1 (.tuple (t.vals.map .int)) (.inr rfl)
  obtain ⟨j, hj, d3, s3, e3, ok3⟩ := leaf_pick hp ok2 [0, 0, 0, 0, 1, -1] (by simp) (by simp) _ (.inl rfl)
  have a0 : atD [.tuple (t.words.map tI), .tuple (t.vals.map .int)] 1 = some (.tuple (t.vals.map .int)) := rfl
  have hb := ht.2.2 i hi
  simp only [List.map_cons, List.map_nil] at e3
  have hj2 : j = 0 ∨ j = 1 ∨ j = -1 := by simp at hj; omega
  unfold Df.sem TV.run f__law_leaf
  by_cases hv : v = 0
  · simp [Df.ios, iosOf, Sh.isM, callR, argD, outs, e1, eq_int, hv, LIM]
    exact ⟨_, d1, s1, ⟨rfl, rfl⟩, .again, ok1⟩
  · simp [Df.ios, iosOf, Sh.isM, callR, argD, outs, e1, eq_int, hv, LIM, pow12, Tab.d, a0, e2, e3]
    exact ⟨_, d3, s3, ⟨rfl, rfl⟩, .tell _ (by split <;> omega), ok3⟩

end Tx
namespace Tx
open PySem PySem.Spec PyProof.Rows L2 TV
/-- signs of a table -/
def SgOk (g : List Int) : Prop := g ≠ [] ∧ g.length ≤ 1000 ∧ ∀ i ∈ g, 0 ≤ i ∧ i < 200
def RowOk (c : Nat) (r : List Int) : Prop := r.length = c ∧ ∀ i ∈ r, 0 ≤ i ∧ i < 200
theorem picks {Γ : Nat → Fn} (hp : PickOk (Γ i__law_pick)) {g : List Int} (hg : SgOk g) {a1 a3 a4 a5 a6 a7 a8 : Option D} : ∀ (ds : List D) {deep : List Int} {st : Int}, DkOk deep st →
    ∃ r deep' st', lcF (lcT [9] (Tg.v 9) (allD (evE Γ e0__law_table))) ds [some (dk deep st), a1, some (.list (g.map .int)), a3, a4, a5, a6, a7, a8, none] = .ok (r.map .int) [some (dk deep' st'), a1, some (.list (g.map .int)), a3, a4, a5, a6, a7, a8, none] ∧ RowOk ds.length r ∧ DkOk deep' st'
  | [], deep, st, ok => ⟨[], deep, st, rfl, ⟨rfl, by simp⟩, ok⟩
  | d :: ds, deep, st, ok => by
    obtain ⟨i, hi, d1, s1, e1, ok1⟩ := leaf_pick hp ok g hg.1 hg.2.1 _ (.inl rfl)
    obtain ⟨r, d2, s2, e2, h2, ok2⟩ := picks (a1 := a1) (a3 := a3) (a4 := a4) (a5 := a5) (a6 := a6) (a7 := a7) (a8 := a8) hp hg ds ok1
    refine ⟨i :: r, d2, s2, ?_, ⟨by simp [h2.1], fun j hj => ?_⟩, ok2⟩
    · have t : lcT [9] (Tg.v 9) (allD (evE Γ e0__law_table)) d [some (dk deep st), a1, some (.list (g.map .int)), a3, a4, a5, a6, a7, a8, none] = .ok (some (.int i)) [some (dk d1 s1), a1, some (.list (g.map .int)), a3, a4, a5, a6, a7, a8, none] := by
        simp [lcT, bindT, allD, wipeE, e0__law_table, callR, argD, outs, e1]
      simp [lcF, t, e2]
    · rcases List.mem_cons.mp hj with e | hj
      · subst e; exact hg.2.2 _ hi
      · exact h2.2 j hj
theorem row_sem {Γ : Nat → Fn} (hp : PickOk (Γ i__law_pick)) {g : List Int} (hg : SgOk g) {a1 a3 a4 a6 a7 a8 : Option D} {c : Nat} (hc : c ≤ 1000) {deep : List Int} {st : Int} (ok : DkOk deep st) :
    ∃ r deep' st', evE Γ e1__law_table [some (dk deep st), a1, some (.list (g.map .int)), a3, a4, some (.int (c : Int)), a6, a7, a8, none] = .ok (tI r) [some (dk deep' st'), a1, some (.list (g.map .int)), a3, a4, some (.int (c : Int)), a6, a7, a8, none] ∧ RowOk c r ∧ DkOk deep' st' := by
  obtain ⟨r, d', s', e, h, ok'⟩ := picks (a1 := a1) (a3 := a3) (a4 := a4) (a5 := some (.int (c : Int))) (a6 := a6) (a7 := a7) (a8 := a8) hp hg (rngD 0 c) ok
  have hlc := lcD_ok (vs := [9]) (tg := Tg.v 9) (w := evW Γ (W.rng1 (E.v 5))) (body := allD (evE Γ e0__law_table)) (ρ := [some (dk deep st), a1, some (.list (g.map .int)), a3, a4, some (.int (c : Int)), a6, a7, a8, none]) (ρ1 := [some (dk deep st), a1, some (.list (g.map .int)), a3, a4, some (.int (c : Int)), a6, a7, a8, none])
    (by simp [rng1K_i (n := (c : Int)) (by unfold LIM; omega) (by unfold LIM; omega)]) (by rw [rngD_len]; simp [LIM]; omega) e
  refine ⟨r, d', s', ?_, ?_, ok'⟩
  · unfold e1__law_table
    simp [hlc, backE, tI]
  · have : (rngD 0 (c : Int)).length = c := by rw [rngD_len]; simp
    rw [this] at h
    exact h

end Tx
namespace Tx
open PySem PySem.Spec PyProof.Rows L2 TV
theorem rows_sem {Γ : Nat → Fn} (hp : PickOk (Γ i__law_pick)) {g : List Int} (hg : SgOk g) {a1 a3 a6 a7 a8 : Option D} {c : Nat} (hc : c ≤ 1000) : ∀ (ds : List D) {deep : List Int} {st : Int}, DkOk deep st →
    ∃ (rs : List (List Int)) (deep' : List Int) (st' : Int), lcF (lcT [4] (Tg.v 4) (allD (evE Γ e1__law_table))) ds [some (dk deep st), a1, some (.list (g.map .int)), a3, none, some (.int (c : Int)), a6, a7, a8, none] = .ok (rs.map tI) [some (dk deep' st'), a1, some (.list (g.map .int)), a3, none, some (.int (c : Int)), a6, a7, a8, none] ∧ rs.length = ds.length ∧ (∀ r ∈ rs, RowOk c r) ∧ DkOk deep' st'
  | [], deep, st, ok => ⟨[], deep, st, rfl, rfl, by simp, ok⟩
  | d :: ds, deep, st, ok => by
    obtain ⟨r, d1, s1, e1, h1, ok1⟩ := row_sem (a1 := a1) (a3 := a3) (a4 := some d) (a6 := a6) (a7 := a7) (a8 := a8) hp hg hc ok
    obtain ⟨rs, d2, s2, e2, h2, h3, ok2⟩ := rows_sem (a1 := a1) (a3 := a3) (a6 := a6) (a7 := a7) (a8 := a8) hp hg hc ds ok1
    refine ⟨r :: rs, d2, s2, ?_, by simp [h2], fun x hx => ?_, ok2⟩
    · have t : lcT [4] (Tg.v 4) (allD (evE Γ e1__law_table)) d [some (dk deep st), a1, some (.list (g.map .int)), a3, none, some (.int (c : Int)), a6, a7, a8, none] = .ok (some (tI r)) [some (dk d1 s1), a1, some (.list (g.map .int)), a3, none, some (.int (c : Int)), a6, a7, a8, none] := by
        simp [lcT, bindT, allD, wipeE, e1]
      simp [lcF, t, e2]
    · rcases List.mem_cons.mp hx with e | hx
      · subst e; exact h1
      · exact h3 x hx

end Tx
namespace Tx
open PySem PySem.Spec PyProof.Rows L2 TV
theorem strOk_app {x y : Str} (h : PyData.strOk x = true) (h2 : PyData.strOk y = true) : PyData.strOk (x ++ y) = true := by
  have e : (x ++ y).cps = x.cps ++ y.cps := rfl
  unfold PyData.strOk at *
  rw [e, Array.all_append, h, h2]
  rfl
theorem strOk_of (s : String) : PyData.strOk (Str.ofString s) = true := by
  rw [Str.ofString_eq_toList]
  unfold PyData.strOk
  rw [List.all_toArray]
  rw [List.all_eq_true]
  intro c hc
  obtain ⟨ch, _, rfl⟩ := List.mem_map.mp hc
  have := ch.valid
  simp only [decide_eq_true_eq]
  unfold UInt32.isValidChar Nat.isValidChar at this
  show ch.val.toNat < 0x110000
  omega
/-! what can be told, with a bound -/
mutual
def tx : D → Bool
  | .none => true
  | .bool _ => true
  | .int i => decide (i.natAbs < 10 ^ 13)
  | .str x => decide ((reprText x).length ≤ 12) && PyData.strOk (reprText x)
  | .list xs => txs xs
  | .tuple xs => txs xs
  | .dict _ => false
def txs : List D → Bool
  | [] => true
  | x :: xs => tx x && txs xs
end
mutual
def sz : D → Nat
  | .none => 5
  | .bool _ => 5
  | .int _ => 14
  | .str _ => 12
  | .list xs => szs xs + 3
  | .tuple xs => szs xs + 3
  | .dict _ => 0
def szs : List D → Nat
  | [] => 0
  | x :: xs => sz x + 2 + szs xs
end
theorem strOk_from : ∀ (ts : List Str) (k : Nat) (acc : Str), PyData.strOk acc = true → (∀ t ∈ ts, PyData.strOk t = true) → PyData.strOk (textFrom k acc ts) = true
  | [], _, _, h, _ => h
  | t :: ts, k, acc, h, h2 => strOk_from ts (k + 1) _ (strOk_app (strOk_app h (strOk_of _)) (h2 t List.mem_cons_self)) fun u hu => h2 u (List.mem_cons_of_mem _ hu)
theorem strOk_join : ∀ (ts : List Str), (∀ t ∈ ts, PyData.strOk t = true) → PyData.strOk (Str.join ", " ts) = true
  | [], _ => by decide +kernel
  | [t], h => h t List.mem_cons_self
  | t :: u :: ts, h => strOk_app (strOk_app (h t List.mem_cons_self) (strOk_of _)) (strOk_join (u :: ts) fun v hv => h v (List.mem_cons_of_mem _ hv))
mutual
theorem tx_sz : ∀ d : D, tx d = true → d.shown.length ≤ sz d ∧ d.showable = true ∧ d.hasDict = false ∧ PyData.strOk d.shown = true
  | .none, _ => ⟨by decide, rfl, rfl, strOk_of _⟩
  | .bool b, _ => by cases b <;> exact ⟨by decide, rfl, rfl, strOk_of _⟩
  | .int i, h => by
    have h : i.natAbs < 10 ^ 13 := by simpa [tx] using h
    refine ⟨?_, ?_, rfl, strOk_of _⟩
    · have e := int_text_length_le10 (k := 13) (by decide) h
      show (Str.ofString (toString i)).length ≤ 14
      rw [PySem.ofString_length]; exact e
    · simp only [PyData.showable, decide_eq_true_eq]
      by_cases z : i.natAbs = 0
      · rw [z]; decide
      · rw [Nat.log2_lt z]
        exact Nat.lt_of_lt_of_le (Nat.lt_of_lt_of_le h (show 10 ^ 13 ≤ 2 ^ 44 by decide)) (Nat.pow_le_pow_right (by decide) (by decide))
  | .str x, h => by
    simp only [tx, Bool.and_eq_true, decide_eq_true_eq] at h
    exact ⟨h.1, rfl, rfl, h.2⟩
  | .list xs, h => by
    obtain ⟨h1, h2, h3, h4⟩ := txs_sz xs (by simpa only [tx] using h)
    refine ⟨?_, h2, h3, ?_⟩
    · have := listText_len_le (PyData.shownAll xs)
      have e := PyData.shownAll_length xs
      simp only [PyData.shown, sz]
      omega
    · exact strOk_app (strOk_from _ _ _ (strOk_of _) h4) (strOk_of _)
  | .tuple xs, h => by
    obtain ⟨h1, h2, h3, h4⟩ := txs_sz xs (by simpa only [tx] using h)
    refine ⟨?_, h2, h3, ?_⟩
    · have := tupleText_len_le (PyData.shownAll xs)
      have e := PyData.shownAll_length xs
      simp only [PyData.shown, sz]
      omega
    · exact strOk_app (strOk_app (strOk_of _) (strOk_join _ h4)) (strOk_of _)
theorem txs_sz : ∀ ds : List D, txs ds = true → ((PyData.shownAll ds).map (·.length)).sum + 2 * ds.length ≤ szs ds ∧ PyData.showableAll ds = true ∧ PyData.hasDictAll ds = false ∧ ∀ t ∈ PyData.shownAll ds, PyData.strOk t = true
  | [], _ => ⟨by simp [PyData.shownAll, szs], rfl, rfl, by simp [PyData.shownAll]⟩
  | x :: xs, h => by
    simp only [txs, Bool.and_eq_true] at h
    obtain ⟨h1, h2, h3, h4⟩ := tx_sz x h.1
    obtain ⟨g1, g2, g3, g4⟩ := txs_sz xs h.2
    refine ⟨?_, ?_, ?_, ?_⟩
    · simp only [PyData.shownAll, List.map_cons, List.sum_cons, List.length_cons, szs]
      omega
    · simp only [PyData.showableAll, h2, g2, Bool.and_self]
    · simp only [PyData.hasDictAll, h3, g3, Bool.or_self]
    · intro t ht
      simp only [PyData.shownAll, List.mem_cons] at ht
      rcases ht with rfl | ht
      · exact h4
      · exact g4 t ht
end
/-- a text of some data -/
structure TxOk (d : D) : Prop where
  tx : tx d = true
  dp : d.depth ≤ 64
  sz : sz d ≤ LIM
theorem o_repr {d : D} (h : TxOk d) : b1 .repr d = some (.str d.shown) := by
  obtain ⟨h1, h2, h3, h4⟩ := tx_sz d h.tx
  have h5 : d.shown.length ≤ LIM := Nat.le_trans h1 h.sz
  show (if d.showable && decide (d.depth ≤ 64) && !d.hasDict && decide (d.shown.length ≤ LIM) then some (PyData.str d.shown) else none) = _
  rw [h2, h3, decide_eq_true h.dp, decide_eq_true h5]
  rfl
theorem eq_shown {d : D} (h : TxOk d) : eqD (.str d.shown) (.str d.shown) = some true := eqD_yes (tx_sz d h.tx).2.2.2 (by simp [PyData.depth]) rfl
theorem depthAll_le {n : Nat} : ∀ {ds : List D}, (∀ d ∈ ds, d.depth ≤ n) → PyData.depthAll ds ≤ n
  | [], _ => by simp [PyData.depthAll]
  | d :: ds, h => by
    have h1 := h d List.mem_cons_self
    have h2 := depthAll_le (ds := ds) fun x hx => h x (List.mem_cons_of_mem _ hx)
    simp only [PyData.depthAll]
    omega
theorem pds_of : ∀ {ds : List D}, (∀ d ∈ ds, pd d = true) → pds ds = true
  | [], _ => rfl
  | d :: ds, h => by simp only [pds, h d List.mem_cons_self, pds_of (ds := ds) fun x hx => h x (List.mem_cons_of_mem _ hx), Bool.and_self]
theorem txs_of : ∀ {ds : List D}, (∀ d ∈ ds, tx d = true) → txs ds = true
  | [], _ => rfl
  | d :: ds, h => by simp only [txs, h d List.mem_cons_self, txs_of (ds := ds) fun x hx => h x (List.mem_cons_of_mem _ hx), Bool.and_self]
theorem szs_le {n : Nat} : ∀ {ds : List D}, (∀ d ∈ ds, sz d ≤ n) → szs ds ≤ (n + 2) * ds.length
  | [], _ => by simp [szs]
  | d :: ds, h => by
    have h1 := h d List.mem_cons_self
    have h2 := szs_le (ds := ds) fun x hx => h x (List.mem_cons_of_mem _ hx)
    simp only [szs, List.length_cons, Nat.mul_add, Nat.mul_one]
    omega
/-- small numbers in a row -/
theorem tI_tx {is : List Int} (h : ∀ i ∈ is, i.natAbs < 10 ^ 13) : tx (tI is) = true := by
  simp only [tI, tx]
  exact txs_of fun d hd => by
    obtain ⟨i, hi, rfl⟩ := List.mem_map.mp hd
    simp only [tx, decide_eq_true_eq]
    exact h i hi
theorem tI_sz (is : List Int) : sz (tI is) ≤ 16 * is.length + 3 := by
  have := szs_le (n := 14) (ds := is.map PyData.int) fun d hd => by
    obtain ⟨i, hi, rfl⟩ := List.mem_map.mp hd
    simp [sz]
  simp only [tI, sz]
  simp only [List.length_map] at this
  omega
theorem tI_pd (is : List Int) : pd (tI is) = true := by simp only [tI, pd]; exact pds_ints is
theorem tI_dp (is : List Int) : (tI is).depth = 1 := by simp only [tI, PyData.depth, depth_ints]
theorem map_int_inj : ∀ {a b : List Int}, a.map PyData.int = b.map PyData.int → a = b
  | [], [], _ => rfl
  | x :: xs, y :: ys, e => by
    simp only [List.map_cons, List.cons.injEq, PyData.int.injEq] at e
    rw [e.1, map_int_inj e.2]
  | [], _ :: _, e => by simp at e
  | _ :: _, [], e => by simp at e
theorem eq_tI (a b : List Int) : eqD (tI a) (tI b) = some (decide (a = b)) := by
  by_cases h : a = b
  · subst h; rw [decide_eq_true rfl]; exact eqD_yes (tI_pd a) (by rw [tI_dp]; decide) rfl
  · rw [decide_eq_false h]
    refine eqD_no (tI_pd a) (tI_pd b) (by rw [tI_dp]; decide) (by rw [tI_dp]; decide) fun e => h ?_
    simp only [tI, PyData.tuple.injEq] at e
    exact map_int_inj e
theorem lcF_fm {α : Type} {g : α → D} {f : α → Option D} {body : D → TV.Env → R (Option D)} {ρ : TV.Env} : ∀ xs : List α, (∀ x ∈ xs, body (g x) ρ = .ok (f x) ρ) → lcF body (xs.map g) ρ = .ok (xs.filterMap f) ρ
  | [], _ => rfl
  | x :: xs, h => by
    have ih := lcF_fm (g := g) (f := f) xs fun y hy => h y (List.mem_cons_of_mem _ hy)
    simp only [List.map_cons, lcF, h x List.mem_cons_self, R.bind_ok, ih, List.filterMap_cons]
    cases f x <;> rfl
theorem eq_nilD {ds : List D} (h : ∀ d ∈ ds, pd d = true ∧ d.depth ≤ 63) : eqD (.list ds) (.list []) = some (decide (ds = [])) := by
  by_cases e : ds = []
  · subst e; exact eqD_yes rfl (by simp [PyData.depth, PyData.depthAll]) rfl
  · rw [decide_eq_false e]
    have h1 := pds_of fun d hd => (h d hd).1
    have h2 := depthAll_le fun d hd => (h d hd).2
    exact eqD_no (by simpa only [pd] using h1) rfl (by simp only [PyData.depth]; omega) (by simp [PyData.depth, PyData.depthAll]) (by simpa using e)
@[simp] theorem asgK_t {ts : Tgs} {ds : List D} {ρ : TV.Env} : asgK (.t ts) (.tuple ds) ρ = Fl.of (bindTs ts ds ρ) := rfl
theorem o_lRng {n : Nat} (h : n ≤ LIM) : b1 .lRng (.int n) = some (.list (rngD 0 n)) := if_pos (by
  have h1 : ((n : Int) ≤ LIM) := by omega
  have h2 : (-LIM ≤ (n : Int)) := by unfold LIM; omega
  rw [decide_eq_true h1, decide_eq_true h2]; rfl)
@[simp] theorem o_lentI {is : List Int} : b1 .len (tI is) = some (.int is.length) := by
  show some (PyData.int ((is.map PyData.int).length : Nat)) = _
  rw [List.length_map]
def kwK' (f : Fn) (perm : List Nat) (ds : List D) : List D → TV.Env → R D := fun zs ρ => callR f (permA perm (ds ++ zs)) ρ
@[simp] theorem kwK'_e {f : Fn} {perm : List Nat} {ds zs : List D} {ρ : TV.Env} : kwK' f perm ds zs ρ = callR f (permA perm (ds ++ zs)) ρ := rfl
def kwK (f : Fn) (perm : List Nat) (B : TV.Env → R (List D)) : List D → TV.Env → R D := fun ds ρ => (B ρ).bind (kwK' f perm ds)
@[simp] theorem kwK_e {f : Fn} {perm : List Nat} {B : TV.Env → R (List D)} {ds : List D} {ρ : TV.Env} : kwK f perm B ds ρ = (B ρ).bind (kwK' f perm ds) := rfl
@[simp] theorem e_callK {Γ : Nat → Fn} {a : Option D} {as : TV.Env} {f : Nat} {perm : List Nat} {es ks : Es} : evE Γ (.callK f perm es ks) (a :: as) = (evEs Γ es (a :: as)).bind (kwK (Γ f) perm (evEs Γ ks)) := rfl

end Tx
namespace Tx
open PySem PySem.Spec PyProof.Rows L2 TV
abbrev VMono (t : Tab) : Prop := t.vals.Pairwise (· ≤ ·)
theorem vals_loop {Γ : Nat → Fn} (hp : PickOk (Γ i__law_pick)) {deep : List Int} {st : Int} (ok : DkOk deep st) {a1 a2 a3 a5 a6 : Option D} (n : Nat) (hn : n ≤ 200) (v : Int) (hv : -1000000000000 ≤ v ∧ v ≤ 7) {s4 s9 : Option D} :
    ∃ (vs : List Int) (deep' : List Int) (st' : Int) (v' : Int) (s4' : Option D), forF (forT (Tg.v 4) (exSs Γ b0__law_table)) (rngD 0 n) [some (dk deep st), a1, a2, a3, s4, a5, a6, some (.int v), some (.list []), s9] = .nx [some (dk deep' st'), a1, a2, a3, s4', a5, a6, some (.int v'), some (.list (vs.map .int)), s9] ∧ vs.length = n ∧ (∀ x ∈ vs, -1000000000000 ≤ x ∧ x ≤ 999999999999) ∧ DkOk deep' st' ∧ vs.Pairwise (· ≤ ·) := by
  obtain ⟨ρ, e, deep', st', v', s4', vs, rfl, ok', h1, _, h3, hp1, _⟩ := forF_inv (body := forT (Tg.v 4) (exSs Γ b0__law_table))
    (fun rest ρ => ∃ deep st v s4 vs, ρ = [some (dk deep st), a1, a2, a3, s4, a5, a6, some (.int v), some (.list (vs.map .int)), s9] ∧ DkOk deep st ∧ vs.length + rest.length = n ∧ (-1000000000000 ≤ v ∧ v ≤ 7 + 10 * (vs.length : Int)) ∧ (∀ x ∈ vs, -1000000000000 ≤ x ∧ x ≤ 999999999999) ∧ vs.Pairwise (· ≤ ·) ∧ ∀ x ∈ vs, x ≤ v)
    (fun d ds ρ ⟨deep, st, v, s4, vs, e, ok, h1, h2, h3, h5, h6⟩ => by
      subst e
      obtain ⟨i, hi, d1, s1, e1, ok1⟩ := leaf_pick hp ok [0, 1, 1, 2, 10] (by simp) (by simp) _ (.inl rfl)
      simp only [List.map_cons, List.map_nil] at e1
      have hi2 : 0 ≤ i ∧ i ≤ 10 := by simp at hi; omega
      simp only [List.length_cons] at h1
      have la : vs.length < LIM := by unfold LIM; omega
      refine ⟨_, .inl ?_, d1, s1, v + i, some d, vs ++ [v + i], rfl, ok1, by simp; omega, by simp; omega, fun x hx => ?_, ?_, fun x hx => ?_⟩
      · simp [b0__law_table, callR, argD, outs, e1, LIM, appD, getPl, setPl, la]
      · rcases List.mem_append.mp hx with hx | hx
        · exact h3 x hx
        · simp at hx; subst hx; omega
      · rw [List.pairwise_append]
        exact ⟨h5, by simp, fun x hx y hy => by simp at hy; subst hy; have := h6 x hx; omega⟩
      · rcases List.mem_append.mp hx with hx | hx
        · have := h6 x hx; omega
        · simp at hx; omega)
    (rngD 0 n) [some (dk deep st), a1, a2, a3, s4, a5, a6, some (.int v), some (.list []), s9] ⟨deep, st, v, s4, [], rfl, ok, by rw [rngD_len]; simp, by simp; omega, by simp, by simp, by simp⟩
  exact ⟨vs, deep', st', v', s4', e, by simpa using h1, h3, ok', hp1⟩
theorem sg_pick {Γ : Nat → Fn} (hp : PickOk (Γ i__law_pick)) {deep : List Int} {st : Int} (ok : DkOk deep st) :
    ∃ g deep' st', Γ i__law_pick [dk deep st, .list [.list [.int 0, .int 1], .list [.int 0, .int 1], .list [.int 0, .int 1, .int 2], .list [.int 0, .int 5, .int 199]]] = .ok (.list (g.map .int)) [some (dk deep' st')] ∧ SgOk g ∧ DkOk deep' st' := by
  obtain ⟨y, hy, d', s', e, o⟩ := hp ok [.list [.int 0, .int 1], .list [.int 0, .int 1], .list [.int 0, .int 1, .int 2], .list [.int 0, .int 5, .int 199]] (by simp) (by simp) _ (.inl rfl)
  simp only [List.mem_cons, List.not_mem_nil, or_false] at hy
  rcases hy with rfl | rfl | rfl | rfl
  · exact ⟨[0, 1], d', s', e, ⟨by simp, by simp, by simp⟩, o⟩
  · exact ⟨[0, 1], d', s', e, ⟨by simp, by simp, by simp⟩, o⟩
  · exact ⟨[0, 1, 2], d', s', e, ⟨by simp, by simp, by simp⟩, o⟩
  · exact ⟨[0, 5, 199], d', s', e, ⟨by simp, by simp, by simp⟩, o⟩
theorem table_sem {Γ : Nat → Fn} (hd : DrawOk (Γ i__law_draw)) (hp : PickOk (Γ i__law_pick)) {deep : List Int} {st : Int} (ok : DkOk deep st) {most : Int} (m1 : 2 ≤ most) (m2 : most ≤ 100) :
    ∃ t cells deep' st', f__law_table.sem Γ [dk deep st, .int most] = .ok (Tab.d t) [some (dk deep' st')] ∧ TabOk cells t ∧ ValsOk t ∧ t.words.length ≤ most.toNat ∧ DkOk deep' st' ∧ VMono t := by
  obtain ⟨c, hc, d1, s1, e1, ok1⟩ := leaf_pick hp ok [1, 2, 2, 2, 3] (by simp) (by simp) _ (.inl rfl)
  simp only [List.map_cons, List.map_nil] at e1
  have hc2 : c = 1 ∨ c = 2 ∨ c = 3 := by simp at hc; omega
  obtain ⟨cells, rfl⟩ : ∃ cells : Nat, c = cells := ⟨c.toNat, by omega⟩
  obtain ⟨w, d2, s2, e2, w0, w1, ok2⟩ := hd ok1 (most - 1) (by omega)
  obtain ⟨n, hn⟩ : ∃ n : Nat, 2 + w = n := ⟨(2 + w).toNat, by omega⟩
  have hn2 : 2 ≤ n ∧ (n : Int) ≤ most := by omega
  obtain ⟨g, d3, s3, e3, hg, ok3⟩ := sg_pick hp ok2
  obtain ⟨rs, d4, s4, e4, l4, r4, ok4⟩ := rows_sem (a1 := some (.int most)) (a3 := none) (a6 := some (.int n)) (a7 := none) (a8 := none) hp hg (c := cells) (by omega) (rngD 0 n) ok3
  have l4 : rs.length = n := by rw [l4, rngD_len]; simp
  have hlc := lcD_ok (vs := [4]) (tg := Tg.v 4) (w := evW Γ (W.rng1 (E.v 6))) (body := allD (evE Γ e1__law_table)) (ρ := [some (dk d3 s3), some (.int most), some (.list (g.map .int)), none, none, some (.int cells), some (.int n), none, none, none]) (ρ1 := [some (dk d3 s3), some (.int most), some (.list (g.map .int)), none, none, some (.int cells), some (.int n), none, none, none])
    (by simp [rng1K_i (n := (n : Int)) (by unfold LIM; omega) (by unfold LIM; omega)]) (by rw [rngD_len]; simp [LIM]; omega) e4
  obtain ⟨x, d5, s5, e5, _, _, ok5⟩ := hd ok4 3 (by decide)
  have tok : ∀ vs : List Int, vs.length = n → TabOk cells ⟨rs, vs⟩ := fun vs hv => ⟨by simp [l4, hv], by show 2 ≤ rs.length; omega, by show rs.length ≤ 200; omega, by omega, by omega, fun r hr => r4 r hr⟩
  have lr : rngD 0 n = ((List.range n).map fun i : Nat => (i : Int)).map PyData.int := by
    have := rngD_i (n : Int)
    unfold rngI at this
    simpa using this
  unfold Df.sem TV.run f__law_table
  by_cases hx : x = 0
  · simp [Df.ios, iosOf, Sh.isM, callR, argD, outs, e1, e2, hn, e3, hlc, backE, e5, eq_int, hx, LIM, bindT, bindTs, o_lRng (n := n) (by unfold LIM; omega)]
    refine ⟨⟨rs, (List.range n).map fun i : Nat => (i : Int)⟩, cells, d5, s5, ⟨by rw [lr]; rfl, rfl⟩, tok _ (by simp), ⟨by simp; omega, by simp; omega, fun v hv => ?_⟩, by show rs.length ≤ _; omega, ok5, ?_⟩
    · simp at hv
      obtain ⟨a, ha, rfl⟩ := hv
      omega
    · show List.Pairwise _ (List.map _ _)
      rw [List.pairwise_map]
      exact List.pairwise_lt_range.imp fun {a b} h => by omega
  · obtain ⟨v, hv, d6, s6, e6, ok6⟩ := leaf_pick hp ok5 [0, -3, 7, -1000000000000] (by simp) (by simp) _ (.inl rfl)
    simp only [List.map_cons, List.map_nil] at e6
    have hv2 : -1000000000000 ≤ v ∧ v ≤ 7 := by simp at hv; omega
    obtain ⟨vs, d7, s7, v', s4', e7, l7, b7, ok7, m7⟩ := vals_loop (a1 := some (.int most)) (a2 := some (.list (g.map .int))) (a3 := some (.tuple (rs.map tI))) (a5 := some (.int cells)) (a6 := some (.int n)) (s4 := none) (s9 := none) hp ok6 n (by omega) v hv2
    simp [Df.ios, iosOf, Sh.isM, callR, argD, outs, e1, e2, hn, e3, hlc, backE, e5, eq_int, hx, LIM, bindT, bindTs, pow12, e6, TV.bindL, rng1K_i (n := (n : Int)) (by unfold LIM; omega) (by unfold LIM; omega), e7]
    exact ⟨⟨rs, vs⟩, cells, d7, s7, ⟨rfl, rfl⟩, tok _ l7, ⟨fun h => by simp at h; subst h; simp at l7; omega, by show vs.length ≤ _; omega, b7⟩, by show rs.length ≤ _; omega, ok7, m7⟩

end Tx
namespace Tx
open PySem PySem.Spec PyProof.Rows L2 TV
theorem run_ret {Γ : Nat → Fn} {n : Nat} {ios : List Nat} {f : Bool} {body : Ss} {ds : List D} {d : D} {ρ : TV.Env} (h : exSs Γ body (ds.map some ++ List.replicate (n - ds.length) none) = .ret d ρ) : TV.run Γ n ios f body ds = .ok d (ios.map (gv ρ)) := by
  unfold TV.run; rw [h]
def Sdr : Ss → Nat → Ss
  | ss, 0 => ss
  | .nil, _ => .nil
  | .cons _ ss, n + 1 => Sdr ss n
def again : D := .tuple [.str "again"]
def pairD (p : List Int × D) : D := .tuple [tI p.1, p.2]
def mkLook (lot : List Int) (ps : List (List Int × D)) : D := .tuple [.str "look", tI lot, .tuple (ps.map pairD)]
/-- a sight of so many cells -/
def SiOk (n : Nat) (s : List Int) : Prop := s.length = n ∧ ∀ i ∈ s, 0 ≤ i ∧ i < 200
/-- a node of at most so many looks one behind another -/
def Nd (c : Nat) : Nat → D → Prop
  | 0, x => Leaf x
  | k + 1, x => Leaf x ∨ ∃ lot ps, LotOk c lot ∧ ps.length ≤ 4 ∧ (∀ p ∈ ps, SiOk lot.length p.1 ∧ Nd c k p.2) ∧ x = mkLook lot ps
/-- a look whose branches are such nodes -/
def Lk (c k : Nat) (x : D) : Prop := ∃ lot ps, LotOk c lot ∧ ps.length ≤ 4 ∧ (∀ p ∈ ps, SiOk lot.length p.1 ∧ Nd c k p.2) ∧ x = mkLook lot ps
/-- a row ahead of another one -/
def Lx (a b : List Int) : Prop := lexLtI a b = true
/-- the cells of each look rise, and its sights -/
def Uq : Nat → D → Prop
  | 0, _ => True
  | k + 1, x => ∀ lot ps, x = mkLook lot ps → (lot.Pairwise (· < ·) ∧ (ps.map (·.1)).Pairwise Lx) ∧ ∀ p ∈ ps, Uq k p.2
theorem tI_inj {a b : List Int} (h : tI a = tI b) : a = b := by
  unfold tI at h
  exact map_int_inj (PyData.tuple.inj h)
theorem pairs_inj : ∀ {ps qs : List (List Int × D)}, ps.map pairD = qs.map pairD → ps = qs
  | [], [], _ => rfl
  | [], _ :: _, h => by simp at h
  | _ :: _, [], h => by simp at h
  | (a, x) :: ps, (b, y) :: qs, h => by
    simp only [List.map_cons, List.cons.injEq, pairD, PyData.tuple.injEq, and_true] at h
    obtain ⟨⟨h1, h2⟩, h3⟩ := h
    rw [tI_inj h1, h2, pairs_inj h3]
theorem mkLook_inj {l m : List Int} {ps qs : List (List Int × D)} (h : mkLook l ps = mkLook m qs) : l = m ∧ ps = qs := by
  simp only [mkLook, PyData.tuple.injEq, List.cons.injEq, and_true, true_and] at h
  exact ⟨tI_inj h.1, pairs_inj h.2⟩
theorem Uq.look {k : Nat} {lot : List Int} {ps : List (List Int × D)} (h1 : lot.Pairwise (· < ·) ∧ (ps.map (·.1)).Pairwise Lx) (h2 : ∀ p ∈ ps, Uq k p.2) : Uq (k + 1) (mkLook lot ps) := fun l qs e => by
  obtain ⟨rfl, rfl⟩ := mkLook_inj e
  exact ⟨h1, h2⟩
theorem Uq.leaf {k : Nat} {x : D} (h : Leaf x) : Uq k x := by
  cases k with
  | zero => trivial
  | succ k =>
    intro l ps e
    subst e
    exfalso
    generalize hy : mkLook l ps = y at h
    cases h <;> simp [mkLook, again] at hy
theorem Lk.nd {c k : Nat} {x : D} (h : Lk c k x) : Nd c (k + 1) x := .inr h
theorem Nd.up {c : Nat} : ∀ {k : Nat} {x : D}, Nd c k x → Nd c (k + 1) x
  | 0, _, h => .inl h
  | k + 1, _, .inl h => .inl h
  | k + 1, _, .inr ⟨lot, ps, h1, h2, h3, h4⟩ => .inr ⟨lot, ps, h1, h2, fun p hp => ⟨(h3 p hp).1, (h3 p hp).2.up⟩, h4⟩
theorem Lk.up {c k : Nat} {x : D} (h : Lk c k x) : Lk c (k + 1) x := by
  obtain ⟨lot, ps, h1, h2, h3, h4⟩ := h
  exact ⟨lot, ps, h1, h2, fun p hp => ⟨(h3 p hp).1, (h3 p hp).2.up⟩, h4⟩
/-! sets of tuples -/
theorem mem_insT {x y : List Int} : ∀ {ys : List (List Int)}, y ∈ insT x ys → y = x ∨ y ∈ ys
  | [], h => by simp [insT] at h; exact .inl h
  | z :: zs, h => by
    unfold insT at h
    split at h
    · exact .inr h
    · split at h
      · rcases List.mem_cons.mp h with e | h
        · exact .inl e
        · exact .inr h
      · rcases List.mem_cons.mp h with e | h
        · exact .inr (e ▸ List.mem_cons_self)
        · exact (mem_insT h).imp_right (List.mem_cons_of_mem _)
theorem mem_setT {y : List Int} : ∀ {xs : List (List Int)}, y ∈ setT xs → y ∈ xs
  | [], h => by simp [setT] at h
  | x :: xs, h => by
    rcases mem_insT h with e | h
    · exact e ▸ List.mem_cons_self
    · exact List.mem_cons_of_mem _ (mem_setT h)
theorem len_insT {x : List Int} : ∀ {ys : List (List Int)}, (insT x ys).length ≤ ys.length + 1
  | [] => by simp [insT]
  | z :: zs => by
    unfold insT
    split
    · simp
    · split
      · simp
      · have := len_insT (x := x) (ys := zs)
        simp; omega
theorem len_setT : ∀ {xs : List (List Int)}, (setT xs).length ≤ xs.length
  | [] => by simp [setT]
  | x :: xs => by
    have h1 := len_insT (x := x) (ys := setT xs)
    have h2 := len_setT (xs := xs)
    simp [setT]; omega
theorem lx_code : ∀ {x y : List Int}, x.length = y.length → TS.Bd SB x → TS.Bd SB y → TS.code SB x < TS.code SB y → lexLtI x y = true
  | [], [], _, _, _, h => by simp [TS.code] at h
  | [], _ :: _, hl, _, _, _ => by simp at hl
  | _ :: _, [], hl, _, _, _ => by simp at hl
  | a :: x, b :: y, hl, hx, hy, h => by
    have hl2 : x.length = y.length := by simpa using hl
    have e1 : TS.code SB (a :: x) = a * SB ^ x.length + TS.code SB x := rfl
    have e2 : TS.code SB (b :: y) = b * SB ^ y.length + TS.code SB y := rfl
    rw [lexLtI]
    split
    · rename_i hab
      subst hab
      rw [e1, e2, hl2] at h
      exact lx_code hl2 hx.tail hy.tail (by omega)
    · rename_i hab
      rw [decide_eq_true_eq]
      rcases Int.lt_trichotomy a b with z | z | z
      · exact z
      · exact absurd z hab
      · have := TS.code_lt hl2.symm hy.tail hx.tail z
        omega
theorem nodup_setT {n : Nat} {xs : List (List Int)} (h : ∀ x ∈ xs, SiOk n x) : (setT xs).Pairwise Lx := by
  have bd : ∀ y ∈ xs, y.length = n ∧ TS.Bd SB y := fun y hy => ⟨(h y hy).1, fun m hm => by
    obtain ⟨h1, h2⟩ := (h y hy).2 m hm
    exact ⟨h1, by unfold SB; omega⟩⟩
  have := setT_rise (d := n) (xs := xs) bd
  refine List.Pairwise.imp_of_mem ?_ this
  intro a b ha hb hlt
  obtain ⟨a1, a2⟩ := bd a (mem_setT ha)
  obtain ⟨b1, b2⟩ := bd b (mem_setT hb)
  exact lx_code (a1.trans b1.symm) a2 b2 hlt
theorem intsD_i : ∀ is : List Int, intsD (is.map .int) = some is
  | [] => rfl
  | i :: is => by simp [intsD, intsD_i is]
theorem intssD_t : ∀ xs : List (List Int), intssD (xs.map tI) = some xs
  | [] => rfl
  | x :: xs => by simp [intssD, tI, intsD_i]; exact intssD_t xs
/-- sorted(set(..)) of some sights -/
theorem o_setT {n : Nat} {xs : List (List Int)} (hn : 1 ≤ n) (h : ∀ x ∈ xs, SiOk n x) (hl : xs.length < 64) : b1 .setT (.list (xs.map tI)) = some (.list ((setT xs).map tI)) := by
  have e : okT (hdL xs) xs = true := by
    have hh : hdL xs = n ∨ xs = [] := by
      cases xs with
      | nil => exact .inr rfl
      | cons x xs => exact .inl (h x List.mem_cons_self).1
    unfold okT
    rcases hh with e | e
    · rw [e, decide_eq_true hn, Bool.true_and, List.all_eq_true]
      intro x hx
      obtain ⟨h1, h2⟩ := h x hx
      rw [decide_eq_true h1, Bool.true_and, List.all_eq_true]
      intro i hi
      obtain ⟨h3, h4⟩ := h2 i hi
      have h5 : i < SB := by unfold SB; omega
      rw [decide_eq_true h3, decide_eq_true h5]
      rfl
    · subst e; rfl
  show (match intssD (xs.map tI) with
    | some ys => if (xs.map tI).length < 64 && okT (hdL ys) ys then some (PyData.list ((setT ys).map tI)) else none
    | none => none) = _
  rw [intssD_t]
  show (if (xs.map tI).length < 64 && okT (hdL xs) xs then some (PyData.list ((setT xs).map tI)) else none) = _
  rw [e, List.length_map, decide_eq_true hl]
  rfl
theorem o_mulT {x : D} {n : Nat} (h : n ≤ LIM) : b2 .mul (.tuple [x]) (.int n) = some (.tuple (List.replicate n x)) := by
  show (if ![x].isEmpty && decide (-LIM ≤ (n : Int)) && decide ([x].length * (n : Int).toNat ≤ LIM) && decide ((n : Int) ≤ LIM) then some (PyData.tuple (List.replicate (n : Int).toNat [x]).flatten) else none) = _
  have e1 : (-LIM ≤ (n : Int)) := by unfold LIM; omega
  have e2 : [x].length * (n : Int).toNat ≤ LIM := by simpa using h
  have e3 : (n : Int) ≤ LIM := by omega
  rw [decide_eq_true e1, decide_eq_true e2, decide_eq_true e3]
  have e4 : (List.replicate n [x]).flatten = List.replicate n x := by
    induction n with
    | zero => rfl
    | succ n ih => simp [List.replicate_succ] at ih ⊢
  simpa using e4
def LotFn (F : Fn) : Prop := ∀ {deep : List Int} {st : Int}, DkOk deep st → ∀ {c : Int}, 1 ≤ c → c ≤ 1000 → ∃ is deep' st', F [dk deep st, .int c] = .ok (.tuple (is.map .int)) [some (dk deep' st')] ∧ (LotOk c is ∧ is.Pairwise (· < ·)) ∧ DkOk deep' st'
def ShownFn (F : Fn) : Prop := ∀ {t : Tab} {cells : Nat}, TabOk cells t → ∀ {lot : List Int}, (∀ i ∈ lot, 0 ≤ i ∧ i < cells) → lot.length ≤ 100 → ∀ {s : Nat} {row : List Int}, t.words[s]? = some row → F [t.d, tI lot, .int s] = .ok (tI (look row lot)) []
def LeafFn (F : Fn) : Prop := ∀ {deep : List Int} {st : Int}, DkOk deep st → ∀ {t : Tab}, ValsOk t → ∃ x deep' st', F [dk deep st, t.d] = .ok x [some (dk deep' st')] ∧ Leaf x ∧ DkOk deep' st'
def NodeFn (m : Nat) (F : Fn) : Prop := ∀ {deep : List Int} {st : Int}, DkOk deep st → ∀ {t : Tab} {cells : Nat}, TabOk cells t → ValsOk t → t.words.length ≤ 60 → ∀ depth : Int, depth ≤ m + 1 → ∃ x deep' st', F [dk deep st, t.d, .int depth] = .ok x [some (dk deep' st')] ∧ (Lk cells m x ∧ Uq (m + 1) x) ∧ DkOk deep' st'
theorem look_ok {cells : Nat} {t : Tab} (ok : TabOk cells t) {lot : List Int} (hl : ∀ i ∈ lot, 0 ≤ i ∧ i < (cells : Int)) {row : List Int} (hr : row ∈ t.words) : SiOk lot.length (look row lot) := by
  refine ⟨by simp [look], fun i hi => ?_⟩
  obtain ⟨j, hj, rfl⟩ := List.mem_map.mp hi
  obtain ⟨h1, h2⟩ := hl j hj
  obtain ⟨h3, h4⟩ := ok.row row hr
  have h5 : j.toNat < row.length := by omega
  rw [List.getD_eq_getElem?_getD, List.getElem?_eq_getElem h5]
  exact h4 _ (List.getElem_mem h5)
theorem node_loop {Γ : Nat → Fn} (hd : DrawOk (Γ i__law_draw)) (hf : LeafFn (Γ i__law_leaf)) {m : Nat} (rec : ∀ m', m = m' + 1 → NodeFn m' (Γ i__law_node)) {t : Tab} {cells : Nat} (tok : TabOk cells t) (vok : ValsOk t) (t60 : t.words.length ≤ 60) {depth : Int} (hdep : depth ≤ m + 1) {n : Nat} {a3 a4 a8 : Option D}
    {S : List (List Int)} (hS : ∀ s ∈ S, SiOk n s) (Sn : S.Pairwise Lx) (S4 : S.length ≤ 4) {deep : List Int} {st : Int} (ok : DkOk deep st) {a6 a7 : Option D} :
    ∃ (ps : List (List Int × D)) (deep' : List Int) (st' : Int) (a6' a7' : Option D), forF (forT (Tg.v 6) (exSs Γ b0__law_node)) (S.map tI) [some (dk deep st), some t.d, some (.int depth), a3, a4, some (.list []), a6, a7, a8] = .nx [some (dk deep' st'), some t.d, some (.int depth), a3, a4, some (.list (ps.map pairD)), a6', a7', a8] ∧ ps.length ≤ S.length ∧ (∀ p ∈ ps, SiOk n p.1 ∧ Nd cells m p.2) ∧ ((ps.map (·.1)).Pairwise Lx ∧ ∀ p ∈ ps, Uq m p.2) ∧ DkOk deep' st' := by
  obtain ⟨ρ, e, deep', st', a6', a7', ps, rfl, ok', h1, h2, _, ⟨R0, _, hn0⟩, hu0⟩ := forF_inv (body := forT (Tg.v 6) (exSs Γ b0__law_node))
    (fun rest ρ => ∃ deep st a6 a7 ps, ρ = [some (dk deep st), some t.d, some (.int depth), a3, a4, some (.list (ps.map pairD)), a6, a7, a8] ∧ DkOk deep st ∧ ps.length + rest.length ≤ S.length ∧ (∀ p ∈ ps, SiOk n p.1 ∧ Nd cells m p.2) ∧ (∀ d ∈ rest, ∃ s, d = tI s ∧ SiOk n s) ∧ (∃ R : List (List Int), rest = R.map tI ∧ (ps.map (·.1) ++ R).Pairwise Lx) ∧ ∀ p ∈ ps, Uq m p.2)
    (fun d ds ρ ⟨deep, st, a6, a7, ps, e, ok, h1, h2, h3, ⟨R, hR, hn⟩, hu⟩ => by
      subst e
      obtain ⟨s, rfl, hs⟩ := h3 d List.mem_cons_self
      obtain ⟨R, rfl, hn1, hn2⟩ : ∃ R' : List (List Int), ds = R'.map tI ∧ (ps.map (·.1) ++ R').Pairwise Lx ∧ (ps.map (·.1) ++ s :: R').Pairwise Lx := by
        cases R with
        | nil => simp at hR
        | cons s' R' =>
          simp only [List.map_cons, List.cons.injEq] at hR
          obtain ⟨e1, e2⟩ := hR
          obtain rfl := tI_inj e1
          exact ⟨R', e2, List.Pairwise.sublist (List.Sublist.append_left (List.sublist_cons_self _ _) _) hn, hn⟩
      have h1 : ps.length + (R.length + 1) ≤ S.length := by
        rw [List.length_cons, List.length_map] at h1
        exact h1
      have h4 : ∀ d ∈ R.map tI, ∃ s, d = tI s ∧ SiOk n s := fun d hd => h3 d (List.mem_cons_of_mem _ hd)
      obtain ⟨v, d1, s1, e1, v0, _, ok1⟩ := hd ok 7 (by decide)
      by_cases hv : 0 < v
      · obtain ⟨w, d2, s2, e2, _, _, ok2⟩ := hd ok1 3 (by decide)
        have pl : ps.length < LIM := by
          unfold LIM; omega
        have fin : ∀ (x : D) (d' : List Int) (s' : Int) (b7 : Option D), Nd cells m x → Uq m x → DkOk d' s' → ∃ (deep : List Int) (st : Int) (a6 a7 : Option D) (ps' : List (List Int × D)), [some (dk d' s'), some t.d, some (PyData.int depth), a3, a4, some (.list (ps.map pairD ++ [.tuple [tI s, x]])), some (tI s), b7, a8] = [some (dk deep st), some t.d, some (.int depth), a3, a4, some (.list (ps'.map pairD)), a6, a7, a8] ∧ DkOk deep st ∧ ps'.length + (R.map tI).length ≤ S.length ∧ (∀ p ∈ ps', SiOk n p.1 ∧ Nd cells m p.2) ∧ (∀ d ∈ R.map tI, ∃ s, d = tI s ∧ SiOk n s) ∧ (∃ R2 : List (List Int), R.map tI = R2.map tI ∧ (ps'.map (·.1) ++ R2).Pairwise Lx) ∧ ∀ p ∈ ps', Uq m p.2 := fun x d' s' b7 hx ux ok' =>
          ⟨d', s', some (tI s), b7, ps ++ [(s, x)], by simp [pairD], ok', by rw [List.length_append, List.length_map]; simp only [List.length_cons, List.length_nil]; omega, fun p hp => by
            rcases List.mem_append.mp hp with hp | hp
            · exact h2 p hp
            · simp at hp; subst hp; exact ⟨hs, hx⟩, h4, ⟨R, rfl, by simpa using hn2⟩, fun p hp => by
            rcases List.mem_append.mp hp with hp | hp
            · exact hu p hp
            · simp at hp; subst hp; exact ux⟩
        have up : ∀ x, Leaf x → Nd cells m x := fun x hx => by
          cases m with
          | zero => exact hx
          | succ m => exact .inl hx
        by_cases hdp : depth < 2
        · obtain ⟨x, d3, s3, e3, hx, ok3⟩ := hf ok1 vok
          refine ⟨_, .inl ?_, fin x d3 s3 (some (.bool true)) (up x hx) (.leaf hx) ok3⟩
          simp [b0__law_node, callR, argD, outs, e1, hv, hdp, e3, LIM, appD, getPl, setPl, pl]
        · by_cases hw : w = 0
          · obtain ⟨x, d3, s3, e3, hx, ok3⟩ := hf ok2 vok
            refine ⟨_, .inl ?_, fin x d3 s3 (some (.bool true)) (up x hx) (.leaf hx) ok3⟩
            simp [b0__law_node, callR, argD, outs, e1, hv, hdp, e2, eq_int, hw, e3, LIM, appD, getPl, setPl, pl]
          · obtain ⟨m', rfl⟩ : ∃ m', m = m' + 1 := ⟨m - 1, by omega⟩
            obtain ⟨x, d3, s3, e3, hx, ok3⟩ := rec m' rfl ok2 tok vok t60 (depth - 1) (by omega)
            refine ⟨_, .inl ?_, fin x d3 s3 (some (.bool false)) hx.1.nd hx.2 ok3⟩
            simp [b0__law_node, callR, argD, outs, e1, hv, hdp, e2, eq_int, hw, e3, LIM, appD, getPl, setPl, pl]
      · refine ⟨_, .inl ?_, d1, s1, some (tI s), a7, ps, rfl, ok1, by rw [List.length_map]; omega, h2, h4, ⟨R, rfl, hn1⟩, hu⟩
        simp [b0__law_node, callR, argD, outs, e1, hv])
    (S.map tI) [some (dk deep st), some t.d, some (.int depth), a3, a4, some (.list []), a6, a7, a8] ⟨deep, st, a6, a7, [], rfl, ok, by simp, by simp, fun d hd => by
      obtain ⟨s, hs, rfl⟩ := List.mem_map.mp hd
      exact ⟨s, rfl, hS s hs⟩, ⟨S, rfl, by simpa using Sn⟩, fun p hp => by cases hp⟩
  exact ⟨ps, deep', st', a6', a7', e, by simpa using h1, h2, ⟨(List.pairwise_append.mp hn0).1, hu0⟩, ok'⟩

end Tx
namespace Tx
open PySem PySem.Spec PyProof.Rows L2 TV
theorem node_tail {Γ : Nat → Fn} (hd : DrawOk (Γ i__law_draw)) (hf : LeafFn (Γ i__law_leaf)) {m : Nat} (rec : ∀ m', m = m' + 1 → NodeFn m' (Γ i__law_node)) {t : Tab} {cells : Nat} (tok : TabOk cells t) (vok : ValsOk t) (t60 : t.words.length ≤ 60) {depth : Int} (hdep : depth ≤ m + 1) {lot : List Int} (hlot : LotOk cells lot) (hasc : lot.Pairwise (· < ·))
    {S : List (List Int)} (hS : ∀ s ∈ S, SiOk lot.length s) (Sn : S.Pairwise Lx) (S4 : S.length ≤ 4) {deep : List Int} {st : Int} (ok : DkOk deep st) :
    ∃ x deep' st' ρ', exSs Γ (Sdr f__law_node.body 3) [some (dk deep st), some t.d, some (.int depth), some (tI lot), some (.list (S.map tI)), none, none, none, none] = .ret x (some (dk deep' st') :: ρ') ∧ (Lk cells m x ∧ Uq (m + 1) x) ∧ DkOk deep' st' := by
  obtain ⟨ps, d1, s1, a6, a7, e, p1, p2, ⟨u1, u2⟩, ok1⟩ := node_loop (n := lot.length) (a3 := some (tI lot)) (a4 := some (.list (S.map tI))) (a8 := none) (a6 := none) (a7 := none) hd hf rec tok vok t60 hdep hS Sn S4 ok
  refine ⟨mkLook lot ps, d1, s1, [some t.d, some (.int depth), some (tI lot), some (.list (S.map tI)), some (.list (ps.map pairD)), a6, a7, none], ?_, ⟨⟨lot, ps, hlot, by omega, p2, rfl⟩, .look ⟨hasc, u1⟩ u2⟩, ok1⟩
  simp [Sdr, f__law_node, LIM, e]
  rfl
theorem node_sem {Γ : Nat → Fn} (hd : DrawOk (Γ i__law_draw)) (hp : PickOk (Γ i__law_pick)) (hl : LotFn (Γ i__law_lot)) (hs : ShownFn (Γ i__law_shown)) (hf : LeafFn (Γ i__law_leaf)) (m : Nat) (rec : ∀ m', m = m' + 1 → NodeFn m' (Γ i__law_node)) : NodeFn m (f__law_node.sem Γ) := fun {deep st} ok {t cells} tok vok t60 depth hdep => by
  have c1 := tok.c1
  have c3 := tok.c3
  have t2 := tok.two
  obtain ⟨lot, d1, s1, e1, ⟨hlot, hasc⟩, ok1⟩ := hl ok (c := cells) (by omega) (by omega)
  have l100 : lot.length ≤ 100 := by have := hlot.2.1; omega
  have l1 : 1 ≤ lot.length := List.length_pos_iff.mpr hlot.1
  have hw0 : (t.words.map tI)[0]? = some (tI t.words[0]) := by rw [List.getElem?_map, List.getElem?_eq_getElem (by omega)]; rfl
  have a0 : atD [.tuple (t.words.map tI), .tuple (t.vals.map .int)] 0 = some (.tuple (t.words.map tI)) := rfl
  have a00 := atD_at hw0
  have rl : t.words[0].length = cells := (tok.row _ (List.getElem_mem (by omega))).1
  have m0 := lcF_fm (ρ := [some (dk d1 s1), some t.d, some (.int depth), some (tI lot), none, none, none, none, none]) (body := lcT [8] (Tg.v 8) (allD (evE Γ e0__law_node))) (g := fun p : List Int × Nat => .int (p.2 : Nat)) (f := fun p => some (tI (look p.1 lot))) t.words.zipIdx (fun p hp => by
    have hrow : t.words[p.2]? = some p.1 := List.mem_zipIdx_iff_getElem?.mp hp
    have e := hs tok hlot.2.2 l100 hrow
    simp [e0__law_node, lcT, bindT, allD, wipeE, callR, argD, outs, e])
  have rz : rngD 0 (t.words.length : Int) = t.words.zipIdx.map fun p => .int (p.2 : Nat) := by
    unfold rngD
    simp only [Int.sub_zero, Int.toNat_natCast, Int.zero_add]
    have h := List.zipIdx_map_snd 0 t.words
    rw [← List.range_eq_range'] at h
    rw [← h, List.map_map]
    rfl
  have fm : (t.words.zipIdx.filterMap fun p => some (tI (look p.1 lot))) = (t.words.map fun r => look r lot).map tI := by
    have h := List.zipIdx_map_fst 0 t.words
    rw [show (fun p : List Int × Nat => some (tI (look p.1 lot))) = some ∘ (fun p => tI (look p.1 lot)) from rfl, List.filterMap_eq_map, List.map_map]
    conv => rhs; rw [← h, List.map_map]
    rfl
  rw [fm, ← rz] at m0
  have hlc := lcD_ok (vs := [8]) (tg := Tg.v 8) (w := evW Γ (W.rng1 (E.b1 B1.len (E.b2 B2.idx (E.v 1) (E.c (.int 0)))))) (body := allD (evE Γ e0__law_node)) (ρ := [some (dk d1 s1), some t.d, some (.int depth), some (tI lot), none, none, none, none, none]) (ρ1 := [some (dk d1 s1), some t.d, some (.int depth), some (tI lot), none, none, none, none, none])
    (by simp [Tab.d, a0, rng1K_i (n := (t.words.length : Int)) (by unfold LIM; omega) (by unfold LIM; omega)]) (by rw [rngD_len]; simp [LIM]; omega) m0
  have sok : ∀ x ∈ t.words.map (fun r => look r lot), SiOk lot.length x := fun x hx => by
    obtain ⟨r, hr, rfl⟩ := List.mem_map.mp hx
    exact look_ok tok hlot.2.2 hr
  have es := o_setT l1 sok (by simp; omega)
  have Xn : (setT (t.words.map fun r => look r lot)).Pairwise Lx := nodup_setT sok
  generalize hX : setT (t.words.map fun r => look r lot) = X at es Xn
  have Xn : (X.take 3).Pairwise Lx := List.Pairwise.sublist (List.take_sublist _ _) Xn
  have Xok : ∀ x ∈ X.take 3, SiOk lot.length x := fun x hx => sok x (mem_setT (by rw [hX]; exact List.mem_of_mem_take hx))
  have cut : TV.cutD (X.map tI) none (some 3) = (X.take 3).map tI := by
    have := cut_n (ds := X.map tI) (n := 3)
    rw [show ((3 : Nat) : Int) = 3 from rfl] at this
    rw [this, List.map_take]
  have X3 : (X.take 3).length ≤ 3 := List.length_take_le _ _
  generalize X.take 3 = S at cut Xok X3 Xn
  obtain ⟨v, d2, s2, e2, _, _, ok2⟩ := hd ok1 6 (by decide)
  have hb : f__law_node.body = .cons _ (.cons _ (.cons _ (Sdr f__law_node.body 3))) := rfl
  have T := fun (S : List (List Int)) h1 hn h2 {deep st} ok => node_tail (deep := deep) (st := st) hd hf rec tok vok t60 hdep hlot hasc (S := S) h1 hn h2 ok
  have hrun : ∀ {x : D} {d' : List Int} {s' : Int} {ρ' : TV.Env}, exSs Γ f__law_node.body [some (dk deep st), some t.d, some (.int depth), none, none, none, none, none, none] = .ret x (some (dk d' s') :: ρ') → f__law_node.sem Γ [dk deep st, t.d, .int depth] = .ok x [some (dk d' s')] := fun h => by
    show TV.run Γ 9 [0] true f__law_node.body _ = _
    rw [run_ret h]
    rfl
  have e1' : Γ i__law_lot [dk deep st, .int cells] = .ok (tI lot) [some (dk d1 s1)] := e1
  have a00' : atD (t.words.map tI) 0 = some (tI t.words[0]) := a00
  have es2 : b1 .setT (.list ((t.words.map fun r => look r lot).map tI)) = some (.list (X.map tI)) := es
  by_cases hv : v = 0
  · obtain ⟨z, hz, d3, s3, e3, ok3⟩ := leaf_pick hp ok2 [0, 3, 199] (by simp) (by simp) _ (.inl rfl)
    simp only [List.map_cons, List.map_nil] at e3
    have z2 : 0 ≤ z ∧ z < 200 := by simp at hz; omega
    have rok : ∀ x ∈ S ++ [List.replicate lot.length z], SiOk lot.length x := fun x hx => by
      rcases List.mem_append.mp hx with hx | hx
      · exact Xok x hx
      · simp at hx; subst hx
        exact ⟨by simp, fun i hi => by rw [List.eq_of_mem_replicate hi]; exact z2⟩
    have er := o_setT l1 rok (by simp; omega)
    have ap : S.map tI ++ [PyData.tuple (List.replicate lot.length (.int z))] = (S ++ [List.replicate lot.length z]).map tI := by simp [tI]
    obtain ⟨x, d4, s4, ρ', e4, h4, ok4⟩ := T (setT (S ++ [List.replicate lot.length z])) (fun s hs => rok s (mem_setT hs)) (nodup_setT rok) (by have := len_setT (xs := S ++ [List.replicate lot.length z]); simp at this; omega) ok3
    refine ⟨x, d4, s4, hrun (ρ' := ρ') ?_, h4, ok4⟩
    rw [hb]
    generalize Sdr f__law_node.body 3 = TT at e4 ⊢
    have ml := o_mulT (x := .int z) (n := lot.length) (by unfold LIM; omega)
    have ad : b2 .add (.list (S.map tI)) (.list [.tuple (List.replicate lot.length (.int z))]) = some (.list ((S ++ [List.replicate lot.length z]).map tI)) := by rw [o_addS (by simp [LIM]; omega), ap]
    generalize S ++ [List.replicate lot.length z] = RR at er ad e4
    simp only [Tab.d] at hlc e4
    simp [-List.map_map, Tab.d, a0, a00', rl, callR, argD, outs, e1', hlc, backE, es2, cut, e2, eq_int, hv, e3, LIM, ml, ad, er, e4]
  · obtain ⟨x, d4, s4, ρ', e4, h4, ok4⟩ := T S Xok Xn (by omega) ok2
    refine ⟨x, d4, s4, hrun (ρ' := ρ') ?_, h4, ok4⟩
    rw [hb]
    generalize Sdr f__law_node.body 3 = TT at e4 ⊢
    simp only [Tab.d] at hlc e4
    simp [-List.map_map, Tab.d, a0, a00', rl, callR, argD, outs, e1', hlc, backE, es2, cut, e2, eq_int, hv, e4]

end Tx
namespace Tx
open PySem PySem.Spec PyProof.Rows L2 TV
theorem Leaf.fits {x : D} (h : Leaf x) : pd x = true ∧ x.depth ≤ 1 ∧ tx x = true ∧ sz x ≤ 33 := by
  cases h with
  | again => exact ⟨by decide +kernel, by decide +kernel, by decide +kernel, by decide +kernel⟩
  | tell v h =>
    have e1 : PyData.strOk "tell" = true := by decide +kernel
    have e2 : (reprText "tell").length ≤ 12 := by decide +kernel
    have e3 : PyData.strOk (reprText "tell") = true := by decide +kernel
    have e4 : v.natAbs < 10 ^ 13 := by omega
    refine ⟨by simp [pd, pds, e1], by simp [PyData.depth, PyData.depthAll], ?_, by simp [sz, szs]⟩
    simp only [tx, txs, e3, decide_eq_true e2, decide_eq_true e4]
    rfl
def NB : Nat → Nat
  | 0 => 33
  | k + 1 => 315 + 4 * NB k
theorem NB_33 : ∀ k, 33 ≤ NB k
  | 0 => Nat.le_refl _
  | k + 1 => by
    have := NB_33 k
    simp only [NB]; omega
theorem Nd.fits {c : Nat} (hc : c ≤ 3) : ∀ {k : Nat} {x : D}, Nd c k x → pd x = true ∧ x.depth ≤ 3 * k + 1 ∧ tx x = true ∧ sz x ≤ NB k
  | 0, x, h => Leaf.fits h
  | k + 1, x, .inl h => by
    obtain ⟨h1, h2, h3, h4⟩ := Leaf.fits h
    have := NB_33 (k + 1)
    exact ⟨h1, by omega, h3, by omega⟩
  | k + 1, x, .inr ⟨lot, ps, ⟨_, l2, l3⟩, p4, hp, e⟩ => by
    subst e
    have e1 : PyData.strOk "look" = true := by decide +kernel
    have e2 : (reprText "look").length ≤ 12 := by decide +kernel
    have e3 : PyData.strOk (reprText "look") = true := by decide +kernel
    have ll : lot.length ≤ 3 := by omega
    have lt : tx (tI lot) = true := tI_tx fun i hi => by have := l3 i hi; omega
    have ls := tI_sz lot
    have q : ∀ d ∈ ps.map pairD, pd d = true ∧ d.depth ≤ 3 * k + 2 ∧ tx d = true ∧ sz d ≤ 58 + NB k := fun d hd => by
      obtain ⟨p, hpm, rfl⟩ := List.mem_map.mp hd
      obtain ⟨⟨s1, s2⟩, hn⟩ := hp p hpm
      obtain ⟨h1, h2, h3, h4⟩ := Nd.fits hc hn
      have st : tx (tI p.1) = true := tI_tx fun i hi => by have := s2 i hi; omega
      have ss := tI_sz p.1
      refine ⟨?_, ?_, ?_, ?_⟩
      · simp only [pairD, pd, pds, tI_pd, h1, Bool.and_self]
      · simp only [pairD, PyData.depth, PyData.depthAll, tI_dp]; omega
      · simp only [pairD, tx, txs, st, h3, Bool.and_self]
      · simp only [pairD, sz, szs]; omega
    have q1 := pds_of fun d hd => (q d hd).1
    have q2 := depthAll_le fun d hd => (q d hd).2.1
    have q3 := txs_of fun d hd => (q d hd).2.2.1
    have q4 := szs_le fun d hd => (q d hd).2.2.2
    rw [List.length_map] at q4
    have q5 : (58 + NB k + 2) * ps.length ≤ (58 + NB k + 2) * 4 := Nat.mul_le_mul_left _ p4
    refine ⟨?_, ?_, ?_, ?_⟩
    · simp only [mkLook, pd, pds, e1, tI_pd, q1, Bool.and_self]
    · simp only [mkLook, PyData.depth, PyData.depthAll, tI_dp]; omega
    · simp only [mkLook, tx, txs, e3, decide_eq_true e2, lt, q3, Bool.and_self]
    · simp only [mkLook, sz, szs, NB]; omega
/-! what is behind a look -/
def nxt (ps : List (List Int × D)) (s : List Int) : D := ((ps.find? fun p => decide (p.1 = s)).map (·.2)).getD again
theorem nxt_nd {c k : Nat} {ps : List (List Int × D)} (h : ∀ p ∈ ps, Nd c k p.2) (s : List Int) : Nd c k (nxt ps s) := by
  unfold nxt
  cases e : ps.find? (fun p => decide (p.1 = s)) with
  | none =>
    cases k with
    | zero => exact Leaf.again
    | succ k => exact .inl Leaf.again
  | some p => exact h p (List.mem_of_find?_eq_some e)
theorem nxt_fit (ps : List (List Int × D)) (s : List Int) : (ps.filterMap fun p => if p.1 = s then some p.2 else none) = [] ∧ nxt ps s = again ∨ ∃ r, (ps.filterMap fun p => if p.1 = s then some p.2 else none) = nxt ps s :: r := by
  induction ps with
  | nil => exact .inl ⟨rfl, rfl⟩
  | cons p ps ih =>
    by_cases h : p.1 = s
    · right
      exact ⟨ps.filterMap fun p => if p.1 = s then some p.2 else none, by simp [nxt, h]⟩
    · have e : nxt (p :: ps) s = nxt ps s := by simp [nxt, h]
      simp only [List.filterMap_cons, if_neg h, e]
      exact ih
@[simp] theorem o_lk0 {lot : List Int} {ps : List (List Int × D)} : b2 .idx (mkLook lot ps) (.int 0) = some (.str "look") := rfl
@[simp] theorem o_lk1 {lot : List Int} {ps : List (List Int × D)} : b2 .idx (mkLook lot ps) (.int 1) = some (tI lot) := rfl
@[simp] theorem o_lk2 {lot : List Int} {ps : List (List Int × D)} : b2 .idx (mkLook lot ps) (.int 2) = some (.tuple (ps.map pairD)) := rfl
@[simp] theorem o_ag0 : b2 .idx again (.int 0) = some (.str "again") := rfl
theorem e_lt : eqD (.str "look") (.str "tell") = some false := by decide +kernel
theorem e_ll : eqD (.str "look") (.str "look") = some true := by decide +kernel
theorem e_tt : eqD (.str "tell") (.str "tell") = some true := by decide +kernel
theorem e_tl : eqD (.str "tell") (.str "look") = some false := by decide +kernel
theorem e_at : eqD (.str "again") (.str "tell") = some false := by decide +kernel
theorem e_al : eqD (.str "again") (.str "look") = some false := by decide +kernel

end Tx
namespace Tx
open PySem PySem.Spec PyProof.Rows L2 TV
theorem leaf_head {x : D} (h : Leaf x) : ∃ s r, x = .tuple (.str s :: r) ∧ eqD (.str s) (.str "look") = some false := by
  cases h with
  | again => exact ⟨_, _, rfl, e_al⟩
  | tell v h => exact ⟨_, _, rfl, e_tl⟩
theorem filterMap_ints : ∀ {ds : List D} {os : List (Option D)}, os.length = ds.length → (∀ p ∈ ds.zip os, ∃ n : Int, p.2 = some (.int n)) → ∃ ns : List Int, os.filterMap id = ns.map .int
  | [], [], _, _ => ⟨[], rfl⟩
  | d :: ds, o :: os, hl, h => by
    obtain ⟨n, e⟩ := h (d, o) (by rw [List.zip_cons_cons]; exact List.mem_cons_self)
    obtain ⟨ns, e2⟩ := filterMap_ints (ds := ds) (os := os) (by simpa using hl) fun p hp => h p (by rw [List.zip_cons_cons]; exact List.mem_cons_of_mem _ hp)
    have e : o = some (.int n) := e
    subst e
    exact ⟨n :: ns, by simp [e2]⟩
  | [], _ :: _, hl, _ => by simp at hl
  | _ :: _, [], hl, _ => by simp at hl
theorem o_sum (is : List Int) : b1 .sum (.list (is.map .int)) = some (.int is.sum) := by
  show (match intsD (is.map PyData.int) with
    | some is => some (PyData.int is.sum)
    | none => none) = _
  rw [intsD_i]

end Tx
namespace Tx
open PySem PySem.Spec PyProof.Rows L2 TV
def tT (xs : List (List Int)) : D := .tuple (xs.map tI)
abbrev lksD (qs : List (List Int × List Int)) : D := tT (qs.map (·.1))
abbrev wrdD (qs : List (List Int × List Int)) : D := tT (qs.map (·.2))
def unI : List D → List Int
  | [] => []
  | .int i :: r => i :: unI r
  | _ :: r => unI r
theorem unI_map : ∀ is : List Int, unI (is.map .int) = is
  | [] => rfl
  | i :: is => by simp [unI, unI_map is]
def unP : D → List Int × D
  | .tuple [.tuple s, x] => (unI s, x)
  | _ => ([], .none)
theorem unP_pair (p : List Int × D) : unP (pairD p) = p := by
  show (unI (p.1.map .int), p.2) = p
  rw [unI_map]
abbrev Pth := List (List Int × List Int) × D
def AllP (c : Nat) (Q : Pth → Prop) : Nat → List (List Int × List Int) → D → Prop
  | 0, qs, x => Leaf x ∧ Q (qs, x)
  | k + 1, qs, x => (Leaf x ∧ Q (qs, x)) ∨ ∃ lot ps, LotOk c lot ∧ ps.length ≤ 4 ∧ (∀ p ∈ ps, SiOk lot.length p.1 ∧ AllP c Q k (qs ++ [(lot, p.1)]) p.2) ∧ x = mkLook lot ps
def AllL (c : Nat) (Q : Pth → Prop) (k : Nat) (qs : List (List Int × List Int)) (x : D) : Prop := ∃ lot ps, LotOk c lot ∧ ps.length ≤ 4 ∧ (∀ p ∈ ps, SiOk lot.length p.1 ∧ AllP c Q k (qs ++ [(lot, p.1)]) p.2) ∧ x = mkLook lot ps
theorem AllL.p {c : Nat} {Q : Pth → Prop} {k : Nat} {qs : List (List Int × List Int)} {x : D} (h : AllL c Q k qs x) : AllP c Q (k + 1) qs x := .inr h
theorem AllP.nd {c : Nat} {Q : Pth → Prop} : ∀ {k : Nat} {qs : List (List Int × List Int)} {x : D}, AllP c Q k qs x → Nd c k x
  | 0, _, _, h => h.1
  | k + 1, _, _, .inl h => .inl h.1
  | k + 1, _, _, .inr ⟨lot, ps, h1, h2, h3, h4⟩ => .inr ⟨lot, ps, h1, h2, fun p hp => ⟨(h3 p hp).1, (h3 p hp).2.nd⟩, h4⟩
theorem AllL.lk {c : Nat} {Q : Pth → Prop} {k : Nat} {qs : List (List Int × List Int)} {x : D} (h : AllL c Q k qs x) : Lk c k x := by
  obtain ⟨lot, ps, h1, h2, h3, h4⟩ := h
  exact ⟨lot, ps, h1, h2, fun p hp => ⟨(h3 p hp).1, (h3 p hp).2.nd⟩, h4⟩
theorem AllP.up {c : Nat} {Q : Pth → Prop} : ∀ {k : Nat} {qs : List (List Int × List Int)} {x : D}, AllP c Q k qs x → AllP c Q (k + 1) qs x
  | 0, _, _, h => .inl h
  | k + 1, _, _, .inl h => .inl h
  | k + 1, _, _, .inr ⟨lot, ps, h1, h2, h3, h4⟩ => .inr ⟨lot, ps, h1, h2, fun p hp => ⟨(h3 p hp).1, (h3 p hp).2.up⟩, h4⟩
def pthD (p : Pth) : D := .tuple [lksD p.1, wrdD p.1, p.2]
abbrev pathT : Tg := .t (.cons (.v 4) (.cons (.v 5) .nil))

end Tx
namespace Tx
open PySem PySem.Spec PyProof.Rows L2 TV
def pthF : Nat → List (List Int × List Int) → D → List Pth
  | 0, qs, x => [(qs, x)]
  | k + 1, qs, .tuple [_, .tuple lot, .tuple ps] => ps.flatMap fun d => pthF k (qs ++ [(unI lot, (unP d).1)]) (unP d).2
  | _ + 1, qs, x => [(qs, x)]
theorem pthF_look (k : Nat) (qs : List (List Int × List Int)) (lot : List Int) (ps : List (List Int × D)) : pthF (k + 1) qs (mkLook lot ps) = ps.flatMap fun p => pthF k (qs ++ [(lot, p.1)]) p.2 := by
  show ((ps.map pairD).flatMap fun d => pthF k (qs ++ [(unI (lot.map .int), (unP d).1)]) (unP d).2) = _
  rw [unI_map, List.flatMap_map]
  congr 1
  funext p
  rw [unP_pair]
theorem pthF_leaf {k : Nat} {qs : List (List Int × List Int)} {x : D} (h : Leaf x) : pthF k qs x = [(qs, x)] := by
  cases k with
  | zero => rfl
  | succ k => cases h <;> rfl
theorem pthF_all {c : Nat} {Q : Pth → Prop} : ∀ {k : Nat} {qs : List (List Int × List Int)} {x : D}, AllP c Q k qs x → ∀ p ∈ pthF k qs x, Leaf p.2 ∧ Q p
  | 0, qs, x, h, p, hp => by simp [pthF] at hp; subst hp; exact h
  | k + 1, qs, x, .inl h, p, hp => by rw [pthF_leaf h.1] at hp; simp at hp; subst hp; exact h
  | k + 1, qs, x, .inr ⟨lot, ps, h1, h2, h3, h4⟩, p, hp => by
    subst h4
    rw [pthF_look, List.mem_flatMap] at hp
    obtain ⟨q, hq, hp⟩ := hp
    exact pthF_all (h3 q hq).2 p hp
theorem nd_all {c : Nat} : ∀ {k : Nat} {qs : List (List Int × List Int)} {x : D}, Nd c k x → AllP c (fun _ => True) k qs x
  | 0, _, _, h => ⟨h, trivial⟩
  | k + 1, _, _, .inl h => .inl ⟨h, trivial⟩
  | k + 1, _, _, .inr ⟨lot, ps, h1, h2, h3, h4⟩ => .inr ⟨lot, ps, h1, h2, fun p hp => ⟨(h3 p hp).1, nd_all (h3 p hp).2⟩, h4⟩
def PqOk (c : Nat) (qs : List (List Int × List Int)) : Prop := ∀ q ∈ qs, LotOk c q.1 ∧ SiOk q.1.length q.2
theorem AllP.deep {c : Nat} {Q : Pth → Prop} : ∀ {k : Nat} {qs : List (List Int × List Int)} {x : D}, AllP c Q k qs x → PqOk c qs → ∀ {n}, qs.length + k ≤ n → AllP c (fun p => Q p ∧ PqOk c p.1 ∧ p.1.length ≤ n) k qs x
  | 0, qs, x, h, hq, n, hl => ⟨h.1, h.2, hq, by show qs.length ≤ n; omega⟩
  | k + 1, qs, x, .inl h, hq, n, hl => .inl ⟨h.1, h.2, hq, by show qs.length ≤ n; omega⟩
  | k + 1, qs, x, .inr ⟨lot, ps, h1, h2, h3, h4⟩, hq, n, hl => .inr ⟨lot, ps, h1, h2, fun p hp => ⟨(h3 p hp).1, AllP.deep (h3 p hp).2 (fun q hm => by
      rcases List.mem_append.mp hm with hm | hm
      · exact hq q hm
      · simp at hm; subst hm; exact ⟨h1, (h3 p hp).1⟩) (by simp; omega)⟩, h4⟩
theorem AllP.mono {c : Nat} {Q Q' : Pth → Prop} (h : ∀ p, Q p → Q' p) : ∀ {k : Nat} {qs : List (List Int × List Int)} {x : D}, AllP c Q k qs x → AllP c Q' k qs x
  | 0, _, _, a => ⟨a.1, h _ a.2⟩
  | k + 1, _, _, .inl a => .inl ⟨a.1, h _ a.2⟩
  | k + 1, _, _, .inr ⟨lot, ps, h1, h2, h3, h4⟩ => .inr ⟨lot, ps, h1, h2, fun p hp => ⟨(h3 p hp).1, AllP.mono h (h3 p hp).2⟩, h4⟩
theorem AllL.mono {c : Nat} {Q Q' : Pth → Prop} (h : ∀ p, Q p → Q' p) {k : Nat} {qs : List (List Int × List Int)} {x : D} (a : AllL c Q k qs x) : AllL c Q' k qs x := by
  obtain ⟨lot, ps, h1, h2, h3, h4⟩ := a
  exact ⟨lot, ps, h1, h2, fun p hp => ⟨(h3 p hp).1, AllP.mono h (h3 p hp).2⟩, h4⟩
theorem pthF_len {c : Nat} : ∀ {k : Nat} {qs : List (List Int × List Int)} {x : D}, Nd c k x → (pthF k qs x).length ≤ 4 ^ k
  | 0, _, _, _ => by simp [pthF]
  | k + 1, qs, x, .inl h => by
    rw [pthF_leaf h]
    have := Nat.pow_le_pow_right (n := 4) (by decide) (Nat.zero_le (k + 1))
    simpa using this
  | k + 1, qs, x, .inr ⟨lot, ps, h1, h2, h3, h4⟩ => by
    subst h4
    rw [pthF_look, List.length_flatMap]
    have key : ∀ l : List (List Int × D), (∀ p ∈ l, p ∈ ps) → (l.map fun p => (pthF k (qs ++ [(lot, p.1)]) p.2).length).sum ≤ l.length * 4 ^ k := fun l => by
      induction l with
      | nil => intro _; simp
      | cons p l ih =>
        intro hm
        have h5 := pthF_len (qs := qs ++ [(lot, p.1)]) (h3 p (hm p List.mem_cons_self)).2
        have h6 := ih fun q hq => hm q (List.mem_cons_of_mem _ hq)
        simp only [List.map_cons, List.sum_cons, List.length_cons, Nat.add_mul, Nat.one_mul]
        omega
    have h7 := key ps fun _ h => h
    have h8 : ps.length * 4 ^ k ≤ 4 * 4 ^ k := Nat.mul_le_mul_right _ h2
    rw [Nat.pow_succ]
    omega
def PathsEx (k : Nat) (F : Fn) : Prop := ∀ (c : Nat) (qs : List (List Int × List Int)) (x : D), Nd c k x → qs.length + k ≤ 100 → F [lksD qs, wrdD qs, x] = .ok (.list ((pthF k qs x).map pthD)) []
def LPathsEx (k : Nat) (F : Fn) : Prop := ∀ (c : Nat) (qs : List (List Int × List Int)) (x : D), Nd c k x → qs.length + k ≤ 100 → F [x, lksD qs, wrdD qs] = .ok (.list ((pthF k qs x).map pthD)) []
theorem flat_len {α β : Type} {f : α → List β} {n m : Nat} : ∀ {xs : List α}, (∀ x ∈ xs, (f x).length ≤ m) → xs.length ≤ n → (xs.flatMap f).length ≤ n * m
  | [], _, _ => by simp
  | x :: xs, h, hl => by
    cases n with
    | zero => simp at hl
    | succ n =>
      have h1 := flat_len (n := n) (xs := xs) (fun y hy => h y (List.mem_cons_of_mem _ hy)) (by simpa using hl)
      have h2 := h x List.mem_cons_self
      simp only [List.flatMap_cons, List.length_append, Nat.add_mul, Nat.one_mul]
      omega
theorem pathsEx_sem {Γ : Nat → Fn} {k : Nat} (hk : k ≤ 8) (rec : ∀ k', k = k' + 1 → PathsEx k' (Γ i_paths_on)) : PathsEx k (f_paths_on.sem Γ) := fun c qs x hx hlen => by
  have leaf : Leaf x → f_paths_on.sem Γ [lksD qs, wrdD qs, x] = .ok (.list ((pthF k qs x).map pthD)) [] := fun h => by
    rw [pthF_leaf h]
    have e3 : [(qs, x)].map pthD = [.tuple [lksD qs, wrdD qs, x]] := rfl
    rw [e3]
    generalize lksD qs = L1
    generalize wrdD qs = L2
    obtain ⟨s, r, rfl, e⟩ := leaf_head h
    have a0 : atD (.str s :: r) 0 = some (.str s) := atD_at (n := 0) rfl
    unfold Df.sem TV.run f_paths_on
    simp [Df.ios, iosOf, Sh.isM, a0, e, LIM]
  cases k with
  | zero => exact leaf hx
  | succ k =>
    rcases hx with h | ⟨lot, ps, hlot, h4, hp, rfl⟩
    · exact leaf h
    · rw [pthF_look]
      obtain ⟨ρ, e, done, rest', a4, a5, he, hr, rfl⟩ := forF_inv (body := forT pathT (exSs Γ b0_paths_on))
        (fun rest ρ => ∃ (done rest' : List (List Int × D)) (a4 a5 : Option D), done ++ rest' = ps ∧ rest = rest'.map pairD ∧ ρ = [some (lksD qs), some (wrdD qs), some (mkLook lot ps), some (.list ((done.flatMap fun p => pthF k (qs ++ [(lot, p.1)]) p.2).map pthD)), a4, a5])
        (fun d ds ρ ⟨done, rest', a4, a5, he, hr, e⟩ => by
          subst e
          cases rest' with
          | nil => simp at hr
          | cons p r =>
            simp only [List.map_cons, List.cons.injEq] at hr
            obtain ⟨rfl, rfl⟩ := hr
            obtain ⟨sk, np⟩ := hp p (by rw [← he]; simp)
            have e1 := rec k rfl c (qs ++ [(lot, p.1)]) p.2 np (by simp; omega)
            have dl : done.length + (r.length + 1) = ps.length := by rw [← he]; simp
            refine ⟨_, .inl ?_, done ++ [p], r, some (tI p.1), some p.2, by simp [← he], rfl, rfl⟩
            have n1 : (qs.map (·.1)).map tI ++ [tI lot] = ((qs ++ [(lot, p.1)]).map (·.1)).map tI := by simp
            have n2 : (qs.map (·.2)).map tI ++ [tI p.1] = ((qs ++ [(lot, p.1)]).map (·.2)).map tI := by simp
            have l1 : ((qs.map (·.1)).map tI).length + 1 ≤ LIM := by simp [LIM]; omega
            have l2 : ((qs.map (·.2)).map tI).length + 1 ≤ LIM := by simp [LIM]; omega
            have pk : (4 : Nat) ^ k ≤ 4 ^ 8 := Nat.pow_le_pow_right (by decide) (by omega)
            have f1 := flat_len (f := fun p : List Int × D => pthF k (qs ++ [(lot, p.1)]) p.2) (n := 4) (m := 4 ^ 8) (xs := done) (fun q hq => Nat.le_trans (pthF_len (hp q (by rw [← he]; simp [hq])).2) pk) (by omega)
            have f2 := Nat.le_trans (pthF_len (qs := qs ++ [(lot, p.1)]) np) pk
            have l3 : ((done.flatMap fun p => pthF k (qs ++ [(lot, p.1)]) p.2).map pthD).length + ((pthF k (qs ++ [(lot, p.1)]) p.2).map pthD).length ≤ LIM := by
              rw [List.length_map, List.length_map]
              have : (4 : Nat) ^ 8 = 65536 := by decide
              unfold LIM; omega
            have n3 : ((done ++ [p]).flatMap fun p => pthF k (qs ++ [(lot, p.1)]) p.2).map pthD = (done.flatMap fun p => pthF k (qs ++ [(lot, p.1)]) p.2).map pthD ++ (pthF k (qs ++ [(lot, p.1)]) p.2).map pthD := by
              rw [List.flatMap_append, List.map_append]
              simp
            rw [n3]
            generalize (done.flatMap fun p => pthF k (qs ++ [(lot, p.1)]) p.2).map pthD = L' at l3
            generalize (pthF k (qs ++ [(lot, p.1)]) p.2).map pthD = M' at l3 e1
            simp only [lksD, wrdD, tT] at e1
            rw [← n1, ← n2] at e1
            simp only [lksD, wrdD, tT]
            generalize (qs.map (·.1)).map tI = A at e1 l1
            generalize (qs.map (·.2)).map tI = B at e1 l2
            simp only [LIM] at l1 l2 l3
            simp [forT, pathT, pairD, bindT, bindTs, b0_paths_on, callR, argD, outs, extD, getPl, setPl, LIM, l1, l2, e1, l3])
        (ps.map pairD) [some (lksD qs), some (wrdD qs), some (mkLook lot ps), some (.list []), none, none] ⟨[], ps, none, none, rfl, rfl, rfl⟩
      have : rest' = [] := by
        cases rest' with
        | nil => rfl
        | cons _ _ => simp at hr
      subst this
      simp only [List.append_nil] at he
      subst he
      generalize (done.flatMap fun p => pthF k (qs ++ [(lot, p.1)]) p.2).map pthD = LL at e ⊢
      generalize lksD qs = L1 at e ⊢
      generalize wrdD qs = L2 at e ⊢
      unfold Df.sem TV.run f_paths_on
      simp [Df.ios, iosOf, Sh.isM, e_ll, LIM, e, mvD]
def PofEx (k : Nat) (F : Fn) : Prop := ∀ (c : Nat) (x : D), Nd c k x → F [x] = .ok (.tuple ((pthF k [] x).map pthD)) []
theorem pofEx_sem {Γ : Nat → Fn} {k : Nat} (hk : k ≤ 8) (hp : PathsEx k (Γ i_paths_on)) : PofEx k (f_paths_of.sem Γ) := fun c x hx => by
  have e := hp c [] x hx (by simp; omega)
  change Γ i_paths_on [.tuple [], .tuple [], x] = _ at e
  unfold Df.sem TV.run f_paths_of
  simp [-List.map_map, Df.ios, iosOf, Sh.isM, callR, argD, outs, e, LIM]
theorem lpathsEx_sem {Γ : Nat → Fn} {k : Nat} (hk : k ≤ 8) (rec : ∀ k', k = k' + 1 → LPathsEx k' (Γ i__law_paths)) : LPathsEx k (f__law_paths.sem Γ) := fun c qs x hx hlen => by
  have leaf : Leaf x → f__law_paths.sem Γ [x, lksD qs, wrdD qs] = .ok (.list ((pthF k qs x).map pthD)) [] := fun h => by
    rw [pthF_leaf h]
    have e3 : [(qs, x)].map pthD = [.tuple [lksD qs, wrdD qs, x]] := rfl
    rw [e3]
    generalize lksD qs = L1
    generalize wrdD qs = L2
    obtain ⟨s, r, rfl, e⟩ := leaf_head h
    have a0 : atD (.str s :: r) 0 = some (.str s) := atD_at (n := 0) rfl
    unfold Df.sem TV.run f__law_paths
    simp [Df.ios, iosOf, Sh.isM, a0, e, LIM]
  cases k with
  | zero => exact leaf hx
  | succ k =>
    rcases hx with h | ⟨lot, ps, hlot, h4, hp, rfl⟩
    · exact leaf h
    · rw [pthF_look]
      obtain ⟨ρ, e, done, rest', a4, a5, he, hr, rfl⟩ := forF_inv (body := forT pathT (exSs Γ b0__law_paths))
        (fun rest ρ => ∃ (done rest' : List (List Int × D)) (a4 a5 : Option D), done ++ rest' = ps ∧ rest = rest'.map pairD ∧ ρ = [some (mkLook lot ps), some (lksD qs), some (wrdD qs), some (.list ((done.flatMap fun p => pthF k (qs ++ [(lot, p.1)]) p.2).map pthD)), a4, a5])
        (fun d ds ρ ⟨done, rest', a4, a5, he, hr, e⟩ => by
          subst e
          cases rest' with
          | nil => simp at hr
          | cons p r =>
            simp only [List.map_cons, List.cons.injEq] at hr
            obtain ⟨rfl, rfl⟩ := hr
            obtain ⟨sk, np⟩ := hp p (by rw [← he]; simp)
            have e1 := rec k rfl c (qs ++ [(lot, p.1)]) p.2 np (by simp; omega)
            have dl : done.length + (r.length + 1) = ps.length := by rw [← he]; simp
            refine ⟨_, .inl ?_, done ++ [p], r, some (tI p.1), some p.2, by simp [← he], rfl, rfl⟩
            have n1 : (qs.map (·.1)).map tI ++ [tI lot] = ((qs ++ [(lot, p.1)]).map (·.1)).map tI := by simp
            have n2 : (qs.map (·.2)).map tI ++ [tI p.1] = ((qs ++ [(lot, p.1)]).map (·.2)).map tI := by simp
            have l1 : ((qs.map (·.1)).map tI).length + [tI lot].length ≤ LIM := by simp [LIM]; omega
            have l2 : ((qs.map (·.2)).map tI).length + [tI p.1].length ≤ LIM := by simp [LIM]; omega
            have pk : (4 : Nat) ^ k ≤ 4 ^ 8 := Nat.pow_le_pow_right (by decide) (by omega)
            have f1 := flat_len (f := fun p : List Int × D => pthF k (qs ++ [(lot, p.1)]) p.2) (n := 4) (m := 4 ^ 8) (xs := done) (fun q hq => Nat.le_trans (pthF_len (hp q (by rw [← he]; simp [hq])).2) pk) (by omega)
            have f2 := Nat.le_trans (pthF_len (qs := qs ++ [(lot, p.1)]) np) pk
            have l3 : ((done.flatMap fun p => pthF k (qs ++ [(lot, p.1)]) p.2).map pthD).length + ((pthF k (qs ++ [(lot, p.1)]) p.2).map pthD).length ≤ LIM := by
              rw [List.length_map, List.length_map]
              have : (4 : Nat) ^ 8 = 65536 := by decide
              unfold LIM; omega
            have n3 : ((done ++ [p]).flatMap fun p => pthF k (qs ++ [(lot, p.1)]) p.2).map pthD = (done.flatMap fun p => pthF k (qs ++ [(lot, p.1)]) p.2).map pthD ++ (pthF k (qs ++ [(lot, p.1)]) p.2).map pthD := by
              rw [List.flatMap_append, List.map_append]
              simp
            rw [n3]
            generalize (done.flatMap fun p => pthF k (qs ++ [(lot, p.1)]) p.2).map pthD = L' at l3
            generalize (pthF k (qs ++ [(lot, p.1)]) p.2).map pthD = M' at l3 e1
            simp only [lksD, wrdD, tT] at e1
            rw [← n1, ← n2] at e1
            simp only [lksD, wrdD, tT]
            generalize (qs.map (·.1)).map tI = A at e1 l1
            generalize (qs.map (·.2)).map tI = B at e1 l2
            simp [forT, pathT, pairD, bindT, bindTs, b0__law_paths, callR, argD, outs, LIM, o_addT l1, o_addT l2, e1, o_addS l3])
        (ps.map pairD) [some (mkLook lot ps), some (lksD qs), some (wrdD qs), some (.list []), none, none] ⟨[], ps, none, none, rfl, rfl, rfl⟩
      have : rest' = [] := by
        cases rest' with
        | nil => rfl
        | cons _ _ => simp at hr
      subst this
      simp only [List.append_nil] at he
      subst he
      generalize (done.flatMap fun p => pthF k (qs ++ [(lot, p.1)]) p.2).map pthD = LL at e ⊢
      generalize lksD qs = L1 at e ⊢
      generalize wrdD qs = L2 at e ⊢
      unfold Df.sem TV.run f__law_paths
      simp [Df.ios, iosOf, Sh.isM, e_ll, LIM, e]
def flatP (lot : List Int) (ps : List (List Int × D)) : List Pth := ps.map fun p => ([(lot, p.1)], p.2)
theorem paths_flat {Γ : Nat → Fn} (h0 : PathsEx 0 (Γ i_paths_on)) {c : Nat} {lot : List Int} {ps : List (List Int × D)} (hl : ps.length ≤ 1000) (hp : ∀ p ∈ ps, Leaf p.2) : f_paths_on.sem Γ [.tuple [], .tuple [], mkLook lot ps] = .ok (.list ((flatP lot ps).map pthD)) [] := by
  obtain ⟨ρ, e, done, rest', a4, a5, he, hr, rfl⟩ := forF_inv (body := forT pathT (exSs Γ b0_paths_on))
    (fun rest ρ => ∃ (done rest' : List (List Int × D)) (a4 a5 : Option D), done ++ rest' = ps ∧ rest = rest'.map pairD ∧ ρ = [some (.tuple []), some (.tuple []), some (mkLook lot ps), some (.list ((flatP lot done).map pthD)), a4, a5])
    (fun d ds ρ ⟨done, rest', a4, a5, he, hr, e⟩ => by
      subst e
      cases rest' with
      | nil => simp at hr
      | cons p r =>
        simp only [List.map_cons, List.cons.injEq] at hr
        obtain ⟨rfl, rfl⟩ := hr
        have e1 := h0 c [(lot, p.1)] p.2 (hp p (by rw [← he]; simp)) (by simp)
        have dl : done.length + (r.length + 1) = ps.length := by rw [← he]; simp
        refine ⟨_, .inl ?_, done ++ [p], r, some (tI p.1), some p.2, by simp [← he], rfl, rfl⟩
        have l3 : ((flatP lot done).map pthD).length + 1 ≤ LIM := by simp [flatP, LIM]; omega
        have n3 : (flatP lot (done ++ [p])).map pthD = (flatP lot done).map pthD ++ [pthD ([(lot, p.1)], p.2)] := by simp [flatP]
        rw [n3]
        change Γ i_paths_on [.tuple [tI lot], .tuple [tI p.1], p.2] = .ok (.list [pthD ([(lot, p.1)], p.2)]) [] at e1
        generalize (flatP lot done).map pthD = L' at l3
        generalize pthD ([(lot, p.1)], p.2) = M' at e1 ⊢
        simp only [LIM] at l3
        simp [forT, pathT, pairD, bindT, bindTs, b0_paths_on, callR, argD, outs, extD, getPl, setPl, LIM, e1, l3])
    (ps.map pairD) [some (.tuple []), some (.tuple []), some (mkLook lot ps), some (.list []), none, none] ⟨[], ps, none, none, rfl, rfl, rfl⟩
  have : rest' = [] := by
    cases rest' with
    | nil => rfl
    | cons _ _ => simp at hr
  subst this
  simp only [List.append_nil] at he
  subst he
  generalize (flatP lot done).map pthD = LL at e ⊢
  unfold Df.sem TV.run f_paths_on
  simp [Df.ios, iosOf, Sh.isM, e_ll, LIM, e, mvD]
theorem lpaths_flat {Γ : Nat → Fn} (h0 : LPathsEx 0 (Γ i__law_paths)) {c : Nat} {lot : List Int} {ps : List (List Int × D)} (hl : ps.length ≤ 1000) (hp : ∀ p ∈ ps, Leaf p.2) : f__law_paths.sem Γ [mkLook lot ps, .tuple [], .tuple []] = .ok (.list ((flatP lot ps).map pthD)) [] := by
  obtain ⟨ρ, e, done, rest', a4, a5, he, hr, rfl⟩ := forF_inv (body := forT pathT (exSs Γ b0__law_paths))
    (fun rest ρ => ∃ (done rest' : List (List Int × D)) (a4 a5 : Option D), done ++ rest' = ps ∧ rest = rest'.map pairD ∧ ρ = [some (mkLook lot ps), some (.tuple []), some (.tuple []), some (.list ((flatP lot done).map pthD)), a4, a5])
    (fun d ds ρ ⟨done, rest', a4, a5, he, hr, e⟩ => by
      subst e
      cases rest' with
      | nil => simp at hr
      | cons p r =>
        simp only [List.map_cons, List.cons.injEq] at hr
        obtain ⟨rfl, rfl⟩ := hr
        have e1 := h0 c [(lot, p.1)] p.2 (hp p (by rw [← he]; simp)) (by simp)
        have dl : done.length + (r.length + 1) = ps.length := by rw [← he]; simp
        refine ⟨_, .inl ?_, done ++ [p], r, some (tI p.1), some p.2, by simp [← he], rfl, rfl⟩
        have l3 : ((flatP lot done).map pthD).length + [pthD ([(lot, p.1)], p.2)].length ≤ LIM := by simp [flatP, LIM]; omega
        have l1 : ([] : List D).length + [tI lot].length ≤ LIM := by simp [LIM]
        have l2 : ([] : List D).length + [tI p.1].length ≤ LIM := by simp [LIM]
        have n3 : (flatP lot (done ++ [p])).map pthD = (flatP lot done).map pthD ++ [pthD ([(lot, p.1)], p.2)] := by simp [flatP]
        rw [n3]
        change Γ i__law_paths [p.2, .tuple [tI lot], .tuple [tI p.1]] = .ok (.list [pthD ([(lot, p.1)], p.2)]) [] at e1
        generalize (flatP lot done).map pthD = L' at l3
        generalize pthD ([(lot, p.1)], p.2) = M' at e1 l3 ⊢
        simp [forT, pathT, pairD, bindT, bindTs, b0__law_paths, callR, argD, outs, LIM, o_addT l1, o_addT l2, e1, o_addS l3])
    (ps.map pairD) [some (mkLook lot ps), some (.tuple []), some (.tuple []), some (.list []), none, none] ⟨[], ps, none, none, rfl, rfl, rfl⟩
  have : rest' = [] := by
    cases rest' with
    | nil => rfl
    | cons _ _ => simp at hr
  subst this
  simp only [List.append_nil] at he
  subst he
  generalize (flatP lot done).map pthD = LL at e ⊢
  unfold Df.sem TV.run f__law_paths
  simp [Df.ios, iosOf, Sh.isM, e_ll, LIM, e]

end Tx
namespace Tx
open PySem PySem.Spec PyProof.Rows L2 TV
/-! the nodes of a reader, in order -/
abbrev Nod := List Int × Nat × D
def nodD (e : Nod) : D := .tuple [tI e.1, .int (e.2.1 : Nat), e.2.2]
def psOf : D → List (List Int × D)
  | .tuple [_, _, .tuple ds] => ds.map unP
  | _ => []
theorem psOf_look (lot : List Int) (ps : List (List Int × D)) : psOf (mkLook lot ps) = ps := by
  simp only [mkLook, psOf, List.map_map]
  conv => rhs; rw [← List.map_id ps]
  exact List.map_congr_left fun p _ => unP_pair p
theorem psOf_leaf {x : D} (h : Leaf x) : psOf x = [] := by cases h <;> rfl
def nodesF : Nat → List Int → Nat → D → List Nod
  | 0, w, m, x => [(w, m, x)]
  | k + 1, w, m, x => (w, m, x) :: (psOf x).zipIdx.flatMap fun q => nodesF k (w ++ [((q.2 : Nat) : Int)]) (m + 1) q.1.2
theorem nodesF_leaf {k : Nat} {w : List Int} {m : Nat} {x : D} (h : Leaf x) : nodesF k w m x = [(w, m, x)] := by
  cases k with
  | zero => rfl
  | succ k => rw [nodesF, psOf_leaf h]; rfl
theorem nodesF_len : ∀ (k : Nat) (w w' : List Int) (m m' : Nat) (x : D), (nodesF k w m x).length = (nodesF k w' m' x).length
  | 0, _, _, _, _, _ => rfl
  | k + 1, w, w', m, m', x => by
    rw [nodesF, nodesF, List.length_cons, List.length_cons, List.length_flatMap, List.length_flatMap]
    congr 2
    exact List.map_congr_left fun q _ => nodesF_len k _ _ _ _ _
def cntN (k : Nat) (x : D) : Nat := (nodesF k [] 0 x).length
theorem cntN_look (k : Nat) (lot : List Int) (ps : List (List Int × D)) : cntN (k + 1) (mkLook lot ps) = 1 + (ps.map fun p => cntN k p.2).sum := by
  unfold cntN
  rw [nodesF, psOf_look, List.length_cons, List.length_flatMap, Nat.add_comm]
  congr 2
  have h := List.zipIdx_map_fst 0 ps
  conv => rhs; rw [← h, List.map_map]
  exact List.map_congr_left fun q _ => nodesF_len k _ _ _ _ _
def CountEx (c k : Nat) (F : Fn) : Prop := ∀ x, Nd c k x → F [x] = .ok (.int (cntN k x : Nat)) []
theorem sum_int : ∀ ns : List Nat, (ns.map fun n : Nat => (n : Int)).sum = ((ns.sum : Nat) : Int)
  | [] => rfl
  | n :: ns => by simp [sum_int ns]
theorem countEx_sem {Γ : Nat → Fn} {c k : Nat} (rec : ∀ k', k = k' + 1 → CountEx c k' (Γ i__law_count)) : CountEx c k (f__law_count.sem Γ) := fun x hx => by
  have leaf : Leaf x → f__law_count.sem Γ [x] = .ok (.int (cntN k x : Nat)) [] := fun h => by
    have e1 : cntN k x = 1 := by unfold cntN; rw [nodesF_leaf h]; rfl
    rw [e1]
    obtain ⟨s, r, rfl, e⟩ := leaf_head h
    have a0 : atD (.str s :: r) 0 = some (.str s) := atD_at (n := 0) rfl
    unfold Df.sem TV.run f__law_count
    simp [Df.ios, iosOf, Sh.isM, a0, e]
  cases k with
  | zero => exact leaf hx
  | succ k =>
    rcases hx with h | ⟨lot, ps, _, h4, hp, rfl⟩
    · exact leaf h
    · have a0 : atD [.str "look", tI lot, .tuple (ps.map pairD)] 0 = some (.str "look") := rfl
      have a2 : atD [.str "look", tI lot, .tuple (ps.map pairD)] 2 = some (.tuple (ps.map pairD)) := rfl
      have m0 := lcF_fm (ρ := [some (mkLook lot ps), none]) (body := lcT [1] (Tg.v 1) (allD (evE Γ e0__law_count))) (g := pairD) (f := fun p => some (PyData.int (cntN k p.2 : Nat))) ps (fun p hpm => by
        have en := rec k rfl p.2 (hp p hpm).2
        have a1 : atD [tI p.1, p.2] 1 = some p.2 := rfl
        simp [lcT, bindT, allD, wipeE, e0__law_count, pairD, a1, callR, argD, outs, en])
      have fm : ps.filterMap (fun p => some (PyData.int (cntN k p.2 : Nat))) = ((ps.map fun p => cntN k p.2).map fun n : Nat => (n : Int)).map .int := by
        rw [show (fun p : List Int × D => some (PyData.int (cntN k p.2 : Nat))) = some ∘ (fun p : List Int × D => PyData.int (cntN k p.2 : Nat)) from rfl, List.filterMap_eq_map, List.map_map, List.map_map]
        rfl
      rw [fm] at m0
      have hlc := lcD_ok (vs := [1]) (tg := Tg.v 1) (w := evW Γ (W.seq (E.b2 B2.idx (E.v 0) (E.c (PyData.int 2))))) (body := allD (evE Γ e0__law_count)) (ρ := [some (mkLook lot ps), none]) (ρ1 := [some (mkLook lot ps), none]) (by simp [mkLook, a2]) (by simp [LIM]; omega) m0
      have os := o_sum ((ps.map fun p => cntN k p.2).map fun n : Nat => (n : Int))
      rw [sum_int] at os
      rw [cntN_look]
      generalize (ps.map fun p => cntN k p.2).sum = N at os ⊢
      generalize ((ps.map fun p => cntN k p.2).map fun n : Nat => (n : Int)).map PyData.int = LL at os hlc
      simp only [mkLook] at hlc
      unfold Df.sem TV.run f__law_count mkLook
      have e1 : eqD (.str "look") (.str "look") = some true := e_ll
      simp [Df.ios, iosOf, Sh.isM, a0, e1, hlc, backE, os]
theorem cnt_le {c : Nat} : ∀ {k : Nat} {x : D}, Nd c k x → cntN k x ≤ 5 ^ k
  | 0, x, _ => by simp [cntN, nodesF]
  | k + 1, x, .inl h => by
    unfold cntN; rw [nodesF_leaf h]
    exact Nat.pow_pos (by decide)
  | k + 1, x, .inr ⟨lot, ps, _, h4, hp, e⟩ => by
    subst e
    rw [cntN_look]
    have hs : (ps.map fun p => cntN k p.2).sum ≤ ps.length * 5 ^ k := by
      have : ∀ p ∈ ps, cntN k p.2 ≤ 5 ^ k := fun p hpm => cnt_le (hp p hpm).2
      clear hp h4
      induction ps with
      | nil => simp
      | cons p ps ih =>
        have h1 := this p List.mem_cons_self
        have h2 := ih fun q hq => this q (List.mem_cons_of_mem _ hq)
        simp only [List.map_cons, List.sum_cons, List.length_cons, Nat.add_mul, Nat.one_mul]
        omega
    have h5 : ps.length * 5 ^ k ≤ 4 * 5 ^ k := Nat.mul_le_mul_right _ h4
    have h1 : 1 ≤ 5 ^ k := Nat.pow_pos (by decide)
    rw [Nat.pow_succ]; omega
theorem Nd.ups {c : Nat} {x : D} : ∀ {k : Nat} (j : Nat), Nd c k x → Nd c (k + j) x
  | _, 0, h => h
  | _, j + 1, h => (Nd.ups j h).up
theorem nodes_more {c : Nat} : ∀ {k : Nat} {w : List Int} {m : Nat} {x : D} (j : Nat), Nd c k x → nodesF (k + j) w m x = nodesF k w m x
  | 0, w, m, x, j, h => by rw [nodesF_leaf h, nodesF_leaf h]
  | k + 1, w, m, x, j, .inl h => by rw [nodesF_leaf h, nodesF_leaf h]
  | k + 1, w, m, x, j, .inr ⟨lot, ps, h1, h2, h3, e⟩ => by
    subst e
    rw [show k + 1 + j = (k + j) + 1 by omega, nodesF, nodesF, psOf_look]
    congr 1
    have key : ∀ (l : List ((List Int × D) × Nat)), (∀ q ∈ l, q.1 ∈ ps) → (l.flatMap fun q => nodesF (k + j) (w ++ [((q.2 : Nat) : Int)]) (m + 1) q.1.2) = l.flatMap fun q => nodesF k (w ++ [((q.2 : Nat) : Int)]) (m + 1) q.1.2 := fun l hl => by
      induction l with
      | nil => rfl
      | cons q l ih =>
        rw [List.flatMap_cons, List.flatMap_cons, ih fun q hq => hl q (List.mem_cons_of_mem _ hq), nodes_more j (h3 q.1 (hl q List.mem_cons_self)).2]
    exact key _ fun q hq => List.mem_of_getElem? (List.mem_zipIdx_iff_getElem?.mp hq)
def ReaderFn (F : Fn) : Prop := ∀ {deep : List Int} {st : Int}, DkOk deep st → ∀ {t : Tab} {cells : Nat}, TabOk cells t → ValsOk t → t.words.length ≤ 60 → ∀ depth : Int, depth ≤ 4 → ∃ x deep' st', F [dk deep st, t.d, .int depth] = .ok x [some (dk deep' st')] ∧ (Lk cells 3 x ∧ Uq 4 x ∧ cntN 4 x ≤ 60) ∧ DkOk deep' st'
theorem Uq.ups {c : Nat} : ∀ {k : Nat} {x : D} (j : Nat), Nd c k x → Uq k x → Uq (k + j) x
  | 0, x, j, h, _ => .leaf h
  | k + 1, x, j, .inl h, _ => .leaf h
  | k + 1, x, j, .inr ⟨lot, ps, h1, h2, h3, e⟩, hu => by
    subst e
    obtain ⟨u1, u2⟩ := hu lot ps rfl
    rw [show k + 1 + j = (k + j) + 1 by omega]
    exact .look u1 fun p hp => Uq.ups j (h3 p hp).2 (u2 p hp)
theorem Lk.upn {c : Nat} {x : D} : ∀ {k : Nat} (j : Nat), Lk c k x → Lk c (k + j) x
  | _, 0, h => h
  | _, j + 1, h => (Lk.upn j h).up
theorem reader_sem {Γ : Nat → Fn} (hn : NodeFn 3 (Γ i__law_node)) (hn1 : NodeFn 1 (Γ i__law_node)) (hc : ∀ c, CountEx c 4 (Γ i__law_count)) : ReaderFn (f__law_reader.sem Γ) := fun {deep st} ok {t cells} tok vok t60 depth hdep => by
  obtain ⟨x, d1, s1, e1, ⟨lk1, u1⟩, ok1⟩ := hn ok tok vok t60 depth (by omega)
  have e2 := hc cells x lk1.nd
  obtain ⟨y, d2, s2, e3, ⟨lk2, u2⟩, ok2⟩ := hn1 ok1 tok vok t60 2 (by omega)
  unfold Df.sem TV.run f__law_reader
  by_cases h : (cntN 4 x : Int) < 61
  · refine ⟨x, d1, s1, ?_, ⟨lk1, u1, by omega⟩, ok1⟩
    simp [Df.ios, iosOf, Sh.isM, callR, argD, outs, e1, e2, h]
  · refine ⟨y, d2, s2, ?_, ⟨lk2.upn 2, Uq.ups 2 lk2.nd u2, ?_⟩, ok2⟩
    · simp [Df.ios, iosOf, Sh.isM, callR, argD, outs, e1, e2, h, e3]
    · have e4 : cntN 4 y = cntN 2 y := by
        unfold cntN
        rw [show (4 : Nat) = 2 + 2 from rfl, nodes_more 2 lk2.nd]
      have h9 : cntN 2 y ≤ 5 ^ 2 := cnt_le (k := 2) lk2.nd
      rw [e4]
      have : (5 : Nat) ^ 2 = 25 := by decide
      omega

end Tx
namespace Tx
open PySem PySem.Spec PyProof.Rows L2 TV
/-! paths of readers: no two alike -/
theorem pthF_pre {c : Nat} : ∀ {k : Nat} {qs : List (List Int × List Int)} {x : D}, Nd c k x → ∀ p ∈ pthF k qs x, ∃ r, p.1 = qs ++ r := by
  intro k
  induction k with
  | zero =>
    intro qs x hx p hp
    rw [pthF_leaf (k := 0) hx, List.mem_singleton] at hp
    subst hp
    exact ⟨[], by simp⟩
  | succ k ih =>
    intro qs x hx p hp
    rcases hx with h | ⟨lot, ps, _, _, h5, rfl⟩
    · rw [pthF_leaf h, List.mem_singleton] at hp
      subst hp
      exact ⟨[], by simp⟩
    · rw [pthF_look] at hp
      obtain ⟨b, hb, hp⟩ := List.mem_flatMap.mp hp
      obtain ⟨r, hr⟩ := ih (h5 b hb).2 p hp
      exact ⟨(lot, b.1) :: r, by rw [hr]; simp⟩
theorem Lx.ne {a b : List Int} (h : Lx a b) : a ≠ b := fun e => by
  subst e
  have key : ∀ l : List Int, lexLtI l l = false := fun l => by
    induction l with
    | nil => rfl
    | cons i l ih => simp [lexLtI, ih]
  unfold Lx at h
  rw [key a] at h
  cases h
theorem pth_unlike {c : Nat} : ∀ {k : Nat} {qs : List (List Int × List Int)} {x : D}, Nd c k x → Uq k x → (pthF k qs x).Pairwise fun p q => p.1 ≠ q.1 := by
  intro k
  induction k with
  | zero =>
    intro qs x hx _
    rw [pthF_leaf (k := 0) hx]
    exact List.pairwise_singleton _ _
  | succ k ih =>
    intro qs x hx hu
    rcases hx with h | ⟨lot, ps, _, _, h5, rfl⟩
    · rw [pthF_leaf h]
      exact List.pairwise_singleton _ _
    · obtain ⟨⟨_, u1⟩, u2⟩ := hu lot ps rfl
      rw [pthF_look, List.pairwise_flatMap]
      refine ⟨fun b hb => ih (h5 b hb).2 (u2 b hb), ?_⟩
      rw [List.pairwise_map] at u1
      refine List.Pairwise.imp_of_mem (fun {a b} ha hb hab p hp q hq e => ?_) u1
      obtain ⟨r1, e1⟩ := pthF_pre (h5 a ha).2 p hp
      obtain ⟨r2, e2⟩ := pthF_pre (h5 b hb).2 q hq
      rw [e1, e2, List.append_assoc, List.append_assoc] at e
      have e3 := List.append_cancel_left e
      simp only [List.cons_append, List.nil_append, List.cons.injEq, Prod.mk.injEq, true_and] at e3
      exact hab.ne e3.1
theorem pth_cnt {c : Nat} : ∀ {k : Nat} {qs : List (List Int × List Int)} {x : D}, Nd c k x → (pthF k qs x).length ≤ cntN k x := by
  intro k
  induction k with
  | zero =>
    intro qs x hx
    rw [pthF_leaf (k := 0) hx]
    simp [cntN, nodesF]
  | succ k ih =>
    intro qs x hx
    rcases hx with h | ⟨lot, ps, _, _, h5, rfl⟩
    · rw [pthF_leaf h]
      unfold cntN
      rw [nodesF_leaf h]; simp
    · rw [pthF_look, cntN_look, List.length_flatMap]
      have key : ∀ l : List (List Int × D), (∀ p ∈ l, p ∈ ps) → (l.map fun p => (pthF k (qs ++ [(lot, p.1)]) p.2).length).sum ≤ (l.map fun p => cntN k p.2).sum := fun l => by
        induction l with
        | nil => intro _; simp
        | cons p l ihl =>
          intro hm
          have a := ih (qs := qs ++ [(lot, p.1)]) (h5 p (hm p List.mem_cons_self)).2
          have b := ihl fun q hq => hm q (List.mem_cons_of_mem _ hq)
          simp only [List.map_cons, List.sum_cons]
          omega
      have := key ps fun p h => h
      omega
/-! the key of a path -/
def kL (l : List Int) : NestedKey := .tup (l.map .num)
def kP (qs : List (List Int × List Int)) : NestedKey := .tup [.tup ((qs.map (·.1)).map kL), .tup ((qs.map (·.2)).map kL)]
theorem keys_ints : ∀ l : List Int, keysOf (l.map .int) = some (l.map .num)
  | [] => rfl
  | i :: l => by rw [List.map_cons, keysOf, keys_ints l]; rfl
theorem key_tI (l : List Int) : TV.keyOf (tI l) = some (kL l) := by
  unfold tI
  rw [TV.keyOf, keys_ints]; rfl
theorem keys_tT : ∀ xs : List (List Int), keysOf (xs.map tI) = some (xs.map kL)
  | [] => rfl
  | x :: xs => by rw [List.map_cons, keysOf, key_tI, keys_tT xs]; rfl
theorem key_tT (xs : List (List Int)) : TV.keyOf (tT xs) = some (.tup (xs.map kL)) := by
  unfold tT
  rw [TV.keyOf, keys_tT]; rfl
theorem key_pth (qs : List (List Int × List Int)) : TV.keyOf (.tuple [lksD qs, wrdD qs]) = some (kP qs) := by
  rw [TV.keyOf]
  simp only [keysOf, key_tT]
  rfl
theorem num_inj {a b : List Int} (h : a.map NestedKey.num = b.map NestedKey.num) : a = b := by
  induction a generalizing b with
  | nil => cases b <;> simp_all
  | cons x a ih =>
    cases b with
    | nil => simp at h
    | cons y b =>
      simp only [List.map_cons, List.cons.injEq, NestedKey.num.injEq] at h
      rw [h.1, ih h.2]
theorem kL_inj {a b : List Int} (h : kL a = kL b) : a = b := num_inj (NestedKey.tup.inj h)
theorem kLs_inj {a b : List (List Int)} (h : a.map kL = b.map kL) : a = b := by
  induction a generalizing b with
  | nil => cases b <;> simp_all
  | cons x a ih =>
    cases b with
    | nil => simp at h
    | cons y b =>
      simp only [List.map_cons, List.cons.injEq] at h
      rw [kL_inj h.1, ih h.2]
theorem pair_ext : ∀ {a b : List (List Int × List Int)}, a.map (·.1) = b.map (·.1) → a.map (·.2) = b.map (·.2) → a = b
  | [], [], _, _ => rfl
  | [], _ :: _, h, _ => by simp at h
  | _ :: _, [], h, _ => by simp at h
  | x :: a, y :: b, h1, h2 => by
    simp only [List.map_cons, List.cons.injEq] at h1 h2
    rw [Prod.ext h1.1 h2.1, pair_ext h1.2 h2.2]
theorem kP_inj {a b : List (List Int × List Int)} (h : kP a = kP b) : a = b := by
  have h := NestedKey.tup.inj h
  simp only [List.cons.injEq, NestedKey.tup.injEq, and_true] at h
  exact pair_ext (kLs_inj h.1) (kLs_inj h.2)
theorem dp_nums : ∀ l : List Int, NestedKey.depthAll (l.map .num) = 0
  | [] => rfl
  | i :: l => by rw [List.map_cons, NestedKey.depthAll, dp_nums l]; rfl
theorem dp_kL (l : List Int) : (kL l).depth = 1 := by unfold kL; rw [NestedKey.depth, dp_nums]
theorem dp_kLs : ∀ xs : List (List Int), NestedKey.depthAll (xs.map kL) ≤ 1
  | [] => Nat.zero_le _
  | x :: xs => by
    have := dp_kLs xs
    rw [List.map_cons, NestedKey.depthAll, dp_kL]
    omega
theorem dp_kP (qs : List (List Int × List Int)) : (kP qs).depth ≤ 3 := by
  have a := dp_kLs (qs.map (·.1))
  have b := dp_kLs (qs.map (·.2))
  simp only [kP, NestedKey.depth, NestedKey.depthAll]
  omega
/-- the pairs of looks and words of some paths that differ are as many as they are -/
theorem o_nSet {L : List Pth} (hu : L.Pairwise fun p q => p.1 ≠ q.1) (hl : L.length < 64) : b1 .nSetL (.list (L.map fun p : Pth => .tuple [lksD p.1, wrdD p.1])) = some (.int (L.length : Nat)) := by
  have hk : keysOf (L.map fun p : Pth => PyData.tuple [lksD p.1, wrdD p.1]) = some (L.map fun p => kP p.1) := by
    clear hu hl
    induction L with
    | nil => rfl
    | cons p L ih => rw [List.map_cons, keysOf, key_pth, ih]; rfl
  have h1 : (L.map fun p => kP p.1).all isTupK = true := by
    rw [List.all_eq_true]
    intro k hk
    obtain ⟨p, _, rfl⟩ := List.mem_map.mp hk
    rfl
  have h2 : NestedKey.depthAll (L.map fun p => kP p.1) ≤ 8 := by
    clear hu hl hk h1
    induction L with
    | nil => exact Nat.zero_le _
    | cons p L ih =>
      have := dp_kP p.1
      rw [List.map_cons, NestedKey.depthAll]
      omega
  have h3 : (L.map fun p => kP p.1).Nodup := by
    rw [List.Nodup, List.pairwise_map]
    exact hu.imp fun h e => h (kP_inj e)
  show (match keysOf (L.map fun p : Pth => PyData.tuple [lksD p.1, wrdD p.1]) with
    | some ks => if (decide ((L.map fun p : Pth => PyData.tuple [lksD p.1, wrdD p.1]).length < 64) && ks.all isTupK && decide (NestedKey.depthAll ks ≤ 8) && decide ks.Nodup) = true then some (PyData.int (((L.map fun p : Pth => PyData.tuple [lksD p.1, wrdD p.1]).length : Nat) : Int)) else none
    | none => none) = _
  rw [hk]
  simp only [h1, decide_eq_true h2, decide_eq_true h3, List.length_map, decide_eq_true hl, Bool.and_self, if_true]

end Tx
namespace Tx
open PySem PySem.Spec PyProof.Rows L2 TV
/-! far readers -/
theorem mk_inj {lot lot' : List Int} {ps ps' : List (List Int × D)} (h : mkLook lot ps = mkLook lot' ps') : lot = lot' ∧ ps = ps' := by
  refine ⟨?_, by rw [← psOf_look lot ps, h, psOf_look]⟩
  unfold mkLook at h
  have h := PyData.tuple.inj h
  simp only [List.cons.injEq] at h
  exact tI_inj h.2.1
/-- one look with many leaves beside it -/
def Wide (x : D) : Prop := ∃ ps : List (List Int × D), ps.length ≤ 59 ∧ ps.map (·.1) = (rngI (ps.length : Nat)).map (fun i => [i]) ∧ (∀ p ∈ ps, Leaf p.2) ∧ x = mkLook [0] ps
/-- looks in a row -/
def Row1 : Nat → D → Prop
  | 0, x => Leaf x ∨ x = mkLook [0] []
  | t + 1, x => ∃ y, Row1 t y ∧ x = mkLook [0] [([(t : Int)], .tuple [.str "tell", .int (t : Int)]), ([(t : Int) + 1], y), ([(t : Int) + 9], again)]
theorem lot0 : LotOk 1 [0] := ⟨by simp, by decide, fun i hi => by simp at hi; omega⟩
theorem lx1 {a b : Int} (h : a < b) : Lx [a] [b] := by
  have hn : ¬ a = b := by omega
  simp [Lx, lexLtI, h, hn]
theorem row_nd : ∀ {t : Nat} {x : D}, t ≤ 7 → Row1 t x → Nd 1 (t + 1) x ∧ Uq (t + 1) x ∧ sz x ≤ 100 + 400 * t ∧ ∀ qs, (pthF (t + 1) qs x).length ≤ 1 + 2 * t
  | 0, x, _, .inl h => ⟨.inl h, .leaf h, by have := h.fits.2.2.2; omega, fun qs => by rw [pthF_leaf h]; simp⟩
  | 0, x, _, .inr e => by
    subst e
    refine ⟨.inr ⟨[0], [], lot0, by simp, (fun p hp => by cases hp), rfl⟩, fun lot ps e => ?_, by simp [mkLook, sz, szs, tI], fun qs => by rw [pthF_look]; simp⟩
    obtain ⟨rfl, rfl⟩ := mk_inj e
    exact ⟨⟨by simp, by simp⟩, fun p hp => by cases hp⟩
  | t + 1, x, ht, ⟨y, hy, e⟩ => by
    subst e
    obtain ⟨n1, u1, z1, l1⟩ := row_nd (by omega) hy
    have lt : Leaf (.tuple [.str "tell", .int (t : Int)]) := .tell _ ⟨by omega, by omega⟩
    have la : Leaf again := .again
    refine ⟨.inr ⟨[0], _, lot0, by simp, fun p hp => ?_, rfl⟩, fun lot ps e => ?_, ?_, fun qs => ?_⟩
    · simp only [List.mem_cons, List.not_mem_nil, or_false] at hp
      rcases hp with rfl | rfl | rfl
      · exact ⟨⟨rfl, fun i hi => by simp at hi; omega⟩, .inl lt⟩
      · exact ⟨⟨rfl, fun i hi => by simp at hi; omega⟩, n1⟩
      · exact ⟨⟨rfl, fun i hi => by simp at hi; omega⟩, .inl la⟩
    · obtain ⟨rfl, rfl⟩ := mk_inj e
      refine ⟨⟨by simp, ?_⟩, fun p hp => ?_⟩
      · simp only [List.map_cons, List.map_nil, List.pairwise_cons, List.mem_cons, List.not_mem_nil, or_false]
        refine ⟨fun a ha => ?_, fun a ha => ?_, fun a ha => ha.elim, .nil⟩
        · rcases ha with rfl | rfl
          · exact lx1 (by omega)
          · exact lx1 (by omega)
        · subst ha; exact lx1 (by omega)
      · simp only [List.mem_cons, List.not_mem_nil, or_false] at hp
        rcases hp with rfl | rfl | rfl
        · exact .leaf lt
        · exact u1
        · exact .leaf la
    · simp only [mkLook, pairD, again, tI, sz, szs, List.map_cons, List.map_nil]
      omega
    · have := l1 (qs ++ [([0], [(t : Int) + 1])])
      rw [pthF_look]
      simp only [List.flatMap_cons, List.flatMap_nil, List.length_append, pthF_leaf lt, pthF_leaf la, List.length_cons, List.length_nil]
      omega
def FarFn (F : Fn) : Prop := ∀ (deep : List Int) (st : Int), DkOk deep st → ∃ x deep' st', F [dk deep st] = .ok x [some (dk deep' st')] ∧ DkOk deep' st' ∧ (Wide x ∨ Row1 7 x)
theorem wide_loop {Γ : Nat → Fn} (hp : PickOk (Γ i__law_pick)) {a1 a2 : Option D} : ∀ (rest : List Int) (ps : List (List Int × D)) (deep : List Int) (st : Int) (a4 : Option D), DkOk deep st → (∀ p ∈ ps, Leaf p.2) → (∀ i ∈ rest, 0 ≤ i ∧ i < 1000) → ps.length + rest.length ≤ 1000 →
    ∃ (ps' : List (List Int × D)) (deep' : List Int) (st' : Int) (b4 : Option D), forF (forT (Tg.v 4) (exSs Γ b1__law_far)) (rest.map .int) [some (dk deep st), a1, a2, some (.list (ps.map pairD)), a4] = .nx [some (dk deep' st'), a1, a2, some (.list ((ps ++ ps').map pairD)), b4] ∧ DkOk deep' st' ∧ (∀ p ∈ ps', Leaf p.2) ∧ ps'.map (·.1) = rest.map fun i => [i]
  | [], ps, deep, st, a4, ok, _, _, _ => ⟨[], deep, st, a4, by simp [forF], ok, (fun p hp => by cases hp), rfl⟩
  | i :: rest, ps, deep, st, a4, ok, hps, hr, hl => by
    obtain ⟨i0, i1⟩ := hr i List.mem_cons_self
    obtain ⟨y, hy, d1, s1, e1, ok1⟩ := hp ok [again, .tuple [.str "tell", .int i], .tuple [.str "tell", .int (-i)]] (by simp) (by simp) _ (.inl rfl)
    have ly : Leaf y := by
      simp only [List.mem_cons, List.not_mem_nil, or_false] at hy
      rcases hy with rfl | rfl | rfl
      · exact .again
      · exact .tell _ ⟨by omega, by omega⟩
      · exact .tell _ ⟨by omega, by omega⟩
    simp only [List.length_cons] at hl
    obtain ⟨ps', d2, s2, b4, e2, ok2, h1, h2⟩ := wide_loop hp rest (ps ++ [([i], y)]) d1 s1 (some (.int i)) ok1 (fun p hp => by
      rcases List.mem_append.mp hp with h | h
      · exact hps p h
      · rw [List.mem_singleton] at h; subst h; exact ly) (fun j hj => hr j (List.mem_cons_of_mem _ hj)) (by rw [List.length_append]; simp; omega)
    refine ⟨([i], y) :: ps', d2, s2, b4, ?_, ok2, fun p hp => ?_, by rw [List.map_cons, List.map_cons, h2]⟩
    · have lt : (ps.map pairD).length < 1000000 := by rw [List.length_map]; omega
      have m : (ps ++ [([i], y)]).map pairD = ps.map pairD ++ [.tuple [.tuple [.int i], y]] := by simp [pairD, tI]
      rw [m, List.append_assoc] at e2
      have st : forT (Tg.v 4) (exSs Γ b1__law_far) (.int i) [some (dk deep st), a1, a2, some (.list (ps.map pairD)), a4] = .nx [some (dk d1 s1), a1, a2, some (.list (ps.map pairD ++ [.tuple [.tuple [.int i], y]])), some (.int i)] := by
        rw [forT_v]
        unfold again at e1
        generalize ps.map pairD = PP at *
        simp [b1__law_far, callR, argD, outs, LIM, e1, appD, getPl, setPl, lt]
      rw [List.map_cons]
      simp only [forF, st]
      exact e2
    · rcases List.mem_cons.mp hp with rfl | hp
      · exact ly
      · exact h1 p hp
theorem row_loop {Γ : Nat → Fn} {a3 a4 : Option D} : ∀ (n t : Nat) (x : D) (deep : List Int) (st : Int) (a2 : Option D), t + n = 7 → Row1 t x →
    ∃ (y : D) (b2 : Option D), forF (forT (Tg.v 2) (exSs Γ b0__law_far)) ((List.range' t n).map fun i : Nat => PyData.int (i : Nat)) [some (dk deep st), some x, a2, a3, a4] = .nx [some (dk deep st), some y, b2, a3, a4] ∧ Row1 7 y
  | 0, t, x, deep, st, a2, ht, h => by
    obtain rfl : t = 7 := by omega
    exact ⟨x, a2, by simp [forF], h⟩
  | n + 1, t, x, deep, st, a2, ht, h => by
    obtain ⟨y, b2, e, hy⟩ := row_loop n (t + 1) (mkLook [0] [([(t : Int)], .tuple [.str "tell", .int (t : Int)]), ([(t : Int) + 1], x), ([(t : Int) + 9], again)]) deep st (some (.int (t : Nat))) (by omega) ⟨x, h, rfl⟩
    refine ⟨y, b2, ?_, hy⟩
    have st : forT (Tg.v 2) (exSs Γ b0__law_far) (.int (t : Nat)) [some (dk deep st), some x, a2, a3, a4] = .nx [some (dk deep st), some (mkLook [0] [([(t : Int)], .tuple [.str "tell", .int (t : Int)]), ([(t : Int) + 1], x), ([(t : Int) + 9], again)]), some (.int (t : Nat)), a3, a4] := by
      rw [forT_v]
      simp [b0__law_far, LIM, mkLook, pairD, tI, again]
    rw [List.range'_succ, List.map_cons]
    simp only [forF, st]
    exact e
theorem far_sem {Γ : Nat → Fn} (hd : DrawOk (Γ i__law_draw)) (hp : PickOk (Γ i__law_pick)) : FarFn (f__law_far.sem Γ) := fun deep st ok => by
  obtain ⟨v, d1, s1, e1, _, _, ok1⟩ := hd ok 2 (by decide)
  by_cases hv : v = 0
  · obtain ⟨m, hm, d2, s2, e2, ok2⟩ := leaf_pick hp ok1 [1, 30, 59] (by simp) (by simp) _ (.inl rfl)
    simp only [List.map_cons, List.map_nil] at e2
    have hm2 : 0 ≤ m ∧ m ≤ 59 := by simp at hm; omega
    have hrl : (rngI m).length = m.toNat := by unfold rngI; simp
    obtain ⟨ps, d3, s3, b4, e3, ok3, h1, h2⟩ := wide_loop hp (a1 := none) (a2 := none) (rngI m) [] d2 s2 none ok2 (fun p hp => by cases hp) (fun i hi => by
      unfold rngI at hi
      obtain ⟨j, hj, rfl⟩ := List.mem_map.mp hi
      rw [List.mem_range] at hj
      omega) (by rw [hrl]; simp; omega)
    have hl : ps.length = m.toNat := by
      have := congrArg List.length h2
      rw [List.length_map, List.length_map, hrl] at this
      exact this
    refine ⟨mkLook [0] ps, d3, s3, ?_, ok3, .inl ⟨ps, by omega, by rw [h2, hl]; congr 2; omega, h1, rfl⟩⟩
    rw [← rngD_i] at e3
    simp only [List.map_nil, List.nil_append] at e3
    unfold Df.sem TV.run f__law_far mkLook
    generalize ps.map pairD = PP at *
    simp [Df.ios, iosOf, Sh.isM, callR, argD, outs, LIM, e1, hv, eq_int, e2, rng1K_i (n := m) (by unfold LIM; omega) (by unfold LIM; omega), e3, tI]
  · obtain ⟨y, hy, d2, s2, e2, ok2⟩ := hp ok1 [again, .tuple [.str "tell", .int 5], mkLook [0] []] (by simp) (by simp) _ (.inl rfl)
    have r0 : Row1 0 y := by
      simp only [List.mem_cons, List.not_mem_nil, or_false] at hy
      rcases hy with rfl | rfl | rfl
      · exact .inl .again
      · exact .inl (.tell _ ⟨by omega, by omega⟩)
      · exact .inr rfl
    obtain ⟨x, b2, e3, hx⟩ := row_loop (Γ := Γ) (a3 := none) (a4 := none) 7 0 y d2 s2 none rfl r0
    refine ⟨x, d2, s2, ?_, ok2, .inr hx⟩
    have er : (List.range' 0 7).map (fun i : Nat => PyData.int (i : Nat)) = rngD 0 7 := by rw [rngD_i]; rfl
    rw [er] at e3
    simp only [again, mkLook, tI, List.map_nil, List.map_cons] at e2
    unfold Df.sem TV.run f__law_far
    simp [Df.ios, iosOf, Sh.isM, callR, argD, outs, LIM, e1, hv, eq_int, e2, rng1K_i (n := (7 : Int)) (by decide) (by decide), e3]

end Tx
namespace Tx
open PySem PySem.Spec PyProof.Rows L2 TV
theorem Lk.fits {c : Nat} (hc : c ≤ 3) {k : Nat} {x : D} (h : Lk c k x) : pd x = true ∧ x.depth ≤ 3 * k + 4 ∧ tx x = true ∧ sz x ≤ NB (k + 1) := Nd.fits hc h.nd
def QQ (q : List Int × List Int) : Prop := (tx (tI q.1) = true ∧ sz (tI q.1) ≤ 51) ∧ tx (tI q.2) = true ∧ sz (tI q.2) ≤ 51
theorem pth_qq {c : Nat} (hc : c ≤ 3) : ∀ {k : Nat} {qs : List (List Int × List Int)} {x : D}, Nd c k x → (∀ q ∈ qs, QQ q) → ∀ p ∈ pthF k qs x, Leaf p.2 ∧ (∀ q ∈ p.1, QQ q) ∧ p.1.length ≤ qs.length + k := by
  intro k
  induction k with
  | zero =>
    intro qs x hx hq p hp
    rw [pthF_leaf (k := 0) hx, List.mem_singleton] at hp
    subst hp
    exact ⟨hx, hq, by simp⟩
  | succ k ih =>
    intro qs x hx hq p hp
    rcases hx with h | ⟨lot, ps, ⟨l1, l2, l3⟩, h4, h5, rfl⟩
    · rw [pthF_leaf h, List.mem_singleton] at hp
      subst hp
      exact ⟨h, hq, by simp⟩
    · rw [pthF_look] at hp
      obtain ⟨b, hb, hp⟩ := List.mem_flatMap.mp hp
      obtain ⟨⟨s1, s2⟩, nb⟩ := h5 b hb
      have ll : lot.length ≤ 3 := by omega
      have z1 := tI_sz lot
      have z2 := tI_sz b.1
      obtain ⟨r1, r2, r3⟩ := ih nb (fun q hqm => by
        rcases List.mem_append.mp hqm with hqm | hqm
        · exact hq q hqm
        · rw [List.mem_singleton] at hqm
          subst hqm
          exact ⟨⟨tI_tx fun i hi => by have := l3 i hi; omega, by show sz (tI lot) ≤ 51; omega⟩, tI_tx fun i hi => by have := s2 i hi; omega, by show sz (tI b.1) ≤ 51; omega⟩) p hp
      refine ⟨r1, r2, ?_⟩
      rw [List.length_append] at r3
      simp only [List.length_cons, List.length_nil] at r3
      omega
theorem tT_fits {xs : List (List Int)} {n : Nat} (h : ∀ r ∈ xs, tx (tI r) = true ∧ sz (tI r) ≤ 51) (hl : xs.length ≤ n) : (tT xs).depth ≤ 2 ∧ tx (tT xs) = true ∧ sz (tT xs) ≤ 53 * n + 3 := by
  have q1 : PyData.depthAll (xs.map tI) ≤ 1 := depthAll_le fun d hd => by obtain ⟨r, _, rfl⟩ := List.mem_map.mp hd; exact Nat.le_of_eq (tI_dp r)
  have q2 : txs (xs.map tI) = true := txs_of fun d hd => by obtain ⟨r, hr, rfl⟩ := List.mem_map.mp hd; exact (h r hr).1
  have q3 : szs (xs.map tI) ≤ (51 + 2) * (xs.map tI).length := szs_le fun d hd => by obtain ⟨r, hr, rfl⟩ := List.mem_map.mp hd; exact (h r hr).2
  rw [List.length_map] at q3
  have q4 : 53 * xs.length ≤ 53 * n := Nat.mul_le_mul_left _ hl
  refine ⟨?_, ?_, ?_⟩
  · simp only [tT, PyData.depth]; omega
  · simp only [tT, tx, q2]
  · simp only [tT, sz]; omega
def Table2Fn (F : Fn) : Prop := ∀ (deep : List Int) (st : Int), DkOk deep st → ∀ (most : Int), 2 ≤ most → most ≤ 100 → ∃ t cells deep' st', F [dk deep st, .int most] = .ok (Tab.d t) [some (dk deep' st')] ∧ TabOk cells t ∧ ValsOk t ∧ t.words.length ≤ most.toNat ∧ DkOk deep' st' ∧ VMono t
def DeckFn (F : Fn) : Prop := ∀ ns : List Int, ns.length ≤ 63 → ∃ deep st, F [script ns] = .ok (dk deep st) [] ∧ DkOk deep st
theorem ints_rng {n : Int} : ∀ d ∈ rngD 0 n, ∃ i : Int, d = .int i := fun d hd => by
  rw [rngD_i] at hd
  obtain ⟨i, _, rfl⟩ := List.mem_map.mp hd
  exact ⟨i, rfl⟩
theorem lift {P : Fn → Prop} {i a b : Nat} (h : a = b) (x : P (Gam l a i)) : P (Gam l b i) := h ▸ x
theorem path_fits {p : Pth} (hl : Leaf p.2) (hq : ∀ q ∈ p.1, QQ q) (h8 : p.1.length ≤ 8) : (pthD p).depth ≤ 3 ∧ tx (pthD p) = true ∧ sz (pthD p) ≤ 900 := by
  obtain ⟨_, l1, l2, l3⟩ := hl.fits
  obtain ⟨a1, a2, a3⟩ := tT_fits (xs := p.1.map (·.1)) (n := 8) (fun r hr => by obtain ⟨q, hqm, rfl⟩ := List.mem_map.mp hr; exact (hq q hqm).1) (by simpa using h8)
  obtain ⟨b1, b2, b3⟩ := tT_fits (xs := p.1.map (·.2)) (n := 8) (fun r hr => by obtain ⟨q, hqm, rfl⟩ := List.mem_map.mp hr; exact (hq q hqm).2) (by simpa using h8)
  have e : pthD p = .tuple [tT (p.1.map (·.1)), tT (p.1.map (·.2)), p.2] := rfl
  rw [e]
  generalize tT (p.1.map (·.1)) = X at *
  generalize tT (p.1.map (·.2)) = Y at *
  refine ⟨?_, ?_, ?_⟩
  · simp only [PyData.depth, PyData.depthAll]; omega
  · simp only [tx, txs, a2, b2, l2, Bool.and_self]
  · simp only [sz, szs]; omega
theorem two_fits {L : List Pth} (h : ∀ p ∈ L, Leaf p.2 ∧ (∀ q ∈ p.1, QQ q) ∧ p.1.length ≤ 8) (hl : L.length < 64) : TxOk (.list [.tuple (L.map pthD), .tuple (L.map pthD)]) := by
  have key : ∀ d ∈ L.map pthD, d.depth ≤ 3 ∧ tx d = true ∧ sz d ≤ 900 := fun d hd => by
    obtain ⟨p, hp, rfl⟩ := List.mem_map.mp hd
    obtain ⟨h1, h2, h3⟩ := h p hp
    exact path_fits h1 h2 h3
  have q1 := depthAll_le fun d hd => (key d hd).1
  have q2 := txs_of fun d hd => (key d hd).2.1
  have q3 := szs_le fun d hd => (key d hd).2.2
  rw [List.length_map] at q3
  generalize L.map pthD = LL at *
  refine ⟨?_, ?_, ?_⟩
  · simp only [tx, txs, q2, Bool.and_self]
  · simp only [PyData.depth, PyData.depthAll]; omega
  · simp only [sz, szs, LIM]; omega
/-- what is due of a reader -/
structure RdOk (F1 F2 : Fn) (x : D) (L : List Pth) : Prop where
  p1 : F1 [x] = .ok (.tuple (L.map pthD)) []
  p2 : F2 [x, .tuple [], .tuple []] = .ok (.list (L.map pthD)) []
  len : L.length < 64
  unl : L.Pairwise fun p q => p.1 ≠ q.1
  tx : TxOk x
  tt : TxOk (.list [.tuple (L.map pthD), .tuple (L.map pthD)])
structure Fs (Γ : Nat → Fn) : Prop where
  deck : DeckFn (Γ i__law_deck)
  draw : DrawOk (Γ i__law_draw)
  pick : PickOk (Γ i__law_pick)
  table : Table2Fn (Γ i__law_table)
  reader : ReaderFn (Γ i__law_reader)
  far : FarFn (Γ i__law_far)
  pof4 : PofEx 4 (Γ i_paths_of)
  pof8 : PofEx 8 (Γ i_paths_of)
  lp4 : LPathsEx 4 (Γ i__law_paths)
  lp8 : LPathsEx 8 (Γ i__law_paths)
  wpof : ∀ ps : List (List Int × D), ps.length ≤ 1000 → (∀ p ∈ ps, Leaf p.2) → Γ i_paths_of [mkLook [0] ps] = .ok (.tuple ((flatP [0] ps).map pthD)) []
  wlp : ∀ ps : List (List Int × D), ps.length ≤ 1000 → (∀ p ∈ ps, Leaf p.2) → Γ i__law_paths [mkLook [0] ps, .tuple [], .tuple []] = .ok (.list ((flatP [0] ps).map pthD)) []
theorem pof_of {Γ : Nat → Fn} {x : D} {M : List D} (h : Γ i_paths_on [.tuple [], .tuple [], x] = .ok (.list M) []) : f_paths_of.sem Γ [x] = .ok (.tuple M) [] := by
  unfold Df.sem TV.run f_paths_of
  simp [Df.ios, iosOf, Sh.isM, callR, argD, outs, h, LIM]
theorem rd_drawn {Γ : Nat → Fn} (fs : Fs Γ) {cells : Nat} (hc : cells ≤ 3) {x : D} (lx : Lk cells 3 x) (ux : Uq 4 x) (cx : cntN 4 x ≤ 60) : RdOk (Γ i_paths_of) (Γ i__law_paths) x (pthF 4 [] x) := by
  have hl : (pthF 4 [] x).length < 64 := by have := pth_cnt (qs := []) lx.nd; have : (pthF 4 [] x).length ≤ cntN 4 x := this; omega
  obtain ⟨_, f1, f2, f3⟩ := lx.fits hc
  have nb : NB 4 = 35223 := rfl
  have f3 : sz x ≤ NB 4 := f3
  rw [nb] at f3
  exact { p1 := fs.pof4 cells x lx.nd, p2 := fs.lp4 cells [] x lx.nd (by simp), len := hl, unl := pth_unlike lx.nd ux, tx := ⟨f2, by omega, by unfold LIM; omega⟩,
          tt := two_fits (fun p hp => by obtain ⟨h1, h2, h3⟩ := pth_qq hc lx.nd (qs := []) (fun q hq => by cases hq) p hp; exact ⟨h1, h2, by simp at h3; omega⟩) hl }
theorem rd_row {Γ : Nat → Fn} (fs : Fs Γ) {x : D} (h : Row1 7 x) : RdOk (Γ i_paths_of) (Γ i__law_paths) x (pthF 8 [] x) := by
  obtain ⟨n, u, z, l⟩ := row_nd (by omega) h
  have hl : (pthF 8 [] x).length < 64 := by have := l []; have : (pthF 8 [] x).length ≤ 1 + 2 * 7 := this; omega
  obtain ⟨_, f1, f2, _⟩ := Nd.fits (c := 1) (by omega) n
  exact { p1 := fs.pof8 1 x n, p2 := fs.lp8 1 [] x n (by simp), len := hl, unl := pth_unlike n u, tx := ⟨f2, by omega, by unfold LIM; omega⟩,
          tt := two_fits (fun p hp => by obtain ⟨h1, h2, h3⟩ := pth_qq (c := 1) (by omega) n (qs := []) (fun q hq => by cases hq) p hp; exact ⟨h1, h2, by simpa using h3⟩) hl }
theorem one_fits {i : Int} (h0 : 0 ≤ i) (h1 : i < 1000) : tx (tI [i]) = true ∧ sz (tI [i]) ≤ 51 := ⟨tI_tx fun j hj => by simp at hj; omega, by simp [tI, sz, szs]⟩
theorem rd_wide {Γ : Nat → Fn} (fs : Fs Γ) {x : D} (h : Wide x) : ∃ L, RdOk (Γ i_paths_of) (Γ i__law_paths) x L := by
  obtain ⟨ps, h1, h2, h3, rfl⟩ := h
  have hin : ∀ p ∈ ps, ∃ i : Int, p.1 = [i] ∧ 0 ≤ i ∧ i < 59 := fun p hp => by
    have : p.1 ∈ ps.map (·.1) := List.mem_map.mpr ⟨p, hp, rfl⟩
    rw [h2] at this
    obtain ⟨i, hi, e⟩ := List.mem_map.mp this
    unfold rngI at hi
    obtain ⟨j, hj, rfl⟩ := List.mem_map.mp hi
    rw [List.mem_range] at hj
    exact ⟨_, e.symm, by omega, by simp at hj; omega⟩
  refine ⟨flatP [0] ps, { p1 := fs.wpof ps (by omega) h3, p2 := fs.wlp ps (by omega) h3, len := by unfold flatP; rw [List.length_map]; omega, unl := ?_, tx := ?_, tt := two_fits (fun p hp => ?_) (by unfold flatP; rw [List.length_map]; omega) }⟩
  · unfold flatP
    rw [List.pairwise_map]
    have nd : (ps.map (·.1)).Pairwise (· ≠ ·) := by
      rw [h2, List.pairwise_map]
      unfold rngI
      rw [List.pairwise_map]
      exact List.pairwise_lt_range.imp fun {a b} hab e => by simp at e; omega
    rw [List.pairwise_map] at nd
    exact nd.imp fun {a b} hab e => by simp at e; exact hab e
  · have key : ∀ d ∈ ps.map pairD, d.depth ≤ 2 ∧ tx d = true ∧ sz d ≤ 100 := fun d hd => by
      obtain ⟨p, hp, rfl⟩ := List.mem_map.mp hd
      obtain ⟨i, e, i0, i1⟩ := hin p hp
      obtain ⟨_, l1, l2, l3⟩ := (h3 p hp).fits
      obtain ⟨t1, t2⟩ := one_fits i0 (show i < 1000 by omega)
      have td := tI_dp [i]
      unfold pairD
      rw [e]
      refine ⟨?_, ?_, ?_⟩
      · simp only [PyData.depth, PyData.depthAll]; omega
      · simp only [tx, txs, t1, l2, Bool.and_self]
      · simp only [sz, szs]; omega
    have q1 := depthAll_le fun d hd => (key d hd).1
    have q2 := txs_of fun d hd => (key d hd).2.1
    have q3 := szs_le fun d hd => (key d hd).2.2
    rw [List.length_map] at q3
    obtain ⟨t1, t2⟩ := one_fits (i := 0) (by omega) (by omega)
    have td := tI_dp [0]
    have e2 : (reprText "look").length ≤ 12 := by decide +kernel
    have e3 : PyData.strOk (reprText "look") = true := by decide +kernel
    unfold mkLook
    generalize ps.map pairD = PP at *
    refine ⟨?_, ?_, ?_⟩
    · simp only [tx, txs, t1, q2, e3, decide_eq_true e2, Bool.and_self]
    · simp only [PyData.depth, PyData.depthAll]; omega
    · simp only [sz, szs, LIM]; omega
  · unfold flatP at hp
    obtain ⟨b, hb, rfl⟩ := List.mem_map.mp hp
    obtain ⟨i, e, i0, i1⟩ := hin b hb
    refine ⟨h3 b hb, fun q hq => ?_, by simp⟩
    simp only [List.mem_cons, List.not_mem_nil, or_false] at hq
    subst hq
    refine ⟨one_fits (by omega) (by omega), ?_⟩
    show tx (tI b.1) = true ∧ sz (tI b.1) ≤ 51
    rw [e]
    exact one_fits i0 (by omega)

end Tx
namespace Tx
open PySem PySem.Spec PyProof.Rows L2 TV
abbrev retF : Ss := .cons (.ret (.c (.bool false))) .nil
abbrev parS : S := .par [6, 7] (.cons (.b1 .repr (.v 4)) (.cons (.b1 .tup (.call i__law_paths (.val (.v 4) (.val (.tup .nil) (.val (.tup .nil) .nil))))) .nil))
abbrev tldS : S := .asg (.v 5) (.ite (.b2 .eq (.v 2) (.c (.int 0))) (.callK i_paths_of [0] .nil (.cons (.v 4) .nil)) (.call i_paths_of (.val (.v 4) .nil)))
abbrev cmpS : S := .ifs (.or_ (.b2 .ne (.b1 .repr (.lst (.cons (.v 5) (.cons (.call i_paths_of (.val (.v 4) .nil)) .nil)))) (.b1 .repr (.lst (.cons (.v 7) (.cons (.v 7) .nil))))) (.b2 .ne (.b1 .repr (.v 4)) (.v 6))) retF .nil
abbrev trioT : Tg := .t (.cons (.v 8) (.cons (.v 9) (.cons (.v 10) .nil)))
abbrev setS : S := .ifs (.b2 .ne (.b1 .nSetL (.lc [8, 9, 10] (.seq (.v 5)) trioT e0_law)) (.b1 .len (.v 5))) retF .nil
/-- a reader judged -/
theorem judged {Γ : Nat → Fn} {x : D} {L : List Pth} (h : RdOk (Γ i_paths_of) (Γ i__law_paths) x L) {tn : Int} {a0 a1 a3 a5 a6 a7 a8 a9 a10 : Option D} :
    ∃ (b5 b6 b7 : Option D), exSs Γ (.cons parS (.cons tldS (.cons cmpS (.cons setS .nil)))) [a0, a1, some (.int tn), a3, some x, a5, a6, a7, a8, a9, a10] = .nx [a0, a1, some (.int tn), a3, some x, b5, b6, b7, a8, a9, a10] := by
  obtain ⟨p1, p2, hl, hu, tx, tt⟩ := h
  have rx := o_repr tx
  have ex := eq_shown tx
  have rt := o_repr tt
  have et := eq_shown tt
  have ll : (L.map pthD).length = L.length := List.length_map _
  have ns := o_nSet hu hl
  have m0 := fun (a5 a6 a7 : Option D) => lcF_fm (ρ := [a0, a1, some (.int tn), a3, some x, a5, a6, a7, none, none, none]) (body := lcT [8, 9, 10] trioT (allD (evE Γ e0_law))) (g := pthD) (f := fun p : Pth => some (.tuple [lksD p.1, wrdD p.1])) L (fun p hp => by
    unfold pthD
    generalize lksD p.1 = A
    generalize wrdD p.1 = B
    simp [lcT, trioT, bindT, bindTs, allD, wipeE, e0_law, LIM])
  have fm : L.filterMap (fun p : Pth => some (PyData.tuple [lksD p.1, wrdD p.1])) = L.map fun p : Pth => PyData.tuple [lksD p.1, wrdD p.1] := by
    rw [show (fun p : Pth => some (PyData.tuple [lksD p.1, wrdD p.1])) = some ∘ (fun p : Pth => PyData.tuple [lksD p.1, wrdD p.1]) from rfl, List.filterMap_eq_map]
  rw [fm] at m0
  have hlc := fun (a6 a7 : Option D) => lcD_ok (vs := [8, 9, 10]) (tg := trioT) (w := evW Γ (W.seq (.v 5))) (body := allD (evE Γ e0_law)) (ρ := [a0, a1, some (.int tn), a3, some x, some (.tuple (L.map pthD)), a6, a7, a8, a9, a10]) (ρ1 := [a0, a1, some (.int tn), a3, some x, some (.tuple (L.map pthD)), a6, a7, a8, a9, a10]) (by simp) (by simp [LIM]; omega) (m0 _ a6 a7)
  have bk : ∀ (a5 a6 a7 : Option D), backE [a0, a1, some (.int tn), a3, some x, a5, a6, a7, a8, a9, a10] [a0, a1, some (.int tn), a3, some x, a5, a6, a7, none, none, none] [8, 9, 10] = [a0, a1, some (.int tn), a3, some x, a5, a6, a7, a8, a9, a10] := fun _ _ _ => rfl
  generalize (L.map fun p : Pth => PyData.tuple [lksD p.1, wrdD p.1]) = NN at *
  generalize L.map pthD = PP at *
  generalize x.shown = sx at *
  generalize PyData.shown (.list [.tuple PP, .tuple PP]) = st at *
  refine ⟨some (.tuple PP), some (.str sx), some (.tuple PP), ?_⟩
  have s1 : exS Γ parS [a0, a1, some (.int tn), a3, some x, a5, a6, a7, a8, a9, a10] = .nx [a0, a1, some (.int tn), a3, some x, a5, some (.str sx), some (.tuple PP), a8, a9, a10] := by
    simp [rx, callR, argD, outs, p2, TV.bindL, LIM]
  have s2 : exS Γ tldS [a0, a1, some (.int tn), a3, some x, a5, some (.str sx), some (.tuple PP), a8, a9, a10] = .nx [a0, a1, some (.int tn), a3, some x, some (.tuple PP), some (.str sx), some (.tuple PP), a8, a9, a10] := by
    by_cases h : tn = 0
    · simp [h, eq_int, permA, callR, argD, outs, p1]
    · simp [h, eq_int, callR, argD, outs, p1]
  have s3 : exS Γ cmpS [a0, a1, some (.int tn), a3, some x, some (.tuple PP), some (.str sx), some (.tuple PP), a8, a9, a10] = .nx [a0, a1, some (.int tn), a3, some x, some (.tuple PP), some (.str sx), some (.tuple PP), a8, a9, a10] := by
    simp [callR, argD, outs, p1, LIM, rt, et, rx, ex]
  have s4 : exS Γ setS [a0, a1, some (.int tn), a3, some x, some (.tuple PP), some (.str sx), some (.tuple PP), a8, a9, a10] = .nx [a0, a1, some (.int tn), a3, some x, some (.tuple PP), some (.str sx), some (.tuple PP), a8, a9, a10] := by
    simp [hlc, wipeE, bk, ns, ll, eq_int]
  rw [ss_cons, s1, Fl.thn_nx, ss_cons, s2, Fl.thn_nx, ss_cons, s3, Fl.thn_nx, ss_cons, s4]
  rfl
theorem turn_sem {Γ : Nat → Fn} (fs : Fs Γ) {tn : Int} {deep : List Int} {st : Int} (ok : DkOk deep st) {a0 a3 a4 a5 a6 a7 a8 a9 a10 : Option D} :
    ∃ (b3 b4 b5 b6 b7 : Option D) (deep' : List Int) (st' : Int), exSs Γ b0_law [a0, some (dk deep st), some (.int tn), a3, a4, a5, a6, a7, a8, a9, a10] = .nx [a0, some (dk deep' st'), some (.int tn), b3, b4, b5, b6, b7, a8, a9, a10] ∧ DkOk deep' st' := by
  obtain ⟨t, cells, d1, s1, e1, tok, vok, l1, ok1, _⟩ := fs.table _ _ ok 6 (by decide) (by decide)
  have t60 : t.words.length ≤ 60 := by simp at l1; omega
  have c3 := tok.c3
  obtain ⟨dep, hdep, d2, s2, e2, ok2⟩ : ∃ (dep : Int), dep ≤ 4 ∧ ∃ (d2 : List Int) (s2 : Int), evE Γ (.ite (.b2 .lt (.v 2) (.c (.int 7))) (.call i__law_pick (.io 1 (.val (.lst (.cons (.c (.int 1)) (.cons (.c (.int 2)) (.cons (.c (.int 3)) (.cons (.c (.int 4)) .nil))))) .nil))) (.c (.int 1))) [a0, some (dk d1 s1), some (.int tn), some t.d, a4, a5, a6, a7, a8, a9, a10] = .ok (.int dep) [a0, some (dk d2 s2), some (.int tn), some t.d, a4, a5, a6, a7, a8, a9, a10] ∧ DkOk d2 s2 := by
    by_cases h : tn < 7
    · obtain ⟨i, hi, d2, s2, e2, ok2⟩ := leaf_pick fs.pick ok1 [1, 2, 3, 4] (by simp) (by simp) _ (.inl rfl)
      simp only [List.map_cons, List.map_nil] at e2
      exact ⟨i, by simp at hi; omega, d2, s2, by simp [h, callR, argD, outs, LIM, e2], ok2⟩
    · exact ⟨1, by omega, d1, s1, by simp [h], ok1⟩
  obtain ⟨x, d3, s3, e3, ⟨lx, ux, cx⟩, ok3⟩ := fs.reader ok2 tok vok t60 dep hdep
  have st1 : exS Γ (.asg (.v 3) (.call i__law_table (.io 1 (.val (.c (.int 6)) .nil)))) [a0, some (dk deep st), some (.int tn), a3, a4, a5, a6, a7, a8, a9, a10] = .nx [a0, some (dk d1 s1), some (.int tn), some t.d, a4, a5, a6, a7, a8, a9, a10] := by
    simp [callR, argD, outs, e1]
  have st2 : ∀ E4, evE Γ E4 [a0, some (dk d1 s1), some (.int tn), some t.d, a4, a5, a6, a7, a8, a9, a10] = .ok (.int dep) [a0, some (dk d2 s2), some (.int tn), some t.d, a4, a5, a6, a7, a8, a9, a10] → exS Γ (.asg (.v 4) (.call i__law_reader (.io 1 (.val (.v 3) (.val E4 .nil))))) [a0, some (dk d1 s1), some (.int tn), some t.d, a4, a5, a6, a7, a8, a9, a10] = .nx [a0, some (dk d3 s3), some (.int tn), some t.d, some x, a5, a6, a7, a8, a9, a10] := fun E4 h => by
    simp [callR, argD, outs, h, e3]
  obtain ⟨y, L, d4, s4, e4, hy, ok4⟩ : ∃ (y : D) (L : List Pth) (d4 : List Int) (s4 : Int), exS Γ (.asg (.v 4) (.ite (.b2 .eq (.v 2) (.c (.int 8))) (.call i__law_far (.io 1 .nil)) (.v 4))) [a0, some (dk d3 s3), some (.int tn), some t.d, some x, a5, a6, a7, a8, a9, a10] = .nx [a0, some (dk d4 s4), some (.int tn), some t.d, some y, a5, a6, a7, a8, a9, a10] ∧ RdOk (Γ i_paths_of) (Γ i__law_paths) y L ∧ DkOk d4 s4 := by
    by_cases h : tn = 8
    · obtain ⟨y, d4, s4, e4, ok4, hy⟩ := fs.far _ _ ok3
      have hL : ∃ L, RdOk (Γ i_paths_of) (Γ i__law_paths) y L := by
        rcases hy with hw | hr
        · exact rd_wide fs hw
        · exact ⟨_, rd_row fs hr⟩
      obtain ⟨L, hL⟩ := hL
      exact ⟨y, L, d4, s4, by simp [h, eq_int, callR, argD, outs, e4], hL, ok4⟩
    · exact ⟨x, _, d3, s3, by simp [h, eq_int], rd_drawn fs c3 lx ux cx, ok3⟩
  obtain ⟨b5, b6, b7, e5⟩ := judged hy (tn := tn) (a0 := a0) (a1 := some (dk d4 s4)) (a3 := some t.d) (a5 := a5) (a6 := a6) (a7 := a7) (a8 := a8) (a9 := a9) (a10 := a10)
  refine ⟨some t.d, some y, b5, b6, b7, d4, s4, ?_, ok4⟩
  have hb0 : b0_law = .cons (.asg (.v 3) (.call i__law_table (.io 1 (.val (.c (.int 6)) .nil)))) (.cons (.asg (.v 4) (.call i__law_reader (.io 1 (.val (.v 3) (.val (.ite (.b2 .lt (.v 2) (.c (.int 7))) (.call i__law_pick (.io 1 (.val (.lst (.cons (.c (.int 1)) (.cons (.c (.int 2)) (.cons (.c (.int 3)) (.cons (.c (.int 4)) .nil))))) .nil))) (.c (.int 1))) .nil))))) (.cons (.asg (.v 4) (.ite (.b2 .eq (.v 2) (.c (.int 8))) (.call i__law_far (.io 1 .nil)) (.v 4))) (.cons parS (.cons tldS (.cons cmpS (.cons setS .nil)))))) := rfl
  rw [hb0, ss_cons, st1, Fl.thn_nx, ss_cons, st2 _ e2, Fl.thn_nx, ss_cons, e4, Fl.thn_nx, e5]
theorem outer {Γ : Nat → Fn} (fs : Fs Γ) {a0 : Option D} : ∀ (ds : List D), (∀ d ∈ ds, ∃ i : Int, d = .int i) → ∀ (deep : List Int) (st : Int) (a2 a3 a4 a5 a6 a7 a8 a9 a10 : Option D), DkOk deep st →
    ∃ (ρ : TV.Env), forF (forT (Tg.v 2) (exSs Γ b0_law)) ds [a0, some (dk deep st), a2, a3, a4, a5, a6, a7, a8, a9, a10] = .nx (a0 :: ρ)
  | [], _, deep, st, a2, a3, a4, a5, a6, a7, a8, a9, a10, _ => ⟨_, rfl⟩
  | d :: ds, hd, deep, st, a2, a3, a4, a5, a6, a7, a8, a9, a10, ok => by
    obtain ⟨tn, rfl⟩ := hd d List.mem_cons_self
    obtain ⟨b3, b4, b5, b6, b7, d1, s1, e1, ok1⟩ := turn_sem fs (tn := tn) ok (a0 := a0) (a3 := a3) (a4 := a4) (a5 := a5) (a6 := a6) (a7 := a7) (a8 := a8) (a9 := a9) (a10 := a10)
    obtain ⟨ρ, e2⟩ := outer fs ds (fun d h => hd d (List.mem_cons_of_mem _ h)) d1 s1 (some (.int tn)) b3 b4 b5 b6 b7 a8 a9 a10 ok1
    refine ⟨ρ, ?_⟩
    have st : forT (Tg.v 2) (exSs Γ b0_law) (.int tn) [a0, some (dk deep st), a2, a3, a4, a5, a6, a7, a8, a9, a10] = .nx [a0, some (dk d1 s1), some (.int tn), b3, b4, b5, b6, b7, a8, a9, a10] := by
      rw [forT_v]
      exact e1
    simp only [forF, st]
    exact e2
theorem law_sem {Γ : Nat → Fn} (fs : Fs Γ) (ns : List Int) (hl : ns.length ≤ 63) : f_law.sem Γ [script ns] = .ok (.bool true) [] := by
  obtain ⟨d0, s0, e0, ok0⟩ := fs.deck ns hl
  obtain ⟨ρ, e3⟩ := outer fs (a0 := some (script ns)) (rngD 0 9) ints_rng d0 s0 none none none none none none none none none ok0
  unfold Df.sem TV.run f_law
  simp [Df.ios, iosOf, Sh.isM, callR, argD, outs, e0, rng1K_i (n := (9 : Int)) (by decide) (by decide), e3]

end Tx
namespace Tx
open PySem PySem.Spec PyProof.Rows L2 TV
theorem pick_k (k : Nat) : PickOk (Gam l (k + 2) i__law_pick) := @pick_sem (Gam l (k + 1)) (@drawOk k)
theorem lot_k (k : Nat) : LotFn (Gam l (k + 2) i__law_lot) := fun {_ _} ok {_} c1 c2 => lot_sem (drawOk k) ok c1 c2
theorem shown_k (k : Nat) : ShownFn (Gam l (k + 1) i__law_shown) := fun {_ _} ok {_} hl hn {_ _} hs => shown_sem _ ok hl hn hs
theorem leaf_k (k : Nat) : LeafFn (Gam l (k + 3) i__law_leaf) := fun {_ _} ok {_} ht => leaf_sem (drawOk (k + 1)) (pick_k k) ok ht
theorem node_k (k : Nat) (m : Nat) : NodeFn m (Gam l (k + 4 + m) i__law_node) := by
  induction m with
  | zero => exact @node_sem (Gam l (k + 3)) (@drawOk (k + 2)) (@pick_k (k + 1)) (@lot_k (k + 1)) (@shown_k (k + 2)) (@leaf_k k) 0 (fun m' h => by omega)
  | succ m ih => exact @node_sem (Gam l (k + 4 + m)) (@lift DrawOk _ _ _ (by omega) (@drawOk (k + 3 + m))) (@lift PickOk _ _ _ (by omega) (@pick_k (k + 2 + m))) (@lift LotFn _ _ _ (by omega) (@lot_k (k + 2 + m))) (@lift ShownFn _ _ _ (by omega) (@shown_k (k + 3 + m))) (@lift LeafFn _ _ _ (by omega) (@leaf_k (k + 1 + m))) (m + 1) (fun m' h => by
      have : m' = m := by omega
      subst this
      exact @ih)
theorem countEx_k (c k : Nat) : ∀ m, CountEx c m (Gam l (k + 1 + m) i__law_count)
  | 0 => countEx_sem (fun k' h => by omega)
  | m + 1 => countEx_sem (fun k' h => by
      have : k' = m := by omega
      subst this
      exact countEx_k c k k')
theorem table_k (k : Nat) : Table2Fn (Gam l (k + 3) i__law_table) := fun _ _ ok _ m1 m2 => table_sem (drawOk (k + 1)) (pick_k k) ok m1 m2
theorem deck_k (k : Nat) : DeckFn (Gam l (k + 1) i__law_deck) := fun ns hl => deck_sem _ ns hl
theorem reader_k (k : Nat) : ReaderFn (Gam l (k + 8) i__law_reader) := @reader_sem (Gam l (k + 7)) (@node_k k 3) (@node_k (k + 2) 1) (fun c => by have := countEx_k c (k + 2) 4; exact this)
theorem pathsEx_k (k : Nat) (m : Nat) (hm : m ≤ 8) : PathsEx m (Gam l (k + 1 + m) i_paths_on) := by
  induction m with
  | zero => exact pathsEx_sem hm (fun k' h => by omega)
  | succ m ih => exact pathsEx_sem hm (fun k' h => by
      have : k' = m := by omega
      subst this
      exact ih (by omega))
theorem lpathsEx_k (k : Nat) (m : Nat) (hm : m ≤ 8) : LPathsEx m (Gam l (k + 1 + m) i__law_paths) := by
  induction m with
  | zero => exact lpathsEx_sem hm (fun k' h => by omega)
  | succ m ih => exact lpathsEx_sem hm (fun k' h => by
      have : k' = m := by omega
      subst this
      exact ih (by omega))
theorem fs_k (k : Nat) : Fs (Gam l (k + 11)) where
  deck := deck_k (k + 10)
  draw := @drawOk (k + 10)
  pick := @pick_k (k + 9)
  table := table_k (k + 8)
  reader := @reader_k (k + 3)
  far := far_sem (Γ := Gam l (k + 10)) (@drawOk (k + 9)) (@pick_k (k + 8))
  pof4 := pofEx_sem (Γ := Gam l (k + 10)) (by decide) (pathsEx_k (k + 5) 4 (by decide))
  pof8 := pofEx_sem (Γ := Gam l (k + 10)) (by decide) (pathsEx_k (k + 1) 8 (by decide))
  lp4 := lpathsEx_k (k + 6) 4 (by decide)
  lp8 := lpathsEx_k (k + 2) 8 (by decide)
  wpof := fun ps h1 h2 => pof_of (Γ := Gam l (k + 10)) (paths_flat (Γ := Gam l (k + 9)) (pathsEx_k (k + 8) 0 (by decide)) (c := 1) h1 h2)
  wlp := fun ps h1 h2 => lpaths_flat (Γ := Gam l (k + 10)) (lpathsEx_k (k + 9) 0 (by decide)) (c := 1) h1 h2
theorem law_k (k : Nat) (ns : List Int) (hl : ns.length ≤ 63) : Gam l (k + 12) i_law [script ns] = .ok (.bool true) [] := law_sem (fs_k k) ns hl

end Tx
namespace Hd
open PySem PySem.Spec PyProof.Rows L2 Tx
def clsBody : Stmt → List Stmt
  | .ClassDef _ _ _ b _ _ _ _ _ _ _ => b
  | _ => []
def sub (i j : Nat) : Stmt := (clsBody (top i)).getD j (.Pass ⟨0, 0, 0, 0⟩)
def d0 : He.DefD := ⟨("paths_on", none), "paths_on", "paths_on", defArgs (top 1), defBody (top 1), defScope (top 1), [], []⟩
def d1 : He.DefD := ⟨("paths_of", none), "paths_of", "paths_of", defArgs (top 2), defBody (top 2), defScope (top 2), [], []⟩
def d2 : He.DefD := ⟨("_law_deck", none), "_law_deck", "_law_deck", defArgs (top 4), defBody (top 4), defScope (top 4), [], []⟩
def d3 : He.DefD := ⟨("_law_draw", none), "_law_draw", "_law_draw", defArgs (top 5), defBody (top 5), defScope (top 5), [], []⟩
def d4 : He.DefD := ⟨("_law_pick", none), "_law_pick", "_law_pick", defArgs (top 6), defBody (top 6), defScope (top 6), [], []⟩
def d5 : He.DefD := ⟨("_law_table", none), "_law_table", "_law_table", defArgs (top 7), defBody (top 7), defScope (top 7), [], []⟩
def d6 : He.DefD := ⟨("_law_lot", none), "_law_lot", "_law_lot", defArgs (top 8), defBody (top 8), defScope (top 8), [], []⟩
def d7 : He.DefD := ⟨("_law_shown", none), "_law_shown", "_law_shown", defArgs (top 9), defBody (top 9), defScope (top 9), [], []⟩
def d8 : He.DefD := ⟨("_law_leaf", none), "_law_leaf", "_law_leaf", defArgs (top 10), defBody (top 10), defScope (top 10), [], []⟩
def d9 : He.DefD := ⟨("_law_node", none), "_law_node", "_law_node", defArgs (top 11), defBody (top 11), defScope (top 11), [], []⟩
def d10 : He.DefD := ⟨("_law_count", none), "_law_count", "_law_count", defArgs (top 12), defBody (top 12), defScope (top 12), [], []⟩
def d11 : He.DefD := ⟨("_law_reader", none), "_law_reader", "_law_reader", defArgs (top 13), defBody (top 13), defScope (top 13), [], []⟩
def d12 : He.DefD := ⟨("_law_paths", none), "_law_paths", "_law_paths", defArgs (top 14), defBody (top 14), defScope (top 14), [], []⟩
def d13 : He.DefD := ⟨("_law_far", none), "_law_far", "_law_far", defArgs (top 15), defBody (top 15), defScope (top 15), [], []⟩
def d14 : He.DefD := ⟨("law", none), "law", "law", defArgs (top 16), defBody (top 16), defScope (top 16), [], []⟩
def fn : List He.DefD := [d0, d1, d2, d3, d4, d5, d6, d7, d8, d9, d10, d11, d12, d13, d14]
def fa : List He.Fa := [.glo "paths_on", .glo "paths_of", .glo "_law_deck", .glo "_law_draw", .glo "_law_pick", .glo "_law_table", .glo "_law_lot", .glo "_law_shown", .glo "_law_leaf", .glo "_law_node", .glo "_law_count", .glo "_law_reader", .glo "_law_paths", .glo "_law_far", .glo "law", .free "abs", .free "int", .free "len", .free "list", .free "max", .free "range", .free "repr", .free "set", .free "sorted", .free "sum", .free "tuple"]
abbrev R : PySem.W.OpenRow := PySem.W.OpenLaw.row PySem.Challenge.rw_tornreads_k68_whole_paths_of_readers
abbrev hk : PySem.W.Hook := He.hookD 5 fa fn
def ob (s : PySem.W.SharedT) : He.AlD := He.obsDG 5 fa fn (HandSHeadRun.getT s)
theorem ob_eq (s : PySem.W.SharedT) : ob s = hk.obs s.abs := He.obsDG_eq (HandSHeadRun.getT_eq s)
def loose : List Str := (["_law_reader", "_law_pick", "_law_draw", "_law_node", "paths_on", "_law_count", "_law_leaf", "_law_far", "_law_table", "_law_lot", "_law_deck", "paths_of", "_law_paths", "_law_shown"] : List Str)
theorem run (w : World) : HandSHeadRun.RunEq R (PySem.W.view R.prog [16]) hk ob 20000 loose w := by
  intro os
  kernel_rfl
end Hd

namespace Hd
open PySem PySem.Spec PyProof.Rows L2 TV Tx
section
variable {K : PySem.W.Frag} {h : Heap} {mg : Str → Option Value}
theorem ok0 (X : K.In h) (G : h.Ns mainGlobals mg) (c : He.SaysD fa fn K) : ∃ f fd, DfOk K mg l B f_paths_on f fd := by
  obtain ⟨fd, F⟩ := c.def_ 0 (d := d0) rfl
  exact ⟨_, fd, ⟨_, _, _, _, _, _, _, F, ck_paths_on⟩, He.glo_ok X G (c.fact 0 (f := .glo "paths_on") rfl), F.bindsN fun _ _ _ _ _ _ us hl => match us, hl with | [_, _, _], _ => rfl, kb_nil⟩
theorem ok1 (X : K.In h) (G : h.Ns mainGlobals mg) (c : He.SaysD fa fn K) : ∃ f fd, DfOk K mg l B f_paths_of f fd := by
  obtain ⟨fd, F⟩ := c.def_ 1 (d := d1) rfl
  exact ⟨_, fd, ⟨_, _, _, _, _, _, _, F, ck_paths_of⟩, He.glo_ok X G (c.fact 1 (f := .glo "paths_of") rfl), F.bindsN fun _ _ _ _ _ _ us hl => match us, hl with | [_], _ => rfl, kb_cons (kbd_of F fun _ _ _ _ _ _ us ws h1 h2 => match us, ws, h1, h2 with | [], [_], _, _ => rfl) (kb_nil)⟩
theorem ok2 (X : K.In h) (G : h.Ns mainGlobals mg) (c : He.SaysD fa fn K) : ∃ f fd, DfOk K mg l B f__law_deck f fd := by
  obtain ⟨fd, F⟩ := c.def_ 2 (d := d2) rfl
  exact ⟨_, fd, ⟨_, _, _, _, _, _, _, F, ck__law_deck⟩, He.glo_ok X G (c.fact 2 (f := .glo "_law_deck") rfl), F.bindsN fun _ _ _ _ _ _ us hl => match us, hl with | [_], _ => rfl, kb_nil⟩
theorem ok3 (X : K.In h) (G : h.Ns mainGlobals mg) (c : He.SaysD fa fn K) : ∃ f fd, DfOk K mg l B f__law_draw f fd := by
  obtain ⟨fd, F⟩ := c.def_ 3 (d := d3) rfl
  exact ⟨_, fd, ⟨_, _, _, _, _, _, _, F, ck__law_draw⟩, He.glo_ok X G (c.fact 3 (f := .glo "_law_draw") rfl), F.bindsN fun _ _ _ _ _ _ us hl => match us, hl with | [_, _], _ => rfl, kb_nil⟩
theorem ok4 (X : K.In h) (G : h.Ns mainGlobals mg) (c : He.SaysD fa fn K) : ∃ f fd, DfOk K mg l B f__law_pick f fd := by
  obtain ⟨fd, F⟩ := c.def_ 4 (d := d4) rfl
  exact ⟨_, fd, ⟨_, _, _, _, _, _, _, F, ck__law_pick⟩, He.glo_ok X G (c.fact 4 (f := .glo "_law_pick") rfl), F.bindsN fun _ _ _ _ _ _ us hl => match us, hl with | [_, _], _ => rfl, kb_nil⟩
theorem ok5 (X : K.In h) (G : h.Ns mainGlobals mg) (c : He.SaysD fa fn K) : ∃ f fd, DfOk K mg l B f__law_table f fd := by
  obtain ⟨fd, F⟩ := c.def_ 5 (d := d5) rfl
  exact ⟨_, fd, ⟨_, _, _, _, _, _, _, F, ck__law_table⟩, He.glo_ok X G (c.fact 5 (f := .glo "_law_table") rfl), F.bindsN fun _ _ _ _ _ _ us hl => match us, hl with | [_, _], _ => rfl, kb_nil⟩
theorem ok6 (X : K.In h) (G : h.Ns mainGlobals mg) (c : He.SaysD fa fn K) : ∃ f fd, DfOk K mg l B f__law_lot f fd := by
  obtain ⟨fd, F⟩ := c.def_ 6 (d := d6) rfl
  exact ⟨_, fd, ⟨_, _, _, _, _, _, _, F, ck__law_lot⟩, He.glo_ok X G (c.fact 6 (f := .glo "_law_lot") rfl), F.bindsN fun _ _ _ _ _ _ us hl => match us, hl with | [_, _], _ => rfl, kb_nil⟩
theorem ok7 (X : K.In h) (G : h.Ns mainGlobals mg) (c : He.SaysD fa fn K) : ∃ f fd, DfOk K mg l B f__law_shown f fd := by
  obtain ⟨fd, F⟩ := c.def_ 7 (d := d7) rfl
  exact ⟨_, fd, ⟨_, _, _, _, _, _, _, F, ck__law_shown⟩, He.glo_ok X G (c.fact 7 (f := .glo "_law_shown") rfl), F.bindsN fun _ _ _ _ _ _ us hl => match us, hl with | [_, _, _], _ => rfl, kb_nil⟩
theorem ok8 (X : K.In h) (G : h.Ns mainGlobals mg) (c : He.SaysD fa fn K) : ∃ f fd, DfOk K mg l B f__law_leaf f fd := by
  obtain ⟨fd, F⟩ := c.def_ 8 (d := d8) rfl
  exact ⟨_, fd, ⟨_, _, _, _, _, _, _, F, ck__law_leaf⟩, He.glo_ok X G (c.fact 8 (f := .glo "_law_leaf") rfl), F.bindsN fun _ _ _ _ _ _ us hl => match us, hl with | [_, _], _ => rfl, kb_nil⟩
theorem ok9 (X : K.In h) (G : h.Ns mainGlobals mg) (c : He.SaysD fa fn K) : ∃ f fd, DfOk K mg l B f__law_node f fd := by
  obtain ⟨fd, F⟩ := c.def_ 9 (d := d9) rfl
  exact ⟨_, fd, ⟨_, _, _, _, _, _, _, F, ck__law_node⟩, He.glo_ok X G (c.fact 9 (f := .glo "_law_node") rfl), F.bindsN fun _ _ _ _ _ _ us hl => match us, hl with | [_, _, _], _ => rfl, kb_nil⟩
theorem ok10 (X : K.In h) (G : h.Ns mainGlobals mg) (c : He.SaysD fa fn K) : ∃ f fd, DfOk K mg l B f__law_count f fd := by
  obtain ⟨fd, F⟩ := c.def_ 10 (d := d10) rfl
  exact ⟨_, fd, ⟨_, _, _, _, _, _, _, F, ck__law_count⟩, He.glo_ok X G (c.fact 10 (f := .glo "_law_count") rfl), F.bindsN fun _ _ _ _ _ _ us hl => match us, hl with | [_], _ => rfl, kb_nil⟩
theorem ok11 (X : K.In h) (G : h.Ns mainGlobals mg) (c : He.SaysD fa fn K) : ∃ f fd, DfOk K mg l B f__law_reader f fd := by
  obtain ⟨fd, F⟩ := c.def_ 11 (d := d11) rfl
  exact ⟨_, fd, ⟨_, _, _, _, _, _, _, F, ck__law_reader⟩, He.glo_ok X G (c.fact 11 (f := .glo "_law_reader") rfl), F.bindsN fun _ _ _ _ _ _ us hl => match us, hl with | [_, _, _], _ => rfl, kb_nil⟩
theorem ok12 (X : K.In h) (G : h.Ns mainGlobals mg) (c : He.SaysD fa fn K) : ∃ f fd, DfOk K mg l B f__law_paths f fd := by
  obtain ⟨fd, F⟩ := c.def_ 12 (d := d12) rfl
  exact ⟨_, fd, ⟨_, _, _, _, _, _, _, F, ck__law_paths⟩, He.glo_ok X G (c.fact 12 (f := .glo "_law_paths") rfl), F.bindsN fun _ _ _ _ _ _ us hl => match us, hl with | [_, _, _], _ => rfl, kb_nil⟩
theorem ok13 (X : K.In h) (G : h.Ns mainGlobals mg) (c : He.SaysD fa fn K) : ∃ f fd, DfOk K mg l B f__law_far f fd := by
  obtain ⟨fd, F⟩ := c.def_ 13 (d := d13) rfl
  exact ⟨_, fd, ⟨_, _, _, _, _, _, _, F, ck__law_far⟩, He.glo_ok X G (c.fact 13 (f := .glo "_law_far") rfl), F.bindsN fun _ _ _ _ _ _ us hl => match us, hl with | [_], _ => rfl, kb_nil⟩
theorem ok14 (X : K.In h) (G : h.Ns mainGlobals mg) (c : He.SaysD fa fn K) : ∃ f fd, DfOk K mg l B f_law f fd := by
  obtain ⟨fd, F⟩ := c.def_ 14 (d := d14) rfl
  exact ⟨_, fd, ⟨_, _, _, _, _, _, _, F, ck_law⟩, He.glo_ok X G (c.fact 14 (f := .glo "law") rfl), F.bindsN fun _ _ _ _ _ _ us hl => match us, hl with | [_], _ => rfl, kb_nil⟩
theorem oks (X : K.In h) (G : h.Ns mainGlobals mg) (c : He.SaysD fa fn K) : ∀ d ∈ l, ∃ f fd, DfOk K mg l B d f fd := all_cons (ok0 X G c) (all_cons (ok1 X G c) (all_cons (ok2 X G c) (all_cons (ok3 X G c) (all_cons (ok4 X G c) (all_cons (ok5 X G c) (all_cons (ok6 X G c) (all_cons (ok7 X G c) (all_cons (ok8 X G c) (all_cons (ok9 X G c) (all_cons (ok10 X G c) (all_cons (ok11 X G c) (all_cons (ok12 X G c) (all_cons (ok13 X G c) (all_cons (ok14 X G c) (all_nil)))))))))))))))
theorem frees (X : K.In h) (G : h.Ns mainGlobals mg) (c : He.SaysD fa fn K) : ∀ b ∈ B, Fr mg b := all_cons (He.free_ok X G (c.fact 15 (f := .free "abs") rfl)) (all_cons (He.free_ok X G (c.fact 16 (f := .free "int") rfl)) (all_cons (He.free_ok X G (c.fact 17 (f := .free "len") rfl)) (all_cons (He.free_ok X G (c.fact 18 (f := .free "list") rfl)) (all_cons (He.free_ok X G (c.fact 19 (f := .free "max") rfl)) (all_cons (He.free_ok X G (c.fact 20 (f := .free "range") rfl)) (all_cons (He.free_ok X G (c.fact 21 (f := .free "repr") rfl)) (all_cons (He.free_ok X G (c.fact 22 (f := .free "set") rfl)) (all_cons (He.free_ok X G (c.fact 23 (f := .free "sorted") rfl)) (all_cons (He.free_ok X G (c.fact 24 (f := .free "sum") rfl)) (all_cons (He.free_ok X G (c.fact 25 (f := .free "tuple") rfl)) (all_nil)))))))))))
theorem facts {P : Program} {w : World} {EX : D → Value → Option Addr → Hp → Hp → Prop} {f : Addr} (X : K.In h) (G : h.Ns mainGlobals mg) (hfa : mg ("law" : Str) = some (.ref f)) (c : He.SaysD fa fn K) :
    ∃ fd : FuncData, (∀ (s : Shared) (v : Value), BindsTo s fd ⟨[v], []⟩ [("script", v)]) ∧ ∀ base : Heap, K.In base → base.Ns mainGlobals mg → FnG P w K mg base (L2.CX P w) 12 f fd ["script"] (spOf K EX ⟨"law", [.z], .s, Gam l 12 14⟩) := by
  obtain ⟨fd0, F0⟩ := c.def_ 14 (d := d14) rfl
  have e0 := hfa.symm.trans (He.glo_ok X G (c.fact 14 (f := .glo "law") rfl))
  cases e0
  have b := FunD.bindsA (ps := ["script"]) F0 fun _ _ _ _ _ _ us hl => match us, hl with | [_], _ => rfl
  exact ⟨fd0, fun s v => b s [v] rfl, fun base _ _ => law_fn2 (i := 14) (d := f_law) (oks X G c) (frees X G c) rfl ⟨⟨_, _, _, _, _, _, _, F0, ck_law⟩, He.glo_ok X G (c.fact 14 (f := .glo "law") rfl), F0.bindsN fun _ _ _ _ _ _ us hl => match us, hl with | [_], _ => rfl, kb_nil⟩ 11⟩
end
end Hd
open PySem PySem.W PySem.Calls PyProof.Rows
theorem PySem.Challenge.cw_tornreads_k68_whole_paths_of_readers_holds : PySem.Challenge.rw_tornreads_k68_whole_paths_of_readers.Holds := by
  w_on; o_law
  refine HandSHeadRun.head_any (r := OpenLaw.row PySem.Challenge.rw_tornreads_k68_whole_paths_of_readers) (q := view (OpenLaw.row PySem.Challenge.rw_tornreads_k68_whole_paths_of_readers).prog [16]) (H := Hd.hk) (ob := Hd.ob) (M := 20000) (loose := Hd.loose) (d := HandSHeadRun.topDef (OpenLaw.row PySem.Challenge.rw_tornreads_k68_whole_paths_of_readers).prog 16) (kwd := []) Hd.ob_eq
    (by kernel_rfl) (fun s => by kernel_rfl) Hd.run (by kernel_rfl) (by kernel_rfl) (by kernel_rfl) (by rfl) (by first | assumption | decide +kernel) (by decide +kernel) ⟨rfl, rfl, rfl, rfl, rfl, by decide +kernel⟩ ?hw ?hc
  case hw => w_witness2
  case hc =>
    refine TV.walk_law (l := PySem.Challenge.rw_tornreads_k68_whole_paths_of_readers) (n := 63) (k := 12) (x := "script") rfl (by decide) (by kernel_rfl) ⟨rfl, by decide, by decide⟩ ?F
    intro w mg fa h Y G hmg0
    obtain ⟨K, KX, c⟩ := Y
    have hmg : mg ("law" : PySem.Str) = some (.ref fa) := by
      have e : (HandSHeadRun.topDef (OpenLaw.row PySem.Challenge.rw_tornreads_k68_whole_paths_of_readers).prog 16).name = ("law" : PySem.Str) := by kernel_rfl
      rw [← e]
      exact hmg0
    obtain ⟨fd, hb, hF⟩ := Hd.facts (P := (PySem.Challenge.rw_tornreads_k68_whole_paths_of_readers).prog) (w := w) (EX := fun _ _ _ _ _ => False) KX G hmg c
    exact ⟨K, fd, fun _ => _, KX, hb, fun ns hl => ⟨fun T a hS => TV.sp_law hS (Tx.law_k 0 ns hl), hF⟩⟩
